import PyProof.Rows.All
import Wide.All
import OpenK.AllK
import Wide.FinOn
import PySem.Challenge.RW_pq1093_01
set_option Elab.async false
set_option linter.all false
set_option genSizeOf false
section
open PySem PySem.W PyProof.Rows
namespace Mine

/-- abstract values -/
inductive D where
  | none
  | bool (b : Bool)
  | int (i : Int)
  | str (s : List Nat)
  | tup (xs : List D)
  | lst (xs : List D)
  | scr (xs : List Int)
  | obj (i : Nat)
  | sta (a : Addr)
  deriving Inhabited

/-- abstract objects of the store -/
inductive O where
  | lst (xs : List D)
  | dct (kvs : List (List Nat × D))
  | ins (c : Addr) (kvs : List (Nat × D))
  deriving Inhabited

structure St where
  loc : List (Option D)
  st : List O

noncomputable def St.put (σ : St) (i : Nat) (d : D) : St := ⟨σ.loc.set i (some d), σ.st⟩
noncomputable def St.new (σ : St) (o : O) : St := ⟨σ.loc, σ.st ++ [o]⟩
noncomputable def St.upd (σ : St) (i : Nat) (o : O) : St := ⟨σ.loc, σ.st.set i o⟩

inductive BOp where
  | add | sub | mul | fdiv | mod | pow
  deriving DecidableEq
inductive COp where
  | eq | ne | lt | le | gt | ge | isin | notin | is | isnot
  deriving DecidableEq
inductive BI where
  | len | str | repr
  deriving DecidableEq
inductive SM where
  | lower | upper | find | join | index | get | append | reverse | update
  deriving DecidableEq

inductive ME where
  | loc (i : Nat)
  | none | bool (b : Bool) | int (i : Int) | str (s : List Nat)
  | fn (a : Addr)
  | nil | cons (a b : ME)
  | bin (op : BOp) (a b : ME)
  | cmp (op : COp) (a b : ME)
  | and (a b : ME) | or (a b : ME) | not (a : ME)
  | ife (t a b : ME)
  | tup (es : ME) | lst (es : ME) | lstM (es : ME)
  | dct (kvs : List (List Nat × Addr))
  | call (f : Addr) (args : ME)
  | callv (dl : List Addr) (fe args : ME)
  | meth (o : ME) (c : Addr) (m : Nat) (f : Addr) (args : ME)
  | new (c init : Addr) (args : ME)
  | bi (b : BI) (a : ME)
  | sm (m : SM) (o args : ME)
  | idx (a i : ME)
  | slc (a lo hi : ME)
  | att (o : ME) (c : Addr) (n : Nat)
  | comp (rng : Bool) (it t e : ME)

inductive Fl where
  | next
  | ret (d : D)

inductive MS where
  | skip
  | seq (a b : MS)
  | asg (i : Nat) (e : ME)
  | asgT (is : List Nat) (e : ME)
  | swp (is : List Nat) (es : ME)
  | asgA (o : ME) (c : Addr) (n : Nat) (e : ME)
  | asgI (o i e : ME)
  | aug (i : Nat) (op : BOp) (e : ME)
  | augA (o : ME) (c : Addr) (n : Nat) (op : BOp) (e : ME)
  | ife (t : ME) (a b : MS)
  | whl (t : ME) (b : MS)
  | forr (i : Nat) (e : ME) (b : MS)
  | forRange (i : Nat) (n : ME) (b : MS)
  | ret (e : ME)
  | exp (e : ME)
  | dead

/-! ## the operations -/
noncomputable def leq : List Nat → List Nat → Bool
  | [], [] => true
  | a :: r, b :: q => Nat.beq a b && leq r q
  | _, _ => false
noncomputable def kget (n : List Nat) : List (List Nat × D) → Option D
  | [] => .none
  | (k, d) :: r => if leq k n then some d else kget n r
noncomputable def kput (n : List Nat) (v : D) : List (List Nat × D) → List (List Nat × D)
  | [] => [(n, v)]
  | (k, d) :: r => if leq k n then (k, v) :: r else (k, d) :: kput n v r
noncomputable def aget (n : Nat) : List (Nat × D) → Option D
  | [] => .none
  | (k, d) :: r => bif Nat.beq k n then some d else aget n r
noncomputable def aput (n : Nat) (v : D) : List (Nat × D) → List (Nat × D)
  | [] => [(n, v)]
  | (k, d) :: r => bif Nat.beq k n then (k, v) :: r else (k, d) :: aput n v r

noncomputable def line : Nat := 16777216

/-! ## looks at the abstract values -/
noncomputable abbrev onI (d : D) (K : Int → Prop) : Prop := match d with | .int a => K a | _ => False
noncomputable abbrev onT (d : D) (K : List Nat → Prop) : Prop := match d with | .str a => K a | _ => False
noncomputable abbrev onLs (d : D) (K : List D → Prop) : Prop := match d with | .lst a => K a | _ => False
noncomputable abbrev onO (d : D) (K : Nat → Prop) : Prop := match d with | .obj a => K a | _ => False
noncomputable abbrev onN (d : D) (P : Prop) : Prop := match d with | .none => P | _ => False
noncomputable abbrev onSome {α : Type} (o : Option α) (K : α → Prop) : Prop := match o with | some a => K a | .none => False
noncomputable abbrev on0 {α : Type} (l : List α) (P : Prop) : Prop := match l with | [] => P | _ :: _ => False
noncomputable abbrev on1 {α : Type} (l : List α) (K : α → Prop) : Prop := match l with | [] => False | a :: r => on0 r (K a)
noncomputable abbrev on2 {α : Type} (l : List α) (K : α → α → Prop) : Prop := match l with | [] => False | a :: r => on1 r (K a)
theorem onI_is {d : D} {K : Int → Prop} (h : onI d K) : ∃ a, d = .int a ∧ K a := by cases d <;> first | exact ⟨_, rfl, h⟩ | exact h.elim
theorem onT_is {d : D} {K : List Nat → Prop} (h : onT d K) : ∃ a, d = .str a ∧ K a := by cases d <;> first | exact ⟨_, rfl, h⟩ | exact h.elim
theorem onLs_is {d : D} {K : List D → Prop} (h : onLs d K) : ∃ a, d = .lst a ∧ K a := by cases d <;> first | exact ⟨_, rfl, h⟩ | exact h.elim
theorem onO_is {d : D} {K : Nat → Prop} (h : onO d K) : ∃ a, d = .obj a ∧ K a := by cases d <;> first | exact ⟨_, rfl, h⟩ | exact h.elim
theorem onN_is {d : D} {P : Prop} (h : onN d P) : d = .none ∧ P := by cases d <;> first | exact ⟨rfl, h⟩ | exact h.elim
theorem onSome_is {α : Type} {o : Option α} {K : α → Prop} (h : onSome o K) : ∃ a, o = some a ∧ K a := by
  cases o with
  | none => exact h.elim
  | some a => exact ⟨a, rfl, h⟩
theorem on0_is {α : Type} {l : List α} {P : Prop} (h : on0 l P) : l = [] ∧ P := by
  cases l with
  | nil => exact ⟨rfl, h⟩
  | cons a r => exact h.elim
theorem on1_is {α : Type} {l : List α} {K : α → Prop} (h : on1 l K) : ∃ a, l = [a] ∧ K a := by
  cases l with
  | nil => exact h.elim
  | cons a r => obtain ⟨rfl, h⟩ := on0_is h; exact ⟨a, rfl, h⟩
theorem on2_is {α : Type} {l : List α} {K : α → α → Prop} (h : on2 l K) : ∃ a b, l = [a, b] ∧ K a b := by
  cases l with
  | nil => exact h.elim
  | cons a r => obtain ⟨b, rfl, h⟩ := on1_is h; exact ⟨a, b, rfl, h⟩

noncomputable def binAdd (x y : D) (K : D → Prop) : Prop := match x with
  | .int a => onI y fun b => K (.int (a + b))
  | .str a => onT y fun b => (a.length + b.length ≤ line) ∧ K (.str (a ++ b))
  | .lst a => onLs y fun b => (a.length + b.length ≤ line) ∧ K (.lst (a ++ b))
  | _ => False
noncomputable def binP (op : BOp) (x y : D) (K : D → Prop) : Prop := match op with
  | .add => binAdd x y K
  | .sub => onI x fun a => onI y fun b => K (.int (a - b))
  | .mul => onI x fun a => onI y fun b => (a.natAbs < 2 ^ 200 ∧ b.natAbs < 2 ^ 200) ∧ K (.int (a * b))
  | .fdiv => onI x fun a => onI y fun b => (0 < b ∧ b ≤ 2 ^ 64) ∧ K (.int (a.fdiv b))
  | .mod => onI x fun a => onI y fun b => (0 < b ∧ b ≤ 2 ^ 64) ∧ K (.int (a.fmod b))
  | .pow => onI x fun a => onI y fun b => (0 ≤ a ∧ a ≤ 1024 ∧ 0 ≤ b ∧ b ≤ 64) ∧ K (.int (a ^ b.toNat))

/-- does the sign stand in the text -/
noncomputable def hasSign (c : Nat) : List Nat → Bool
  | [] => false
  | x :: r => bif Nat.beq x c then true else hasSign c r
noncomputable def nth {α : Type} : List α → Nat → Option α
  | [], _ => .none
  | x :: _, 0 => some x
  | _ :: r, n + 1 => nth r n

noncomputable def strIn (x : List Nat) : List D → Option Bool
  | [] => some false
  | .str y :: r => (strIn x r).map fun b => leq y x || b
  | _ => .none

noncomputable def cmpEq (x y : D) (K : Bool → Prop) : Prop := match x with
  | .int a => onI y fun b => K (decide (a = b))
  | .str a => onT y fun b => K (leq a b)
  | .none => onT y fun _ => K false
  | _ => False
noncomputable def cmpNe (x y : D) (K : Bool → Prop) : Prop := match x with
  | .int a => onI y fun b => K (!decide (a = b))
  | .str a => onT y fun b => K (!leq a b)
  | .scr xs => onLs y fun l => on0 l (K (!xs.isEmpty))
  | _ => False
noncomputable def cmpIs (p q : Bool) (x y : D) (K : Bool → Prop) : Prop := onN y (match x with
  | .none => K p
  | .int _ => K q
  | .str _ => K q
  | _ => False)
noncomputable def cmpIn (st : List O) (x y : D) (K : Bool → Prop) : Prop := onT x fun a => match y with
  | .str b => on1 a fun c => K (hasSign c b)
  | .tup ds => onSome (strIn a ds) K
  | .lst ds => onSome (strIn a ds) K
  | .obj i => ∃ kvs, st[i]? = some (.dct kvs) ∧ K (kget a kvs).isSome
  | _ => False
noncomputable def cmpNi (st : List O) (x y : D) (K : Bool → Prop) : Prop := onT x fun a => match y with
  | .str b => on1 a fun c => K (!hasSign c b)
  | .tup ds => onSome (strIn a ds) fun b => K (!b)
  | .obj i => ∃ kvs, st[i]? = some (.dct kvs) ∧ K (!(kget a kvs).isSome)
  | _ => False
noncomputable def cmpP (st : List O) (op : COp) (x y : D) (K : Bool → Prop) : Prop := match op with
  | .eq => cmpEq x y K
  | .ne => cmpNe x y K
  | .lt => onI x fun a => onI y fun b => K (decide (a < b))
  | .le => onI x fun a => onI y fun b => K (decide (a ≤ b))
  | .gt => onI x fun a => onI y fun b => K (decide (b < a))
  | .ge => onI x fun a => onI y fun b => K (decide (b ≤ a))
  | .isin => cmpIn st x y K
  | .notin => cmpNi st x y K
  | .is => cmpIs true false x y K
  | .isnot => cmpIs false true x y K

noncomputable def pick {α : Type} (k : Int) (xs : List α) : Option α := match k with
  | .ofNat n => nth xs n
  | .negSucc _ => .none

noncomputable def idxO (st : List O) (i : Nat) (y : D) (K : D → Prop) : Prop := match y with
  | .int k => ∃ xs, st[i]? = some (.lst xs) ∧ match k with
      | .ofNat n => (xs.length ≤ line) ∧ onSome (nth xs n) K
      | .negSucc _ => False
  | .str n => ∃ kvs, st[i]? = some (.dct kvs) ∧ onSome (kget n kvs) K
  | _ => False
noncomputable def idxP (st : List O) (x y : D) (K : D → Prop) : Prop := match x with
  | .str a => onI y fun k => onSome (pick k a) fun c => (a.length ≤ line) ∧ K (.str [c])
  | .tup a => onI y fun k => onSome (pick k a) fun c => (a.length ≤ 100) ∧ K c
  | .lst a => onI y fun k => onSome (pick k a) fun c => (a.length ≤ 100) ∧ K c
  | .scr a => onI y fun k => match k with
      | .ofNat n => (n < a.length ∧ n < 1000) ∧ K (.int (a.getD n 0))
      | .negSucc _ => False
  | .obj i => idxO st i y K
  | _ => False

/-- a slice -/
noncomputable def cut {α : Type} (xs : List α) (lo hi : Option Int) : List α := (xs.drop (lo.elim 0 (clipAt xs.length))).take (hi.elim xs.length (clipAt xs.length) - lo.elim 0 (clipAt xs.length))
noncomputable def part : D → Option (Option Int)
  | .none => some .none
  | .int i => some (some i)
  | _ => .none
noncomputable def small (i : Option Int) : Prop := ∀ k, i = some k → k.natAbs < 2 ^ 62

noncomputable def slcP (x lo hi : D) (K : D → Prop) : Prop := match x with
  | .str a => onSome (part lo) fun l => onSome (part hi) fun u => (small l ∧ small u ∧ a.length ≤ line) ∧ K (.str (cut a l u))
  | .lst a => onN lo (onI hi fun u => (0 ≤ u ∧ u < 1000 ∧ a.length ≤ line) ∧ K (.lst (a.take u.toNat)))
  | .tup a => onI lo fun l => onN hi ((1 ≤ l ∧ l.toNat ≤ a.length ∧ a.length ≤ 100) ∧ K (.tup (a.drop l.toNat)))
  | _ => False

end Mine
end

section
open PySem PySem.W PyProof.Rows
namespace Mine

noncomputable abbrev Ps := List (Addr × Addr)
noncomputable def S (l : List Nat) : Str := ⟨l.toArray⟩
theorem S_cps (x : Str) : S x.cps.toList = x := by cases x; rfl
theorem S_len (l : List Nat) : (S l).length = l.length := by simp [S, Str.length]
theorem S_inj {a b : List Nat} (h : S a = S b) : a = b := by
  have := congrArg (fun x : Str => x.cps.toList) h
  simpa [S] using this
theorem S_app (a b : List Nat) : S a ++ S b = S (a ++ b) := by
  show Str.append (S a) (S b) = S (a ++ b)
  simp [Str.append, S]

/-- the names of attributes, by a code -/
noncomputable def nm : Nat → Str
  | 0 => Str.ofString "tokens" | 1 => Str.ofString "at" | 2 => Str.ofString "tongue" | 3 => Str.ofString "known" | 4 => Str.ofString "family" | 5 => Str.ofString "table"
  | 6 => Str.ofString "fields" | 7 => Str.ofString "types" | 8 => Str.ofString "look" | 9 => Str.ofString "take" | 10 => Str.ofString "is_word" | 11 => Str.ofString "fault" | _ => Str.ofString "?"

mutual
inductive Rv (ps : Ps) (h : Heap) : D → Value → Prop
  | none : Rv ps h .none .none
  | bool (b) : Rv ps h (.bool b) (.bool b)
  | int (i t) : Rv ps h (.int i) (.int i t)
  | str (l t) : Rv ps h (.str l) (.str (S l) t)
  | tup {a vs n ds} : h.get? a = some { cls := .type "tuple", data := .seq vs n } → Rvs ps h ds vs.toList → Rv ps h (.tup ds) (.ref a)
  | lst {a vs n ds} : h.get? a = some { cls := .type "list", data := .seq vs n } → (∀ p ∈ ps, p.1 ≠ a) → Rvs ps h ds vs.toList → Rv ps h (.lst ds) (.ref a)
  | scr {a vs is} : h.IsList a vs → (∀ p ∈ ps, p.1 ≠ a) → IntsAre vs.toList is → Rv ps h (.scr is) (.ref a)
  | obj {i p} : ps[i]? = some p → Rv ps h (.obj i) (.ref p.1)
  | sta (a) : Rv ps h (.sta a) (.ref a)
inductive Rvs (ps : Ps) (h : Heap) : List D → List Value → Prop
  | nil : Rvs ps h [] []
  | cons {d v ds vs} : Rv ps h d v → Rvs ps h ds vs → Rvs ps h (d :: ds) (v :: vs)
end

structure Kept (L : List Addr) (ps : Ps) (h : Heap) (ps' : Ps) (h' : Heap) : Prop where
  live : ∀ b o, h.get? b = some o → (h'.get? b).isSome = true
  ext : ∃ qs, ps' = ps ++ qs ∧ ∀ q ∈ qs, h.get? q.1 = none ∧ h.get? q.2 = none
  keep : ∀ b o, h.get? b = some o → b ∉ L → (∀ p ∈ ps, b ≠ p.1 ∧ b ≠ p.2) → h'.get? b = some o

/-- the same without «all stay live» -/
structure KeptW (L : List Addr) (ps : Ps) (h : Heap) (ps' : Ps) (h' : Heap) : Prop where
  ext : ∃ qs, ps' = ps ++ qs ∧ ∀ q ∈ qs, h.get? q.1 = none ∧ h.get? q.2 = none
  keep : ∀ b o, h.get? b = some o → b ∉ L → (∀ p ∈ ps, b ≠ p.1 ∧ b ≠ p.2) → h'.get? b = some o
theorem Kept.w {L ps h ps' h'} (k : Kept L ps h ps' h') : KeptW L ps h ps' h' := ⟨k.ext, k.keep⟩

theorem Kept.refl (L ps h) : Kept L ps h ps h := ⟨fun b o e => by rw [e]; rfl, ⟨[], by simp, by simp⟩, fun _ _ e _ _ => e⟩
theorem Kept.trans {L ps h ps1 h1 ps2 h2} (x : Kept L ps h ps1 h1) (y : Kept L ps1 h1 ps2 h2) : Kept L ps h ps2 h2 := by
  have lv : ∀ b o, h.get? b = some o → (h2.get? b).isSome = true := fun b o e => by
    obtain ⟨o', e'⟩ := Option.isSome_iff_exists.mp (x.live b o e)
    exact y.live b o' e'
  obtain ⟨qs, rfl, hq⟩ := x.ext
  obtain ⟨rs, rfl, hr⟩ := y.ext
  refine ⟨lv, ⟨qs ++ rs, by simp, fun q hm => ?_⟩, fun b o e hL hp => ?_⟩
  · rcases List.mem_append.mp hm with hm | hm
    · exact hq q hm
    · refine ⟨?_, ?_⟩
      · cases e : h.get? q.1 with
        | none => rfl
        | some o => have := x.live _ _ e; rw [(hr q hm).1] at this; cases this
      · cases e : h.get? q.2 with
        | none => rfl
        | some o => have := x.live _ _ e; rw [(hr q hm).2] at this; cases this
  · refine y.keep b o (x.keep b o e hL hp) hL fun p hm => ?_
    rcases List.mem_append.mp hm with hm | hm
    · exact hp p hm
    · refine ⟨fun q => ?_, fun q => ?_⟩
      · rw [q, (hq p hm).1] at e; cases e
      · rw [q, (hq p hm).2] at e; cases e

theorem Kept.weaken {L L' ps h ps' h'} (x : Kept L ps h ps' h') (hs : ∀ a ∈ L, a ∈ L') : Kept L' ps h ps' h' :=
  ⟨x.live, x.ext, fun b o e hL hp => x.keep b o e (fun m => hL (hs b m)) hp⟩
/-- what did not stand at the start may have been changed -/
theorem Kept.drop {L L' ps h ps' h'} (x : Kept L ps h ps' h') (hs : ∀ a ∈ L, a ∈ L' ∨ h.get? a = none) : Kept L' ps h ps' h' :=
  ⟨x.live, x.ext, fun b o e hL hp => x.keep b o e (fun m => (hs b m).elim hL fun q => by rw [q] at e; cases e) hp⟩

noncomputable def isSeq (o : Obj) : Prop := ∃ vs n, o.data = .seq vs n

/-- the owned objects are no tuples; the owned lists stand at the first place -/
noncomputable def Owns (ps : Ps) (h : Heap) : Prop := ∀ p ∈ ps, ∀ b o, (b = p.1 ∨ b = p.2) → h.get? b = some o → isSeq o → b = p.1 ∧ o.cls = .type "list"
noncomputable def NoSeqs (L : List Addr) (h : Heap) : Prop := ∀ b ∈ L, ∀ o, h.get? b = some o → ¬ isSeq o

mutual
theorem Rv.monoW {L ps h ps' h'} (k : KeptW L ps h ps' h') (ow : Owns ps h) (ns : NoSeqs L h) : ∀ {d v}, Rv ps h d v → Rv ps' h' d v
  | _, _, .none => .none
  | _, _, .bool b => .bool b
  | _, _, .int i t => .int i t
  | _, _, .str l t => .str l t
  | _, _, .tup e r => .tup (k.keep _ _ e (fun m => ns _ m _ e ⟨_, _, rfl⟩) fun p hp => ⟨fun q => absurd (ow p hp _ _ (.inl q) e ⟨_, _, rfl⟩).2 (fun z => absurd (Value.type.inj z) (by decide)), fun q => absurd (ow p hp _ _ (.inr q) e ⟨_, _, rfl⟩).2 (fun z => absurd (Value.type.inj z) (by decide))⟩) (Rvs.monoW k ow ns r)
  | _, _, .lst (a := a) e ne r => .lst (k.keep _ _ e (fun m => ns _ m _ e ⟨_, _, rfl⟩) fun p hp => ⟨fun q => ne p hp q.symm, fun q => ne p hp (ow p hp _ _ (.inr q) e ⟨_, _, rfl⟩).1.symm⟩)
      (by
        obtain ⟨qs, rfl, hq⟩ := k.ext
        intro p hp q
        rcases List.mem_append.mp hp with hp | hp
        · exact ne p hp q
        · have := (hq p hp).1; rw [q, e] at this; cases this) (Rvs.monoW k ow ns r)
  | _, _, .scr (a := a) (vs := vs) e ne r => by
      obtain ⟨o, ho, hc, n, hd⟩ := e
      refine .scr (vs := vs) ⟨o, k.keep _ _ ho (fun m => ns _ m _ ho ⟨_, _, hd⟩) fun p hp => ⟨fun q => ne p hp q.symm, fun q => ne p hp (ow p hp _ _ (.inr q) ho ⟨_, _, hd⟩).1.symm⟩, hc, n, hd⟩ ?_ r
      obtain ⟨qs, rfl, hq⟩ := k.ext
      intro p hp q
      rcases List.mem_append.mp hp with hp | hp
      · exact ne p hp q
      · have := (hq p hp).1; rw [q, ho] at this; cases this
  | _, _, .obj (i := i) (p := p) e => by
      obtain ⟨qs, rfl, hq⟩ := k.ext
      exact .obj (by rw [List.getElem?_append_left (List.getElem?_eq_some_iff.mp e).1]; exact e)
  | _, _, .sta a => .sta a
theorem Rvs.monoW {L ps h ps' h'} (k : KeptW L ps h ps' h') (ow : Owns ps h) (ns : NoSeqs L h) : ∀ {d v}, Rvs ps h d v → Rvs ps' h' d v
  | _, _, .nil => .nil
  | _, _, .cons a b => .cons (Rv.monoW k ow ns a) (Rvs.monoW k ow ns b)
end

theorem Rv.mono {L ps h ps' h'} (k : Kept L ps h ps' h') (ow : Owns ps h) (ns : NoSeqs L h) {d v} (r : Rv ps h d v) : Rv ps' h' d v := Rv.monoW k.w ow ns r
theorem Rvs.mono {L ps h ps' h'} (k : Kept L ps h ps' h') (ow : Owns ps h) (ns : NoSeqs L h) {d v} (r : Rvs ps h d v) : Rvs ps' h' d v := Rvs.monoW k.w ow ns r

theorem Rvs.length {ps h} : ∀ {ds vs}, Rvs ps h ds vs → ds.length = vs.length
  | _, _, .nil => rfl
  | _, _, .cons _ b => by simp [Rvs.length b]
theorem Rvs.get {ps h} : ∀ {ds : List D} {vs : List Value} (_ : Rvs ps h ds vs) {i : Nat} {d : D}, ds[i]? = some d → ∃ v, vs[i]? = some v ∧ Rv ps h d v
  | _, _, .cons a b, 0, d, e => by simp at e; subst e; exact ⟨_, rfl, a⟩
  | _, _, .cons a b, i + 1, d, e => by simpa using Rvs.get b (by simpa using e)
  | _, _, .nil, i, d, e => by simp at e
theorem Rvs.app {ps h} : ∀ {ds vs es us}, Rvs ps h ds vs → Rvs ps h es us → Rvs ps h (ds ++ es) (vs ++ us)
  | _, _, _, _, .nil, y => y
  | _, _, _, _, .cons a b, y => .cons a (Rvs.app b y)
theorem Rvs.drop {ps h} : ∀ {ds vs} (n : Nat), Rvs ps h ds vs → Rvs ps h (ds.drop n) (vs.drop n)
  | _, _, 0, r => r
  | _, _, _ + 1, .nil => .nil
  | _, _, n + 1, .cons _ b => Rvs.drop n b
theorem Rvs.take {ps h} : ∀ {ds vs} (n : Nat), Rvs ps h ds vs → Rvs ps h (ds.take n) (vs.take n)
  | _, _, 0, _ => .nil
  | _, _, _ + 1, .nil => .nil
  | _, _, n + 1, .cons a b => .cons a (Rvs.take n b)
theorem Rvs.rev {ps h} : ∀ {ds vs}, Rvs ps h ds vs → Rvs ps h ds.reverse vs.reverse
  | _, _, .nil => .nil
  | _, _, .cons a b => by rw [List.reverse_cons, List.reverse_cons]; exact Rvs.app (Rvs.rev b) (.cons a .nil)
theorem Rvs.set {ps h} : ∀ {ds vs} {d v} (n : Nat), Rvs ps h ds vs → Rv ps h d v → Rvs ps h (ds.set n d) (vs.set n v)
  | _, _, _, _, _, .nil, _ => .nil
  | _, _, _, _, 0, .cons _ b, x => .cons x b
  | _, _, _, _, n + 1, .cons a b, x => .cons a (Rvs.set n b x)

/-! ## the store -/
inductive Rks (ps : Ps) (h : Heap) : List (List Nat × D) → List (Str × Value) → Prop
  | nil : Rks ps h [] []
  | cons {k d v r q} : Rv ps h d v → Rks ps h r q → Rks ps h ((k, d) :: r) ((S k, v) :: q)
inductive Res (ps : Ps) (h : Heap) : List (Nat × D) → List DictEntry → Prop
  | nil : Res ps h [] []
  | cons {k d v r q hs t} : Rv ps h d v → Res ps h r q → Res ps h ((k, d) :: r) (⟨hs, .str (nm k) t, v⟩ :: q)
theorem Rks.monoW {L ps h ps' h'} (k : KeptW L ps h ps' h') (ow : Owns ps h) (ns : NoSeqs L h) {d v} (r : Rks ps h d v) : Rks ps' h' d v := by
  induction r with
  | nil => exact .nil
  | cons a _ ih => exact .cons (a.monoW k ow ns) ih
theorem Rks.mono {L ps h ps' h'} (k : Kept L ps h ps' h') (ow : Owns ps h) (ns : NoSeqs L h) {d v} (r : Rks ps h d v) : Rks ps' h' d v := r.monoW k.w ow ns
theorem Res.monoW {L ps h ps' h'} (k : KeptW L ps h ps' h') (ow : Owns ps h) (ns : NoSeqs L h) {d v} (r : Res ps h d v) : Res ps' h' d v := by
  induction r with
  | nil => exact .nil
  | cons a _ ih => exact .cons (a.monoW k ow ns) ih
theorem Res.mono {L ps h ps' h'} (k : Kept L ps h ps' h') (ow : Owns ps h) (ns : NoSeqs L h) {d v} (r : Res ps h d v) : Res ps' h' d v := r.monoW k.w ow ns


section
variable (prog : Program) (w : World)
/-- the object's shape alone -/
noncomputable def Shp (h : Heap) (p : Addr × Addr) : O → Prop
  | .lst _ => p.2 = p.1 ∧ ∃ vs n, h.get? p.1 = some { cls := .type "list", data := .seq vs n }
  | .dct _ => p.2 = p.1 ∧ ∃ es n, h.get? p.1 = some { cls := .type "dict", data := .dict es n }
  | .ins c _ => h.get? p.1 = some (instObj c p.2) ∧ ∃ es n, h.get? p.2 = some (dictOf es n)
noncomputable def Ro (ps : Ps) (h : Heap) (p : Addr × Addr) : O → Prop
  | .lst xs => p.2 = p.1 ∧ ∃ vs n, h.get? p.1 = some { cls := .type "list", data := .seq vs n } ∧ Rvs ps h xs vs.toList
  | .dct kvs => p.2 = p.1 ∧ ∃ q, h.DictOf (PySem.strKind prog w) p.1 q ∧ Rks ps h kvs q
  | .ins c kvs => h.get? p.1 = some (instObj c p.2) ∧ ∃ es n, h.get? p.2 = some (dictOf es n) ∧ Res ps h kvs es ∧ ∀ q ∈ kvs, q.1 < 12
end
end Mine
end

section
open PySem PySem.W PyProof.Rows
namespace Mine

structure Base where
  prog : Program
  w : World
  h₀ : Heap
  os : OsState

noncomputable def ExtL (L : List Addr) (h h' : Heap) : Prop := (∀ b o, h.get? b = some o → (h'.get? b).isSome = true) ∧ ∀ b o, h.get? b = some o → b ∉ L → h'.get? b = some o
theorem ExtL.kept {L h h'} (x : ExtL L h h') (ps) : Kept L ps h ps h' := ⟨x.1, ⟨[], by simp, by simp⟩, fun b o e n _ => x.2 b o e n⟩
theorem ExtL.refl (L h) : ExtL L h h := ⟨fun b o e => by rw [e]; rfl, fun _ _ e _ => e⟩
theorem ExtL.nil {h h' : Heap} (x : ∀ b o, h.get? b = some o → h'.get? b = some o) : ExtL [] h h' := ⟨fun b o e => by rw [x b o e]; rfl, fun b o e _ => x b o e⟩
theorem ExtL.all {h h' : Heap} (x : ExtL [] h h') : ∀ b o, h.get? b = some o → h'.get? b = some o := fun b o e => x.2 b o e (by simp)
theorem ExtL.push (h : Heap) (o : Obj) : ExtL [] h (h.push o) := .nil fun _ _ e => Heap.get?_push_of_some o e
theorem ExtL.same {a : Addr} {h h' : Heap} (x : Heap.SameBut a h h') (l : ∀ o, h.get? a = some o → (h'.get? a).isSome = true) : ExtL [a] h h' :=
  ⟨fun b o e => by
    by_cases q : b = a
    · subst q; exact l o e
    · rw [x.2 b q, e]; rfl, fun b o e n => by rw [x.2 b (by simpa using n)]; exact e⟩
theorem ExtL.weaken {L L' h h'} (x : ExtL L h h') (s : ∀ a ∈ L, a ∈ L') : ExtL L' h h' := ⟨x.1, fun b o e n => x.2 b o e fun m => n (s b m)⟩
theorem ExtL.trans {L h h1 h2} (x : ExtL L h h1) (y : ExtL L h1 h2) : ExtL L h h2 :=
  ⟨fun b o e => by obtain ⟨o', e'⟩ := Option.isSome_iff_exists.mp (x.1 b o e); exact y.1 b o' e', fun b o e n => y.2 b o (x.2 b o e n) n⟩

variable (B : Base)

structure Rep (ps : Ps) (h : Heap) (st : List O) : Prop where
  len : ps.length = st.length
  objs : ∀ (i : Nat) (o : O) (p : Addr × Addr), st[i]? = some o → ps[i]? = some p → Ro B.prog B.w ps h p o
  apart : ∀ (i j : Nat) (p q : Addr × Addr), ps[i]? = some p → ps[j]? = some q → i ≠ j → p.1 ≠ q.1 ∧ p.1 ≠ q.2 ∧ p.2 ≠ q.1 ∧ p.2 ≠ q.2
  new : ∀ p ∈ ps, B.h₀.get? p.1 = none ∧ B.h₀.get? p.2 = none
  base : ∀ b o, B.h₀.get? b = some o → h.get? b = some o

theorem Ro.owns {prog w ps h p o} (r : Ro prog w ps h p o) : ∀ b x, (b = p.1 ∨ b = p.2) → h.get? b = some x → isSeq x → b = p.1 ∧ x.cls = .type "list" := by
  intro b x hb e hs
  obtain ⟨vs, n, hd⟩ := hs
  cases o with
  | lst xs =>
    obtain ⟨e2, us, k, e1, _⟩ := r
    have : b = p.1 := by rcases hb with q | q <;> simp [q, e2]
    subst this; rw [e1] at e; cases e; exact ⟨rfl, rfl⟩
  | dct kvs =>
    obtain ⟨e2, q, ⟨o', es, ep, e1, _, hd', _⟩, _⟩ := r
    have : b = p.1 := by rcases hb with q | q <;> simp [q, e2]
    subst this; rw [e1] at e; cases e; rw [hd] at hd'; cases hd'
  | ins c kvs =>
    obtain ⟨e1, es, k, e2, _⟩ := r
    rcases hb with q | q
    · subst q; rw [e1] at e; cases e; cases hd
    · subst q; rw [e2] at e; cases e; cases hd
theorem Ro.live {prog w ps h p o} (r : Ro prog w ps h p o) : (h.get? p.1).isSome = true ∧ (h.get? p.2).isSome = true := by
  cases o with
  | lst xs => obtain ⟨e2, us, k, e1, _⟩ := r; rw [e2, e1]; exact ⟨rfl, rfl⟩
  | dct kvs => obtain ⟨e2, q, ⟨o', es, ep, e1, _⟩, _⟩ := r; rw [e2, e1]; exact ⟨rfl, rfl⟩
  | ins c kvs => obtain ⟨e1, es, k, e2, _⟩ := r; rw [e1, e2]; exact ⟨rfl, rfl⟩

variable {B}
theorem Rep.at {ps h st} (R : Rep B ps h st) {i : Nat} {p} (e : ps[i]? = some p) : ∃ o, st[i]? = some o ∧ Ro B.prog B.w ps h p o := by
  have hi : i < st.length := by rw [← R.len]; exact (List.getElem?_eq_some_iff.mp e).1
  exact ⟨st[i], List.getElem?_eq_getElem hi, R.objs i _ p (List.getElem?_eq_getElem hi) e⟩
theorem Rep.at' {ps h st} (R : Rep B ps h st) {i : Nat} {o} (e : st[i]? = some o) : ∃ p, ps[i]? = some p ∧ Ro B.prog B.w ps h p o := by
  have hi : i < ps.length := by rw [R.len]; exact (List.getElem?_eq_some_iff.mp e).1
  exact ⟨ps[i], List.getElem?_eq_getElem hi, R.objs i o _ e (List.getElem?_eq_getElem hi)⟩
theorem Rep.owns {ps h st} (R : Rep B ps h st) : Owns ps h := fun p hp => by
  obtain ⟨i, hi⟩ := List.mem_iff_getElem?.mp hp
  obtain ⟨o, _, r⟩ := R.at hi
  exact r.owns
theorem Rep.live {ps h st} (R : Rep B ps h st) {p} (hp : p ∈ ps) : (h.get? p.1).isSome = true ∧ (h.get? p.2).isSome = true := by
  obtain ⟨i, hi⟩ := List.mem_iff_getElem?.mp hp
  obtain ⟨o, _, r⟩ := R.at hi
  exact r.live

theorem Ro.monoW {prog w L ps h ps' h' p o} (r : Ro prog w ps h p o) (k : KeptW L ps h ps' h') (ow : Owns ps h) (ns : NoSeqs L h) (e1 : h'.get? p.1 = h.get? p.1) (e2 : h'.get? p.2 = h.get? p.2) : Ro prog w ps' h' p o := by
  cases o with
  | lst xs => obtain ⟨a, us, n, b, c⟩ := r; exact ⟨a, us, n, e1.trans b, c.monoW k ow ns⟩
  | dct kvs => obtain ⟨a, q, ⟨o', es, ep, b, d⟩, c⟩ := r; exact ⟨a, q, ⟨o', es, ep, e1.trans b, d⟩, c.monoW k ow ns⟩
  | ins c kvs => obtain ⟨a, es, n, b, c, d⟩ := r; exact ⟨e1.trans a, es, n, e2.trans b, c.monoW k ow ns, d⟩
theorem Ro.mono {prog w L ps h ps' h' p o} (r : Ro prog w ps h p o) (k : Kept L ps h ps' h') (ow : Owns ps h) (ns : NoSeqs L h) (e1 : h'.get? p.1 = h.get? p.1) (e2 : h'.get? p.2 = h.get? p.2) : Ro prog w ps' h' p o := r.monoW k.w ow ns e1 e2

/-- nothing of the store has been turned -/
theorem Rep.extW {ps h st L h'} (R : Rep B ps h st) (x : ∀ b o, h.get? b = some o → b ∉ L → h'.get? b = some o) (ns : NoSeqs L h) (ap : ∀ a ∈ L, (∀ p ∈ ps, p.1 ≠ a ∧ p.2 ≠ a) ∧ B.h₀.get? a = none) : Rep B ps h' st := by
  refine ⟨R.len, fun i o p e q => ?_, R.apart, R.new, fun b o e => x b o (R.base b o e) fun m => by rw [(ap b m).2] at e; cases e⟩
  have r := R.objs i o p e q
  have hp := List.mem_of_getElem? q
  obtain ⟨o1, l1⟩ := Option.isSome_iff_exists.mp r.live.1
  obtain ⟨o2, l2⟩ := Option.isSome_iff_exists.mp r.live.2
  exact r.monoW (L := L) ⟨⟨[], by simp, by simp⟩, fun b o e n _ => x b o e n⟩ R.owns ns ((x _ _ l1 fun m => ((ap _ m).1 p hp).1 rfl).trans l1.symm) ((x _ _ l2 fun m => ((ap _ m).1 p hp).2 rfl).trans l2.symm)
theorem Rep.ext {ps h st L h'} (R : Rep B ps h st) (x : ExtL L h h') (ns : NoSeqs L h) (ap : ∀ a ∈ L, (∀ p ∈ ps, p.1 ≠ a ∧ p.2 ≠ a) ∧ B.h₀.get? a = none) : Rep B ps h' st := R.extW x.2 ns ap
theorem noSeqs_nil (h) : NoSeqs [] h := fun _ m => by simp at m

/-- a new object -/
theorem Rep.push {ps h st h' p o} (R : Rep B ps h st) (x : ∀ b o, h.get? b = some o → h'.get? b = some o) (n1 : h.get? p.1 = none) (n2 : h.get? p.2 = none) (r : Ro B.prog B.w (ps ++ [p]) h' p o) : Rep B (ps ++ [p]) h' (st ++ [o]) := by
  have k : Kept [] ps h (ps ++ [p]) h' := ⟨fun b o e => by rw [x b o e]; rfl, ⟨[p], rfl, fun q hq => by simp at hq; subst hq; exact ⟨n1, n2⟩⟩, fun b o e _ _ => x b o e⟩
  refine ⟨by simp [R.len], fun i o' p' e q => ?_, fun i j q q' hi hj hne => ?_, fun q hq => ?_, fun b o e => x b o (R.base b o e)⟩
  · rcases Nat.lt_or_ge i st.length with hlt | hge
    · rw [List.getElem?_append_left hlt] at e
      rw [List.getElem?_append_left (by rw [R.len]; exact hlt)] at q
      have r' := R.objs i o' p' e q
      obtain ⟨o1, l1⟩ := Option.isSome_iff_exists.mp r'.live.1
      obtain ⟨o2, l2⟩ := Option.isSome_iff_exists.mp r'.live.2
      exact r'.mono k R.owns (noSeqs_nil h) ((x _ _ l1).trans l1.symm) ((x _ _ l2).trans l2.symm)
    · rw [List.getElem?_append_right hge] at e
      rw [List.getElem?_append_right (by rw [R.len]; exact hge)] at q
      have h1 := (List.getElem?_eq_some_iff.mp e).1
      have h0 : i - st.length = 0 := by simp at h1; omega
      rw [h0] at e; rw [R.len, h0] at q
      simp at e q; subst e; subst q; exact r
  · have old : ∀ (k : Nat) r, (ps ++ [p])[k]? = some r → (k < ps.length ∧ ps[k]? = some r) ∨ (k = ps.length ∧ r = p) := fun k r e => by
      rcases Nat.lt_or_ge k ps.length with hlt | hge
      · rw [List.getElem?_append_left hlt] at e; exact .inl ⟨hlt, e⟩
      · rw [List.getElem?_append_right hge] at e
        have h1 := (List.getElem?_eq_some_iff.mp e).1
        have h0 : k - ps.length = 0 := by simp at h1; omega
        rw [h0] at e; simp at e; exact .inr ⟨by omega, e.symm⟩
    have fr : ∀ (k : Nat) r, ps[k]? = some r → r.1 ≠ p.1 ∧ r.1 ≠ p.2 ∧ r.2 ≠ p.1 ∧ r.2 ≠ p.2 := fun k r e => by
      have l := R.live (List.mem_of_getElem? e)
      refine ⟨fun q => ?_, fun q => ?_, fun q => ?_, fun q => ?_⟩
      · rw [q, n1] at l; exact absurd l.1 (by simp)
      · rw [q, n2] at l; exact absurd l.1 (by simp)
      · rw [q, n1] at l; exact absurd l.2 (by simp)
      · rw [q, n2] at l; exact absurd l.2 (by simp)
    rcases old i q hi with ⟨_, a⟩ | ⟨a, rfl⟩ <;> rcases old j q' hj with ⟨_, b⟩ | ⟨b, rfl⟩
    · exact R.apart i j q q' a b hne
    · exact fr i q a
    · have := fr j q' b; exact ⟨this.1.symm, this.2.2.1.symm, this.2.1.symm, this.2.2.2.symm⟩
    · exact absurd (a.trans b.symm) hne
  · rcases List.mem_append.mp hq with hq | hq
    · exact R.new q hq
    · simp at hq; subst hq
      refine ⟨?_, ?_⟩
      · cases e : B.h₀.get? q.1 with
        | none => rfl
        | some o => rw [R.base _ _ e] at n1; cases n1
      · cases e : B.h₀.get? q.2 with
        | none => rfl
        | some o => rw [R.base _ _ e] at n2; cases n2

/-- one object of the store turned -/
theorem Rep.set {ps h st h'} {i : Nat} {p o} (R : Rep B ps h st) (hp : ps[i]? = some p) (x : ExtL [p.1, p.2] h h') (ns : ∀ b o, (b = p.1 ∨ b = p.2) → h.get? b = some o → isSeq o → b = p.1 ∧ o.cls = .type "list") (r : Ro B.prog B.w ps h' p o) : Rep B ps h' (st.set i o) := by
  have k : Kept [] ps h ps h' := ⟨x.1, ⟨[], by simp, by simp⟩, fun b o e _ ap => x.2 b o e fun m => by
    have := ap p (List.mem_of_getElem? hp)
    simp at m; rcases m with m | m
    · exact this.1 m
    · exact this.2 m⟩
  refine ⟨by simp [R.len], fun j o' p' e q => ?_, R.apart, R.new, fun b o e => x.2 b o (R.base b o e) fun m => by
    have := R.new p (List.mem_of_getElem? hp)
    simp at m; rcases m with rfl | rfl
    · rw [this.1] at e; cases e
    · rw [this.2] at e; cases e⟩
  by_cases hij : i = j
  · subst hij
    rw [hp] at q; cases q
    rw [List.getElem?_set_self (by rw [← R.len]; exact (List.getElem?_eq_some_iff.mp hp).1)] at e; cases e
    exact r
  · rw [List.getElem?_set_ne hij] at e
    have r' := R.objs j o' p' e q
    have ap := R.apart i j p p' hp q hij
    obtain ⟨o1, l1⟩ := Option.isSome_iff_exists.mp r'.live.1
    obtain ⟨o2, l2⟩ := Option.isSome_iff_exists.mp r'.live.2
    exact r'.mono k R.owns (noSeqs_nil h) ((x.2 _ _ l1 (by simp; exact ⟨ap.1.symm, ap.2.2.1.symm⟩)).trans l1.symm) ((x.2 _ _ l2 (by simp; exact ⟨ap.2.1.symm, ap.2.2.2.symm⟩)).trans l2.symm)

/-! ## frames -/
structure FC where
  env : Env
  names : List Str
noncomputable def FC.L (C : FC) : List Addr := C.env.locals :: C.env.cells.map (·.2)
structure FC.Good (C : FC) : Prop where
  kind : C.env.scope.kind = .function
  nodup : C.names.Nodup
  lapart : ∀ c ∈ C.env.cells, c.2 ≠ C.env.locals
  capart : C.env.cells.Pairwise fun x y => x.2 ≠ y.2

variable (B)
structure Frm (C : FC) (ps : Ps) (h : Heap) (loc : List (Option D)) : Prop where
  len : loc.length = C.names.length
  ns : ∃ m, h.Ns C.env.locals m ∧ ∀ (i : Nat) (x : Str) (d : D), C.names[i]? = some x → loc[i]? = some (some d) → C.env.kindOf x = some .local → ∃ v, m x = some v ∧ Rv ps h d v
  cell : ∀ (i : Nat) (x : Str), C.names[i]? = some x → C.env.kindOf x = some .cell → ∃ c v, C.env.cells.lookup x = some c ∧ h.IsCell c v ∧ ∀ d : D, loc[i]? = some (some d) → ∃ u, v = some u ∧ Rv ps h d u
  cells : ∀ c ∈ C.env.cells, ∃ v, h.IsCell c.2 v
  apart : ∀ a ∈ C.L, (∀ p ∈ ps, p.1 ≠ a ∧ p.2 ≠ a) ∧ B.h₀.get? a = none
variable {B}

theorem Frm.noSeqs {C ps h loc} (F : Frm B C ps h loc) : NoSeqs C.L h := by
  intro b hb o e hs
  obtain ⟨vs, n, hd⟩ := hs
  rcases List.mem_cons.mp hb with rfl | hb
  · obtain ⟨m, ⟨o', es, ep, e', hd', _⟩, _⟩ := F.ns
    rw [e'] at e; cases e; rw [hd] at hd'; cases hd'
  · obtain ⟨c, hc, rfl⟩ := List.mem_map.mp hb
    obtain ⟨v, o', e', hd'⟩ := F.cells c hc
    rw [e'] at e; cases e; rw [hd] at hd'; cases hd'
theorem Frm.live {C ps h loc} (F : Frm B C ps h loc) : ∀ a ∈ C.L, (h.get? a).isSome = true := by
  intro b hb
  rcases List.mem_cons.mp hb with rfl | hb
  · obtain ⟨m, ⟨o', es, ep, e', hd', _⟩, _⟩ := F.ns; rw [e']; rfl
  · obtain ⟨c, hc, rfl⟩ := List.mem_map.mp hb
    obtain ⟨v, o', e', hd'⟩ := F.cells c hc; rw [e']; rfl

/-- the frame stands where nothing of its own was turned -/
theorem Frm.keepW {C ps h ps' h' loc L} (F : Frm B C ps h loc) (k : KeptW L ps h ps' h') (ow : Owns ps h) (ns : NoSeqs L h) (ap : ∀ a ∈ C.L, a ∉ L) : Frm B C ps' h' loc := by
  have kk : ∀ a ∈ C.L, ∀ o, h.get? a = some o → h'.get? a = some o := fun a ha o e => k.keep a o e (ap a ha) fun p hp => ⟨((F.apart a ha).1 p hp).1.symm, ((F.apart a ha).1 p hp).2.symm⟩
  have cm : ∀ c ∈ C.env.cells, c.2 ∈ C.L := fun c hc => List.mem_cons_of_mem _ (List.mem_map_of_mem hc)
  refine ⟨F.len, ?_, fun i x hx hk => ?_, fun c hc => ?_, fun a ha => ⟨fun p hp => ?_, (F.apart a ha).2⟩⟩
  · obtain ⟨m, ⟨o', es, ep, e', r⟩, hm⟩ := F.ns
    exact ⟨m, ⟨o', es, ep, kk _ (List.mem_cons_self) _ e', r⟩, fun i x d a b c => by obtain ⟨v, p, q⟩ := hm i x d a b c; exact ⟨v, p, q.monoW k ow ns⟩⟩
  · obtain ⟨c, v, hc, ⟨o, e, hd⟩, hv⟩ := F.cell i x hx hk
    exact ⟨c, v, hc, ⟨o, kk _ (cm (x, c) (mem_of_lookup hc)) _ e, hd⟩, fun d hd' => by obtain ⟨u, p, q⟩ := hv d hd'; exact ⟨u, p, q.monoW k ow ns⟩⟩
  · obtain ⟨v, o, e, hd⟩ := F.cells c hc
    exact ⟨v, o, kk _ (cm c hc) _ e, hd⟩
  · obtain ⟨qs, rfl, hq⟩ := k.ext
    rcases List.mem_append.mp hp with hp | hp
    · exact (F.apart a ha).1 p hp
    · have l := F.live a ha
      refine ⟨fun q => ?_, fun q => ?_⟩
      · rw [← q, (hq p hp).1] at l; cases l
      · rw [← q, (hq p hp).2] at l; cases l
theorem Frm.keep {C ps h ps' h' loc L} (F : Frm B C ps h loc) (k : Kept L ps h ps' h') (ow : Owns ps h) (ns : NoSeqs L h) (ap : ∀ a ∈ C.L, a ∉ L) : Frm B C ps' h' loc := F.keepW k.w ow ns ap

variable (B)
structure Ok (C : FC) (σ : St) (ps : Ps) (s : Shared) : Prop where
  rep : Rep B ps s.heap σ.st
  frm : Frm B C ps s.heap σ.loc
  gens : s.gens = #[]
  os : s.os = B.os
variable {B}

/-- a step that makes objects that nobody owns -/
theorem Ok.ext {C σ ps s} (O : Ok B C σ ps s) {s' : Shared} (x : ∀ b o, s.heap.get? b = some o → s'.heap.get? b = some o) (hg : s'.gens = s.gens := by rfl) (ho : s'.os = s.os := by rfl) : Ok B C σ ps s' :=
  ⟨O.rep.ext (.nil x) (noSeqs_nil _) (by simp), O.frm.keep ((ExtL.nil x).kept ps) O.rep.owns (noSeqs_nil _) (by simp), hg.trans O.gens, ho.trans O.os⟩
theorem Ok.tok {C σ ps s} (O : Ok B C σ ps s) (t : Nat) : Ok B C σ ps { s with toks := t } := ⟨O.rep, O.frm, O.gens, O.os⟩

end Mine
end

section
open PySem PySem.W PyProof.Rows
namespace Mine

noncomputable def lget : List (Option D) → Nat → Option D
  | [], _ => .none
  | x :: _, 0 => x
  | _ :: r, n + 1 => lget r n

/-- a decision -/
noncomputable def Br (b : Bool) (P Q : Prop) : Prop := (b = true → P) ∧ (b = false → Q)

mutual
noncomputable def toPy : D → PyData
  | .none => .none
  | .bool b => .bool b
  | .int i => .int i
  | .str s => .str (S s)
  | .tup xs => .tuple (toPys xs)
  | .lst xs => .list (toPys xs)
  | .scr xs => .list (xs.map .int)
  | .obj _ => .none
  | .sta _ => .none
noncomputable def toPys : List D → List PyData
  | [] => []
  | x :: r => toPy x :: toPys r
end
mutual
noncomputable def flat : D → Bool
  | .obj _ => false
  | .sta _ => false
  | .tup xs => flats xs
  | .lst xs => flats xs
  | .scr _ => false
  | _ => true
noncomputable def flats : List D → Bool
  | [] => true
  | x :: r => flat x && flats r
end
noncomputable def rep (xs : List D) : PyData := .list (toPys xs)

noncomputable def intText (i : Int) : List Nat := (Str.ofString (toString i)).cps.toList

noncomputable def biLen (st : List O) (x : D) (K : D → Prop) : Prop := match x with
  | .str l => (l.length ≤ line) ∧ K (.int l.length)
  | .lst l => (l.length ≤ line) ∧ K (.int l.length)
  | .scr l => (l.length ≤ line) ∧ K (.int l.length)
  | .obj i => ∃ xs, st[i]? = some (.lst xs) ∧ (xs.length ≤ line) ∧ K (.int xs.length)
  | _ => False
noncomputable def biP (st : List O) (b : BI) (x : D) (K : D → Prop) : Prop := match b with
  | .len => biLen st x K
  | .str => onI x fun i => (i.natAbs < 2 ^ 200) ∧ K (.str (intText i))
  | .repr => onO x fun i => ∃ xs, st[i]? = some (.lst xs) ∧ (flats xs = true ∧ (rep xs).showable = true ∧ (rep xs).hasDict = false ∧ (rep xs).depth ≤ 100 ∧ (rep xs).shown.length ≤ line) ∧ K (.str (rep xs).shown.cps.toList)

/-- the first place of a sign, or -1 -/
noncomputable def findSign (c : Nat) : List Nat → Int
  | [] => -1
  | x :: r => if x = c then 0 else (if findSign c r < 0 then -1 else findSign c r + 1)
noncomputable def lowerSign (c : Nat) : Nat := if 65 ≤ c ∧ c ≤ 90 then c + 32 else c
noncomputable def upperSign (c : Nat) : Nat := if 97 ≤ c ∧ c ≤ 122 then c - 32 else c
noncomputable def joined (sep : List Nat) : List (List Nat) → List Nat
  | [] => []
  | [x] => x
  | x :: r => x ++ sep ++ joined sep r
noncomputable def strsOf : List D → Option (List (List Nat))
  | [] => some []
  | .str x :: r => (strsOf r).map (x :: ·)
  | _ => .none
noncomputable def sumLen (xs : List (List Nat)) : Nat := (xs.map (·.length)).sum
noncomputable def ascii (l : List Nat) : Prop := ∀ c ∈ l, c < 128
/-- the first place of a text in a list of texts -/
noncomputable def placeOf (x : List Nat) : List D → Option Nat
  | .str y :: r => if leq y x then some 0 else (placeOf x r).map (· + 1)
  | _ => .none
noncomputable def putAllD : List D → List (List Nat × D) → List (List Nat × D) → List (List Nat × D)
  | _, [], acc => acc
  | q, (k, d) :: r, acc => putAllD q r (kput k d acc)

/-- what the object must be where its method is looked for -/
noncomputable def smK (st : List O) (m : SM) (x : D) : Prop := match m with
  | .append | .reverse => onO x fun i => ∃ xs, st[i]? = some (.lst xs)
  | .get | .update => onO x fun i => ∃ kvs, st[i]? = some (.dct kvs)
  | .lower | .upper | .find | .join => onT x fun _ => True
  | .index => onLs x fun _ => True

noncomputable def smJoin (st : List O) (l : List Nat) (y : D) (K : D → List O → Prop) : Prop := match y with
  | .lst ds => onSome (strsOf ds) fun xs => (sumLen xs + xs.length * l.length ≤ line) ∧ K (.str (joined l xs)) st
  | .obj j => ∃ ds, st[j]? = some (.lst ds) ∧ onSome (strsOf ds) fun xs => (sumLen xs + xs.length * l.length ≤ line) ∧ K (.str (joined l xs)) st
  | _ => False
noncomputable def smP (st : List O) (m : SM) (x : D) (args : List D) (K : D → List O → Prop) : Prop := match m with
  | .lower => onT x fun l => on0 args ((ascii l ∧ l.length ≤ line) ∧ K (.str (l.map lowerSign)) st)
  | .upper => onT x fun l => on0 args ((ascii l ∧ l.length ≤ line) ∧ K (.str (l.map upperSign)) st)
  | .find => onT x fun l => on1 args fun y => onT y fun t => on1 t fun c => (l.length ≤ line) ∧ K (.int (findSign c l)) st
  | .join => onT x fun l => on1 args fun y => smJoin st l y K
  | .index => onLs x fun ds => on1 args fun y => onT y fun t => onSome (placeOf t ds) fun i => (ds.length ≤ 100 ∧ (strsOf ds).isSome = true) ∧ K (.int i) st
  | .get => onO x fun i => on2 args fun y d => onT y fun k => ∃ kvs, st[i]? = some (.dct kvs) ∧ K ((kget k kvs).getD d) st
  | .append => onO x fun i => on1 args fun d => ∃ xs, st[i]? = some (.lst xs) ∧ (xs.length < line) ∧ K .none (st.set i (.lst (xs ++ [d])))
  | .reverse => onO x fun i => on0 args (∃ xs, st[i]? = some (.lst xs) ∧ (xs.length ≤ line) ∧ K .none (st.set i (.lst xs.reverse)))
  | .update => onO x fun i => on1 args fun y => onO y fun j => ∃ kvs, st[i]? = some (.dct kvs) ∧ ∃ kws, st[j]? = some (.dct kws) ∧ i ≠ j ∧ (kvs.length + kws.length ≤ 100) ∧ K .none (st.set i (.dct (putAllD [] kws kvs)))

noncomputable def items : D → Option (List D)
  | .str l => some (l.map fun c => .str [c])
  | .lst ds => some ds
  | _ => .none
/-- what a comprehension runs over -/
noncomputable def itemsC (st : List O) : D → List D → Prop
  | .lst ds, xs => ds = xs
  | .obj i, xs => st[i]? = some (.lst xs)
  | _, _ => False

noncomputable def stas : List (List Nat × Addr) → List (List Nat × D)
  | [] => []
  | (k, a) :: r => (k, .sta a) :: stas r

noncomputable def compn (ok : List O → Prop) (T G : St → (D → St → Prop) → Prop) (loc : List (Option D)) (k : Nat) (K : List O → Prop) : List D → List O → Prop
  | [], st => ok st ∧ K st
  | d :: ds, st => ok st ∧ T ⟨some d :: loc, st⟩ fun t σ1 => match t with
      | .bool c => Br c (G ⟨some d :: loc, σ1.st⟩ fun x σ2 => ∃ acc, σ2.st[k]? = some (.lst acc) ∧ acc.length < line ∧ compn ok T G loc k K ds (σ2.st.set k (.lst (acc ++ [x])))) (compn ok T G loc k K ds σ1.st)
      | _ => False

section
variable (SP : Addr → List D → List O → (D → List O → Prop) → Prop)

noncomputable def E : ME → St → (D → St → Prop) → Prop
  | .loc i, σ, K => onSome (lget σ.loc i) fun d => K d σ
  | .none, σ, K => K .none σ
  | .bool b, σ, K => K (.bool b) σ
  | .int i, σ, K => K (.int i) σ
  | .str s, σ, K => K (.str s) σ
  | .fn a, σ, K => K (.sta a) σ
  | .nil, σ, K => K (.tup []) σ
  | .cons a b, σ, K => E a σ fun x σ1 => E b σ1 fun ys σ2 => match ys with | .tup l => K (.tup (x :: l)) σ2 | _ => False
  | .bin op a b, σ, K => E a σ fun x σ1 => E b σ1 fun y σ2 => binP op x y fun z => K z σ2
  | .cmp op a b, σ, K => E a σ fun x σ1 => E b σ1 fun y σ2 => cmpP σ2.st op x y fun z => K (.bool z) σ2
  | .and a b, σ, K => E a σ fun x σ1 => match x with | .bool c => Br c (E b σ1 K) (K (.bool false) σ1) | _ => False
  | .or a b, σ, K => E a σ fun x σ1 => match x with | .bool c => Br c (K (.bool true) σ1) (E b σ1 K) | _ => False
  | .not a, σ, K => E a σ fun x σ1 => match x with | .bool c => K (.bool !c) σ1 | _ => False
  | .ife t a b, σ, K => E t σ fun x σ1 => match x with | .bool c => Br c (E a σ1 K) (E b σ1 K) | _ => False
  | .tup es, σ, K => E es σ K
  | .lst es, σ, K => E es σ fun x σ1 => match x with | .tup l => K (.lst l) σ1 | _ => False
  | .lstM es, σ, K => E es σ fun x σ1 => match x with | .tup l => K (.obj σ1.st.length) (σ1.new (.lst l)) | _ => False
  | .dct kvs, σ, K => K (.obj σ.st.length) (σ.new (.dct (putAllD [] (stas kvs) [])))
  | .call f args, σ, K => E args σ fun x σ1 => match x with | .tup l => SP f l σ1.st fun d st' => K d ⟨σ1.loc, st'⟩ | _ => False
  | .callv dl fe args, σ, K => E fe σ fun f σ1 => match f with
      | .sta a => hasSign a dl = true ∧ E args σ1 fun x σ2 => match x with | .tup l => SP a l σ2.st fun d st' => K d ⟨σ2.loc, st'⟩ | _ => False
      | _ => False
  | .meth o c m f args, σ, K => E o σ fun x σ1 => match x with
      | .obj i => ∃ kvs, σ1.st[i]? = some (.ins c kvs) ∧ aget m kvs = .none ∧ E args σ1 fun y σ2 => match y with
        | .tup l => SP f (.obj i :: l) σ2.st fun d st' => K d ⟨σ2.loc, st'⟩
        | _ => False
      | _ => False
  | .new c init args, σ, K => E args σ fun y σ1 => match y with
      | .tup l => SP init (.obj σ1.st.length :: l) (σ1.st ++ [.ins c []]) fun d st' => match d with | .none => K (.obj σ1.st.length) ⟨σ1.loc, st'⟩ | _ => False
      | _ => False
  | .bi b a, σ, K => E a σ fun x σ1 => biP σ1.st b x fun d => K d σ1
  | .sm m o args, σ, K => E o σ fun x σ1 => smK σ1.st m x ∧ E args σ1 fun y σ2 => match y with
      | .tup l => smP σ2.st m x l fun d st' => K d ⟨σ2.loc, st'⟩
      | _ => False
  | .idx a i, σ, K => E a σ fun x σ1 => E i σ1 fun y σ2 => idxP σ2.st x y fun d => K d σ2
  | .slc a lo hi, σ, K => E a σ fun x σ1 => E lo σ1 fun l σ2 => E hi σ2 fun u σ3 => slcP x l u fun d => K d σ3
  | .att o c n, σ, K => E o σ fun x σ1 => match x with
      | .obj i => ∃ kvs, σ1.st[i]? = some (.ins c kvs) ∧ ∃ d, aget n kvs = some d ∧ K d σ1
      | _ => False
  | .comp rng it t e, σ, K => E it σ fun x σ1 => match rng with
      | true => match x with
        | .int k => (0 ≤ k ∧ k ≤ 1000) ∧ compn (fun _ => True) (E t) (E e) σ1.loc σ1.st.length (fun st' => K (.obj σ1.st.length) ⟨σ1.loc, st'⟩) ((List.range k.toNat).map fun (j : Nat) => .int j) (σ1.st ++ [.lst []])
        | _ => False
      | false => ∃ ds, itemsC σ1.st x ds ∧ ds.length ≤ 1000 ∧ compn (fun st => itemsC st x ds) (E t) (E e) σ1.loc σ1.st.length (fun st' => K (.obj σ1.st.length) ⟨σ1.loc, st'⟩) ds (σ1.st ++ [.lst []])

noncomputable def augP (op : BOp) (x y : D) (K : D → Prop) : Prop := match op with
  | .add => (match x with
    | .int a => onI y fun b => K (.int (a + b))
    | .str a => onT y fun b => (a.length + b.length ≤ line) ∧ K (.str (a ++ b))
    | _ => False)
  | _ => False

noncomputable def putAll (σ : St) : List Nat → List D → Option St
  | [], [] => some σ
  | i :: is, d :: ds => putAll (σ.put i d) is ds
  | _, _ => .none

noncomputable def setP (σ : St) (d x y : D) (K : St → Prop) : Prop := onO x fun k => match y with
  | .int j => ∃ xs, σ.st[k]? = some (.lst xs) ∧ (0 ≤ j ∧ j.toNat < xs.length ∧ j < 1000) ∧ K (σ.upd k (.lst (xs.set j.toNat d)))
  | .str n => ∃ kvs, σ.st[k]? = some (.dct kvs) ∧ (kvs.length ≤ 100) ∧ K (σ.upd k (.dct (kput n d kvs)))
  | _ => False

noncomputable def whn (T : St → (D → St → Prop) → Prop) (X : St → (Fl → St → Prop) → Prop) (K : Fl → St → Prop) : Nat → St → Prop
  | 0, _ => False
  | n + 1, σ => T σ fun x σ1 => match x with
      | .bool c => Br c (X σ1 fun fl σ2 => match fl with | .next => whn T X K n σ2 | .ret d => K (.ret d) σ2) (K .next σ1)
      | _ => False
/-- a while loop: some number of turns brings it to its end -/
noncomputable def Whl (T : St → (D → St → Prop) → Prop) (X : St → (Fl → St → Prop) → Prop) (K : Fl → St → Prop) (σ : St) : Prop := ∃ n, whn T X K n σ
noncomputable def forn (X : St → (Fl → St → Prop) → Prop) (i : Nat) (K : Fl → St → Prop) : List D → St → Prop
  | [], σ => K .next σ
  | d :: ds, σ => X (σ.put i d) fun fl σ2 => match fl with | .next => forn X i K ds σ2 | .ret d => K (.ret d) σ2

noncomputable def X : MS → St → (Fl → St → Prop) → Prop
  | .skip, σ, K => K .next σ
  | .seq a b, σ, K => X a σ fun fl σ1 => match fl with | .next => X b σ1 K | .ret d => K (.ret d) σ1
  | .asg i e, σ, K => E SP e σ fun d σ1 => K .next (σ1.put i d)
  | .asgT is e, σ, K => E SP e σ fun d σ1 => match d with
      | .tup l => match putAll σ1 is l with | some σ2 => K .next σ2 | .none => False
      | _ => False
  | .swp is es, σ, K => E SP es σ fun d σ1 => match d with
      | .tup l => match putAll σ1 is.reverse l.reverse with | some σ2 => K .next σ2 | .none => False
      | _ => False
  | .asgA o c n e, σ, K => E SP e σ fun d σ1 => E SP o σ1 fun x σ2 => match x with
      | .obj i => ∃ kvs, σ2.st[i]? = some (.ins c kvs) ∧ kvs.length ≤ 100 ∧ K .next (σ2.upd i (.ins c (aput n d kvs)))
      | _ => False
  | .asgI o i e, σ, K => E SP e σ fun d σ1 => E SP o σ1 fun x σ2 => E SP i σ2 fun y σ3 => setP σ3 d x y fun σ4 => K .next σ4
  | .aug i op e, σ, K => onSome (lget σ.loc i) fun old => E SP e σ fun v σ1 => augP op old v fun z => K .next (σ1.put i z)
  | .augA o c n op e, σ, K => E SP o σ fun x σ1 => match x with
      | .obj i => ∃ kvs, σ1.st[i]? = some (.ins c kvs) ∧ ∃ old, aget n kvs = some old ∧ E SP e σ1 fun v σ2 => augP op old v fun z =>
          ∃ kws, σ2.st[i]? = some (.ins c kws) ∧ kws.length ≤ 100 ∧ K .next (σ2.upd i (.ins c (aput n z kws)))
      | _ => False
  | .ife t a b, σ, K => E SP t σ fun x σ1 => match x with | .bool c => Br c (X a σ1 K) (X b σ1 K) | _ => False
  | .whl t b, σ, K => Whl (E SP t) (X b) K σ
  | .forr i e b, σ, K => E SP e σ fun d σ1 => ∃ ds, items d = some ds ∧ ds.length ≤ line ∧ forn (X b) i K ds σ1
  | .forRange i n b, σ, K => E SP n σ fun d σ1 => match d with
      | .int k => (0 ≤ k ∧ k ≤ 1000) ∧ forn (X b) i K ((List.range k.toNat).map fun (j : Nat) => .int j) σ1
      | _ => False
  | .ret e, σ, K => E SP e σ fun d σ1 => K (.ret d) σ1
  | .exp e, σ, K => E SP e σ fun _ σ1 => K .next σ1
  | .dead, _, _ => False
end

/-! ## what an expression of the text must be -/
structure Cx where
  names : List Str
  kind : Str → Option NameKind
  glob : Str → Option Addr
  meths : List (Addr × Nat × Addr)
  attrs : List (Addr × Nat)
  clss : List (Addr × Addr)
  may : Addr → Bool

noncomputable def bopOf : Operator → Option BOp
  | .Add => some .add | .Sub => some .sub | .Mult => some .mul | .FloorDiv => some .fdiv | .Mod => some .mod | .Pow => some .pow | _ => .none
noncomputable def copOf : CmpOp → COp
  | .Eq => .eq | .NotEq => .ne | .Lt => .lt | .LtE => .le | .Gt => .gt | .GtE => .ge | .Is => .is | .IsNot => .isnot | .In => .isin | .NotIn => .notin
noncomputable def biName : BI → Str
  | .len => Str.ofString "len" | .str => Str.ofString "str" | .repr => Str.ofString "repr"
noncomputable def smName : SM → Str
  | .lower => Str.ofString "lower" | .upper => Str.ofString "upper" | .find => Str.ofString "find" | .join => Str.ofString "join" | .index => Str.ofString "index"
  | .get => Str.ofString "get" | .append => Str.ofString "append" | .reverse => Str.ofString "reverse" | .update => Str.ofString "update"
noncomputable def noStar : PySem.Expr → Bool
  | .Starred .. => false
  | _ => true
/-- no call without arguments of a bare name (it might be super()) -/
noncomputable def noSuper : PySem.Expr → Bool
  | .Call (.Name ..) [] [] _ => false
  | _ => true
noncomputable def noComp : PySem.Expr → Bool
  | .ListComp .. | .SetComp .. | .DictComp .. => false
  | _ => true
noncomputable def isSub : PySem.Expr → Bool
  | .Subscript .. => true
  | _ => false
noncomputable def noSet : PySem.Expr → Bool
  | .Set .. => false
  | _ => true
noncomputable def noSlice : PySem.Expr → Bool
  | .Slice .. => false
  | _ => true
noncomputable def dist : List (List Nat) → Bool
  | [] => true
  | k :: r => r.all (fun y => !leq y k) && dist r

/-- the block of a comprehension: its own name first, the outer name that it hides masked -/
noncomputable def Cx.comp (cx : Cx) (y : Str) (scope : PySem.Scope) : Cx :=
  { cx with names := y :: cx.names.map (fun x => if x == y then (Str.ofString "") else x), kind := fun n => (scope.names.map fun (n, k) => if (k == .free && cx.kind n == some .cell) then (n, NameKind.cell) else (n, k)).lookup n }
noncomputable def compOk (cx : Cx) (y : Str) (scope : PySem.Scope) : Bool :=
  scope.kind == .function && scope.names.lookup y == some .local && scope.names.all (fun p => p.2 != .cell && (!(p.2 == .local) || scope.names.lookup p.1 == some .local)) &&
  (match scope.names.getLast? with
    | some (x, .free) => cx.kind x == some .cell && cx.names.contains x && scope.names.dropLast.all (fun p => p.2 != .free)
    | _ => false) &&
  (cx.comp y scope).kind y == some .local &&
  (cx.comp y scope).names.tail.all (fun n => !((cx.comp y scope).kind n == some .local)) &&
  (cx.comp y scope).kind (Str.ofString "") == .none

/-! ## looks at the text's trees -/
noncomputable def onName (e : PySem.Expr) (f : Str → Pos → Bool) : Bool := if h : e.ctorIdx = 23 then PySem.Expr.Name.elim (motive_1 := fun _ => Bool) e h f else false
theorem onName_is {e : PySem.Expr} {f : Str → Pos → Bool} : onName e f = true → ∃ x p, e = .Name x p ∧ f x p = true := by
  by_cases hc : e.ctorIdx = 23
  · exact PySem.Expr.Name.elim (motive_1 := fun e => onName e f = true → ∃ x p, e = .Name x p ∧ f x p = true) e hc fun x p h => ⟨x, p, rfl, h⟩
  · intro h; unfold onName at h; rw [dif_neg hc] at h; cases h
noncomputable def onConstant (e : PySem.Expr) (f : PySem.Const → Nat → Pos → Bool) : Bool := if h : e.ctorIdx = 19 then PySem.Expr.Constant.elim (motive_1 := fun _ => Bool) e h f else false
theorem onConstant_is {e : PySem.Expr} {f : PySem.Const → Nat → Pos → Bool} : onConstant e f = true → ∃ c k p, e = .Constant c k p ∧ f c k p = true := by
  by_cases hc : e.ctorIdx = 19
  · exact PySem.Expr.Constant.elim (motive_1 := fun e => onConstant e f = true → ∃ c k p, e = .Constant c k p ∧ f c k p = true) e hc fun c k p h => ⟨c, k, p, rfl, h⟩
  · intro h; unfold onConstant at h; rw [dif_neg hc] at h; cases h
noncomputable def onUnaryOp (e : PySem.Expr) (f : PySem.UnaryOp → PySem.Expr → Pos → Bool) : Bool := if h : e.ctorIdx = 3 then PySem.Expr.UnaryOp.elim (motive_1 := fun _ => Bool) e h f else false
theorem onUnaryOp_is {e : PySem.Expr} {f : PySem.UnaryOp → PySem.Expr → Pos → Bool} : onUnaryOp e f = true → ∃ o x p, e = .UnaryOp o x p ∧ f o x p = true := by
  by_cases hc : e.ctorIdx = 3
  · exact PySem.Expr.UnaryOp.elim (motive_1 := fun e => onUnaryOp e f = true → ∃ o x p, e = .UnaryOp o x p ∧ f o x p = true) e hc fun o x p h => ⟨o, x, p, rfl, h⟩
  · intro h; unfold onUnaryOp at h; rw [dif_neg hc] at h; cases h
noncomputable def onBinOp (e : PySem.Expr) (f : PySem.Expr → Operator → PySem.Expr → Pos → Bool) : Bool := if h : e.ctorIdx = 2 then PySem.Expr.BinOp.elim (motive_1 := fun _ => Bool) e h f else false
theorem onBinOp_is {e : PySem.Expr} {f : PySem.Expr → Operator → PySem.Expr → Pos → Bool} : onBinOp e f = true → ∃ l o r p, e = .BinOp l o r p ∧ f l o r p = true := by
  by_cases hc : e.ctorIdx = 2
  · exact PySem.Expr.BinOp.elim (motive_1 := fun e => onBinOp e f = true → ∃ l o r p, e = .BinOp l o r p ∧ f l o r p = true) e hc fun l o r p h => ⟨l, o, r, p, rfl, h⟩
  · intro h; unfold onBinOp at h; rw [dif_neg hc] at h; cases h
noncomputable def onCompare (e : PySem.Expr) (f : PySem.Expr → List CmpOp → List PySem.Expr → Pos → Bool) : Bool := if h : e.ctorIdx = 15 then PySem.Expr.Compare.elim (motive_1 := fun _ => Bool) e h f else false
theorem onCompare_is {e : PySem.Expr} {f : PySem.Expr → List CmpOp → List PySem.Expr → Pos → Bool} : onCompare e f = true → ∃ l os rs p, e = .Compare l os rs p ∧ f l os rs p = true := by
  by_cases hc : e.ctorIdx = 15
  · exact PySem.Expr.Compare.elim (motive_1 := fun e => onCompare e f = true → ∃ l os rs p, e = .Compare l os rs p ∧ f l os rs p = true) e hc fun l os rs p h => ⟨l, os, rs, p, rfl, h⟩
  · intro h; unfold onCompare at h; rw [dif_neg hc] at h; cases h
noncomputable def onBoolOp (e : PySem.Expr) (f : PySem.BoolOp → List PySem.Expr → Pos → Bool) : Bool := if h : e.ctorIdx = 0 then PySem.Expr.BoolOp.elim (motive_1 := fun _ => Bool) e h f else false
theorem onBoolOp_is {e : PySem.Expr} {f : PySem.BoolOp → List PySem.Expr → Pos → Bool} : onBoolOp e f = true → ∃ o xs p, e = .BoolOp o xs p ∧ f o xs p = true := by
  by_cases hc : e.ctorIdx = 0
  · exact PySem.Expr.BoolOp.elim (motive_1 := fun e => onBoolOp e f = true → ∃ o xs p, e = .BoolOp o xs p ∧ f o xs p = true) e hc fun o xs p h => ⟨o, xs, p, rfl, h⟩
  · intro h; unfold onBoolOp at h; rw [dif_neg hc] at h; cases h
noncomputable def onIfExp (e : PySem.Expr) (f : PySem.Expr → PySem.Expr → PySem.Expr → Pos → Bool) : Bool := if h : e.ctorIdx = 5 then PySem.Expr.IfExp.elim (motive_1 := fun _ => Bool) e h f else false
theorem onIfExp_is {e : PySem.Expr} {f : PySem.Expr → PySem.Expr → PySem.Expr → Pos → Bool} : onIfExp e f = true → ∃ t a b p, e = .IfExp t a b p ∧ f t a b p = true := by
  by_cases hc : e.ctorIdx = 5
  · exact PySem.Expr.IfExp.elim (motive_1 := fun e => onIfExp e f = true → ∃ t a b p, e = .IfExp t a b p ∧ f t a b p = true) e hc fun t a b p h => ⟨t, a, b, p, rfl, h⟩
  · intro h; unfold onIfExp at h; rw [dif_neg hc] at h; cases h
noncomputable def onTuple (e : PySem.Expr) (f : List PySem.Expr → Nat → Pos → Bool) : Bool := if h : e.ctorIdx = 25 then PySem.Expr.Tuple.elim (motive_1 := fun _ => Bool) e h f else false
theorem onTuple_is {e : PySem.Expr} {f : List PySem.Expr → Nat → Pos → Bool} : onTuple e f = true → ∃ l k p, e = .Tuple l k p ∧ f l k p = true := by
  by_cases hc : e.ctorIdx = 25
  · exact PySem.Expr.Tuple.elim (motive_1 := fun e => onTuple e f = true → ∃ l k p, e = .Tuple l k p ∧ f l k p = true) e hc fun l k p h => ⟨l, k, p, rfl, h⟩
  · intro h; unfold onTuple at h; rw [dif_neg hc] at h; cases h
noncomputable def onList (e : PySem.Expr) (f : List PySem.Expr → Pos → Bool) : Bool := if h : e.ctorIdx = 24 then PySem.Expr.List.elim (motive_1 := fun _ => Bool) e h f else false
theorem onList_is {e : PySem.Expr} {f : List PySem.Expr → Pos → Bool} : onList e f = true → ∃ l p, e = .List l p ∧ f l p = true := by
  by_cases hc : e.ctorIdx = 24
  · exact PySem.Expr.List.elim (motive_1 := fun e => onList e f = true → ∃ l p, e = .List l p ∧ f l p = true) e hc fun l p h => ⟨l, p, rfl, h⟩
  · intro h; unfold onList at h; rw [dif_neg hc] at h; cases h
noncomputable def onDict (e : PySem.Expr) (f : List (Option PySem.Expr) → List PySem.Expr → Pos → Bool) : Bool := if h : e.ctorIdx = 6 then PySem.Expr.Dict.elim (motive_1 := fun _ => Bool) e h f else false
theorem onDict_is {e : PySem.Expr} {f : List (Option PySem.Expr) → List PySem.Expr → Pos → Bool} : onDict e f = true → ∃ ks vs p, e = .Dict ks vs p ∧ f ks vs p = true := by
  by_cases hc : e.ctorIdx = 6
  · exact PySem.Expr.Dict.elim (motive_1 := fun e => onDict e f = true → ∃ ks vs p, e = .Dict ks vs p ∧ f ks vs p = true) e hc fun ks vs p h => ⟨ks, vs, p, rfl, h⟩
  · intro h; unfold onDict at h; rw [dif_neg hc] at h; cases h
noncomputable def onCall (e : PySem.Expr) (f : PySem.Expr → List PySem.Expr → List Keyword → Pos → Bool) : Bool := if h : e.ctorIdx = 16 then PySem.Expr.Call.elim (motive_1 := fun _ => Bool) e h f else false
theorem onCall_is {e : PySem.Expr} {f : PySem.Expr → List PySem.Expr → List Keyword → Pos → Bool} : onCall e f = true → ∃ g as kw p, e = .Call g as kw p ∧ f g as kw p = true := by
  by_cases hc : e.ctorIdx = 16
  · exact PySem.Expr.Call.elim (motive_1 := fun e => onCall e f = true → ∃ g as kw p, e = .Call g as kw p ∧ f g as kw p = true) e hc fun g as kw p h => ⟨g, as, kw, p, rfl, h⟩
  · intro h; unfold onCall at h; rw [dif_neg hc] at h; cases h
noncomputable def onAttribute (e : PySem.Expr) (f : PySem.Expr → Str → Pos → Bool) : Bool := if h : e.ctorIdx = 20 then PySem.Expr.Attribute.elim (motive_1 := fun _ => Bool) e h f else false
theorem onAttribute_is {e : PySem.Expr} {f : PySem.Expr → Str → Pos → Bool} : onAttribute e f = true → ∃ v n p, e = .Attribute v n p ∧ f v n p = true := by
  by_cases hc : e.ctorIdx = 20
  · exact PySem.Expr.Attribute.elim (motive_1 := fun e => onAttribute e f = true → ∃ v n p, e = .Attribute v n p ∧ f v n p = true) e hc fun v n p h => ⟨v, n, p, rfl, h⟩
  · intro h; unfold onAttribute at h; rw [dif_neg hc] at h; cases h
noncomputable def onSubscript (e : PySem.Expr) (f : PySem.Expr → PySem.Expr → Pos → Bool) : Bool := if h : e.ctorIdx = 21 then PySem.Expr.Subscript.elim (motive_1 := fun _ => Bool) e h f else false
theorem onSubscript_is {e : PySem.Expr} {f : PySem.Expr → PySem.Expr → Pos → Bool} : onSubscript e f = true → ∃ v i p, e = .Subscript v i p ∧ f v i p = true := by
  by_cases hc : e.ctorIdx = 21
  · exact PySem.Expr.Subscript.elim (motive_1 := fun e => onSubscript e f = true → ∃ v i p, e = .Subscript v i p ∧ f v i p = true) e hc fun v i p h => ⟨v, i, p, rfl, h⟩
  · intro h; unfold onSubscript at h; rw [dif_neg hc] at h; cases h
noncomputable def onSlice (e : PySem.Expr) (f : Option PySem.Expr → Option PySem.Expr → Option PySem.Expr → Pos → Bool) : Bool := if h : e.ctorIdx = 26 then PySem.Expr.Slice.elim (motive_1 := fun _ => Bool) e h f else false
theorem onSlice_is {e : PySem.Expr} {f : Option PySem.Expr → Option PySem.Expr → Option PySem.Expr → Pos → Bool} : onSlice e f = true → ∃ l u st p, e = .Slice l u st p ∧ f l u st p = true := by
  by_cases hc : e.ctorIdx = 26
  · exact PySem.Expr.Slice.elim (motive_1 := fun e => onSlice e f = true → ∃ l u st p, e = .Slice l u st p ∧ f l u st p = true) e hc fun l u st p h => ⟨l, u, st, p, rfl, h⟩
  · intro h; unfold onSlice at h; rw [dif_neg hc] at h; cases h
noncomputable def onListComp (e : PySem.Expr) (f : PySem.Expr → List Comprehension → PySem.Scope → Pos → Bool) : Bool := if h : e.ctorIdx = 8 then PySem.Expr.ListComp.elim (motive_1 := fun _ => Bool) e h f else false
theorem onListComp_is {e : PySem.Expr} {f : PySem.Expr → List Comprehension → PySem.Scope → Pos → Bool} : onListComp e f = true → ∃ el gs sc p, e = .ListComp el gs sc p ∧ f el gs sc p = true := by
  by_cases hc : e.ctorIdx = 8
  · exact PySem.Expr.ListComp.elim (motive_1 := fun e => onListComp e f = true → ∃ el gs sc p, e = .ListComp el gs sc p ∧ f el gs sc p = true) e hc fun el gs sc p h => ⟨el, gs, sc, p, rfl, h⟩
  · intro h; unfold onListComp at h; rw [dif_neg hc] at h; cases h
noncomputable def onCbool (e : PySem.Const) (f : Bool → Bool) : Bool := if h : e.ctorIdx = 1 then PySem.Const.bool.elim (motive := fun _ => Bool) e h f else false
theorem onCbool_is {e : PySem.Const} {f : Bool → Bool} : onCbool e f = true → ∃ b, e = .bool b ∧ f b = true := by
  by_cases hc : e.ctorIdx = 1
  · exact PySem.Const.bool.elim (motive := fun e => onCbool e f = true → ∃ b, e = .bool b ∧ f b = true) e hc fun b h => ⟨b, rfl, h⟩
  · intro h; unfold onCbool at h; rw [dif_neg hc] at h; cases h
noncomputable def onCint (e : PySem.Const) (f : Int → Bool) : Bool := if h : e.ctorIdx = 2 then PySem.Const.int.elim (motive := fun _ => Bool) e h f else false
theorem onCint_is {e : PySem.Const} {f : Int → Bool} : onCint e f = true → ∃ i, e = .int i ∧ f i = true := by
  by_cases hc : e.ctorIdx = 2
  · exact PySem.Const.int.elim (motive := fun e => onCint e f = true → ∃ i, e = .int i ∧ f i = true) e hc fun i h => ⟨i, rfl, h⟩
  · intro h; unfold onCint at h; rw [dif_neg hc] at h; cases h
noncomputable def onCstr (e : PySem.Const) (f : Str → Bool) : Bool := if h : e.ctorIdx = 5 then PySem.Const.str.elim (motive := fun _ => Bool) e h f else false
theorem onCstr_is {e : PySem.Const} {f : Str → Bool} : onCstr e f = true → ∃ x, e = .str x ∧ f x = true := by
  by_cases hc : e.ctorIdx = 5
  · exact PySem.Const.str.elim (motive := fun e => onCstr e f = true → ∃ x, e = .str x ∧ f x = true) e hc fun x h => ⟨x, rfl, h⟩
  · intro h; unfold onCstr at h; rw [dif_neg hc] at h; cases h
noncomputable def isNoneC (c : PySem.Const) : Bool := Nat.beq c.ctorIdx 0
noncomputable def onE (t : PySem.Expr ⊕ List PySem.Expr) (f : PySem.Expr → Bool) : Bool := match t with | .inl e => f e | .inr _ => false
noncomputable def onL (t : PySem.Expr ⊕ List PySem.Expr) (f : List PySem.Expr → Bool) : Bool := match t with | .inl _ => false | .inr l => f l
noncomputable def onOne {α : Type} (l : List α) (f : α → Bool) : Bool := match l with | [] => false | x :: r => r.isEmpty && f x
theorem onOne_is {α : Type} {l : List α} {f : α → Bool} (h : onOne l f = true) : ∃ x, l = [x] ∧ f x = true := by
  rcases l with _ | ⟨x, _ | ⟨y, r⟩⟩
  · cases h
  · exact ⟨x, rfl, h⟩
  · cases h
noncomputable def onCons {α : Type} (l : List α) (f : α → List α → Bool) : Bool := match l with | [] => false | x :: r => f x r
theorem onCons_is {α : Type} {l : List α} {f : α → List α → Bool} (h : onCons l f = true) : ∃ x r, l = x :: r ∧ f x r = true := by
  cases l with
  | nil => cases h
  | cons x r => exact ⟨x, r, rfl, h⟩
theorem isEmpty_is {α : Type} {l : List α} (h : l.isEmpty = true) : l = [] := List.isEmpty_iff.mp h
theorem and_is {a b : Bool} (h : (a && b) = true) : a = true ∧ b = true := Bool.and_eq_true_iff.mp h
theorem or_is {a b : Bool} (h : (a || b) = true) : a = true ∨ b = true := Bool.or_eq_true_iff.mp h
/-- a call without keywords -/
noncomputable def onCall0 (e : PySem.Expr) (f : PySem.Expr → List PySem.Expr → Pos → Bool) : Bool := onCall e fun g as kw p => kw.isEmpty && f g as p
theorem onCall0_is {e : PySem.Expr} {f : PySem.Expr → List PySem.Expr → Pos → Bool} (h : onCall0 e f = true) : ∃ g as p, e = .Call g as [] p ∧ f g as p = true := by
  obtain ⟨g, as, kw, p, rfl, h⟩ := onCall_is h
  obtain ⟨h1, h2⟩ := and_is h
  obtain rfl := isEmpty_is h1
  exact ⟨g, as, p, rfl, h2⟩
/-- a call of a bare name -/
noncomputable def onCallN (e : PySem.Expr) (f : Str → List PySem.Expr → Pos → Bool) : Bool := onCall0 e fun g as p => onName g fun x _ => f x as p
theorem onCallN_is {e : PySem.Expr} {f : Str → List PySem.Expr → Pos → Bool} (h : onCallN e f = true) : ∃ x q as p, e = .Call (.Name x q) as [] p ∧ f x as p = true := by
  obtain ⟨g, as, p, rfl, h⟩ := onCall0_is h
  obtain ⟨x, q, rfl, h⟩ := onName_is h
  exact ⟨x, q, as, p, rfl, h⟩
/-- a call of a name behind a dot -/
noncomputable def onCallA (e : PySem.Expr) (f : PySem.Expr → Str → Pos → List PySem.Expr → Pos → Bool) : Bool := onCall0 e fun g as p => onAttribute g fun v n q => f v n q as p
theorem onCallA_is {e : PySem.Expr} {f : PySem.Expr → Str → Pos → List PySem.Expr → Pos → Bool} (h : onCallA e f = true) : ∃ v n q as p, e = .Call (.Attribute v n q) as [] p ∧ f v n q as p = true := by
  obtain ⟨g, as, p, rfl, h⟩ := onCall0_is h
  obtain ⟨v, n, q, rfl, h⟩ := onAttribute_is h
  exact ⟨v, n, q, as, p, rfl, h⟩
/-- the one part of a comprehension, over a bare name -/
noncomputable def onGen (gs : List Comprehension) (f : Str → Pos → PySem.Expr → List PySem.Expr → Bool) : Bool := onOne gs fun g => match g with | ⟨tg, iter, ifs, n⟩ => decide (n = 0) && onName tg fun y p => f y p iter ifs
theorem onGen_is {gs : List Comprehension} {f : Str → Pos → PySem.Expr → List PySem.Expr → Bool} (h : onGen gs f = true) : ∃ y p iter ifs, gs = [⟨.Name y p, iter, ifs, 0⟩] ∧ f y p iter ifs = true := by
  obtain ⟨⟨tg, iter, ifs, n⟩, rfl, h⟩ := onOne_is h
  obtain ⟨h1, h2⟩ := and_is h
  obtain rfl := of_decide_eq_true h1
  obtain ⟨y, p, rfl, h⟩ := onName_is h2
  exact ⟨y, p, iter, ifs, rfl, h⟩
theorem onListComp_mk {e : PySem.Expr} {gs : List Comprehension} {sc : PySem.Scope} {p : Pos} {f : PySem.Expr → List Comprehension → PySem.Scope → Pos → Bool} : onListComp (.ListComp e gs sc p) f = f e gs sc p := rfl
theorem onGen_mk {y : Str} {p : Pos} {iter : PySem.Expr} {ifs : List PySem.Expr} {f : Str → Pos → PySem.Expr → List PySem.Expr → Bool} : onGen [⟨.Name y p, iter, ifs, 0⟩] f = f y p iter ifs := rfl
noncomputable def isUSub (o : PySem.UnaryOp) : Bool := match o with | .USub => true | _ => false
noncomputable def isNot (o : PySem.UnaryOp) : Bool := match o with | .Not => true | _ => false
theorem isNoneC_is {c : PySem.Const} (h : isNoneC c = true) : c = .none := PySem.Const.none.elim (motive := fun c => c = .none) c (Nat.eq_of_beq_eq_true h) rfl
theorem isUSub_is {o : PySem.UnaryOp} (h : isUSub o = true) : o = .USub := by cases o <;> first | rfl | cases h
theorem isNot_is {o : PySem.UnaryOp} (h : isNot o = true) : o = .Not := by cases o <;> first | rfl | cases h
noncomputable def isAnd (o : PySem.BoolOp) : Bool := match o with | .And => true | .Or => false
theorem isAnd_is {o : PySem.BoolOp} (h : isAnd o = true) : o = .And := by cases o <;> first | rfl | cases h
theorem isOr_is {o : PySem.BoolOp} (h : (!isAnd o) = true) : o = .Or := by cases o <;> first | rfl | cases h

noncomputable def isNoneE (e : ME) : Bool := Nat.beq e.ctorIdx 1
theorem isNoneE_is {e : ME} (h : isNoneE e = true) : e = .none := by
  exact ME.none.elim (motive := fun e => e = .none) e (Nat.eq_of_beq_eq_true h) rfl
noncomputable def isTrueE (e : ME) : Bool := if h : e.ctorIdx = 2 then ME.bool.elim (motive := fun _ => Bool) e h id else false
theorem isTrueE_is {e : ME} : isTrueE e = true → e = .bool true := by
  by_cases hc : e.ctorIdx = 2
  · exact ME.bool.elim (motive := fun e => isTrueE e = true → e = .bool true) e hc fun b h => by cases b; cases h; rfl
  · intro h; unfold isTrueE at h; rw [dif_neg hc] at h; cases h
noncomputable def dctAre (cx : Cx) : List (List Nat × Addr) → List (Option PySem.Expr) → List PySem.Expr → Bool
  | [], ks, vs => ks.isEmpty && vs.isEmpty
  | (k, a) :: r, ks, vs => onCons ks fun k0 ks' => onCons vs fun v vs' =>
      (match k0 with | some e => onConstant e fun c _ _ => onCstr c fun x => x == S k | .none => false) && (onName v fun y _ => cx.kind y == some .globalImplicit && cx.glob y == some a && !(y == ("__debug__" : Str))) && dctAre cx r ks' vs'

noncomputable def mt : ME → Cx → PySem.Expr ⊕ List PySem.Expr → Bool
  | .loc i, cx, t => onE t fun e => onName e fun x _ => cx.names[i]? == some x && (cx.kind x == some .local || cx.kind x == some .cell) && !(x == ("__debug__" : Str))
  | .none, _, t => onE t fun e => onConstant e fun c _ _ => isNoneC c
  | .bool b, _, t => onE t fun e => onConstant e fun c _ _ => onCbool c fun x => b == x
  | .int i, _, t => onE t fun e => (onConstant e fun c _ _ => onCint c fun j => i == j) || (onUnaryOp e fun o x _ => isUSub o && onConstant x fun c _ _ => onCint c fun j => i == -j)
  | .str s, _, t => onE t fun e => onConstant e fun c _ _ => onCstr c fun x => x == S s
  | .fn a, cx, t => onE t fun e => onName e fun x _ => cx.kind x == some .globalImplicit && cx.glob x == some a && !(x == ("__debug__" : Str))
  | .nil, _, t => onL t fun l => l.isEmpty
  | .cons a b, cx, t => onL t fun l => onCons l fun e r => noStar e && mt a cx (.inl e) && mt b cx (.inr r)
  | .bin op a b, cx, t => onE t fun e => onBinOp e fun l o r _ => bopOf o == some op && mt a cx (.inl l) && mt b cx (.inl r)
  | .cmp op a b, cx, t => onE t fun e => onCompare e fun l os rs _ => onOne os fun o => onOne rs fun r => copOf o == op && !behindInMarks o r && mt a cx (.inl l) && mt b cx (.inl r)
  | .and a b, cx, t => onE t fun e => onBoolOp e fun o xs p => isAnd o && onCons xs fun x r => onCons r fun y r' => mt a cx (.inl x) && (match r' with | [] => mt b cx (.inl y) | z :: q => mt b cx (.inl (.BoolOp .And (y :: z :: q) p)))
  | .or a b, cx, t => onE t fun e => onBoolOp e fun o xs _ => !isAnd o && onCons xs fun x r => onOne r fun y => mt a cx (.inl x) && mt b cx (.inl y)
  | .not a, cx, t => onE t fun e => onUnaryOp e fun o x _ => isNot o && mt a cx (.inl x)
  | .ife t a b, cx, u => onE u fun e => onIfExp e fun t' a' b' _ => mt t cx (.inl t') && mt a cx (.inl a') && mt b cx (.inl b')
  | .tup es, cx, t => onE t fun e => onTuple e fun el _ _ => decide (el.length ≤ 50) && mt es cx (.inr el)
  | .lst es, cx, t => onE t fun e => onList e fun el _ => decide (el.length ≤ 50) && mt es cx (.inr el)
  | .lstM es, cx, t => onE t fun e => onList e fun el _ => decide (el.length ≤ 50) && mt es cx (.inr el)
  | .dct kvs, cx, t => onE t fun e => onDict e fun keys values _ => dctAre cx kvs keys values && dist (kvs.map (·.1)) && decide (kvs.length ≤ 15)
  | .call f args, cx, t => onE t fun e => onCallN e fun x as _ => cx.kind x == some .globalImplicit && cx.glob x == some f && cx.may f && !(x == ("__debug__" : Str)) && decide (as.length < 20) && mt args cx (.inr as)
  | .callv dl fe args, cx, t => onE t fun e => onCall0 e fun f as _ => isSub f && dl.all cx.may && decide (0 < as.length ∧ as.length < 20) && mt fe cx (.inl f) && mt args cx (.inr as)
  | .meth o c m f args, cx, t => onE t fun e => onCallA e fun oe name ap as p => ap.endLine == p.line && name == nm m && cx.meths.contains (c, m, f) && cx.may f && noSuper oe && decide (as.length < 20) && mt o cx (.inl oe) && mt args cx (.inr as)
  | .new c init args, cx, t => onE t fun e => onCallN e fun x as _ => cx.kind x == some .globalImplicit && cx.glob x == some c && cx.clss.contains (c, init) && cx.may init && !(x == ("__debug__" : Str)) && decide (0 < as.length ∧ as.length < 20) && mt args cx (.inr as)
  | .bi b a, cx, t => onE t fun e => onCallN e fun x as _ => onOne as fun arg => cx.kind x == some .globalImplicit && x == biName b && noStar arg && mt a cx (.inl arg)
  | .sm m o args, cx, t => onE t fun e => onCallA e fun oe name ap as p => ap.endLine == p.line && name == smName m && noSuper oe && decide (as.length < 20) && mt o cx (.inl oe) && mt args cx (.inr as)
  | .idx a i, cx, t => onE t fun e => onSubscript e fun v s _ => noSlice s && mt a cx (.inl v) && mt i cx (.inl s)
  | .slc a lo hi, cx, t => onE t fun e => onSubscript e fun v s _ => onSlice s fun l u st _ => st.isNone && (mt a cx (.inl v) &&
          (match l with | some l => mt lo cx (.inl l) | .none => isNoneE lo) && (match u with | some u => mt hi cx (.inl u) | .none => isNoneE hi))
  | .att o c n, cx, t => onE t fun e => onAttribute e fun v name _ => name == nm n && cx.attrs.contains (c, n) && noSuper v && mt o cx (.inl v)
  | .comp rng it t e, cx, u => onE u fun e0 => onListComp e0 fun elt gs scope _ => onGen gs fun y _ iter ifs => compOk cx y scope &&
        (match rng with
          | true => onCallN iter fun x as _ => onOne as fun n => cx.kind x == some .globalImplicit && x == (Str.ofString "range") && noStar n && mt it cx (.inl n)
          | false => noSet iter && mt it cx (.inl iter)) &&
        (match ifs with
          | [] => isTrueE t
          | c :: r => r.isEmpty && mt t (cx.comp y scope) (.inl c)) && mt e (cx.comp y scope) (.inl elt)
/-! ## what a statement of the text must be -/
noncomputable def nameIs (cx : Cx) (i : Nat) : PySem.Expr → Bool
  | .Name x _ => cx.names[i]? == some x && (cx.kind x == some .local || cx.kind x == some .cell)
  | _ => false
noncomputable def namesAre (cx : Cx) : List Nat → List PySem.Expr → Bool
  | [], [] => true
  | i :: is, e :: r => nameIs cx i e && namesAre cx is r
  | _, _ => false
noncomputable def notTup : PySem.Expr → Bool
  | .Tuple .. => false
  | _ => true
noncomputable def swapNames (cx : Cx) (ts vs : List PySem.Expr) : Option (List Str) :=
  if !(ts.length == 2 || ts.length == 3) || vs.length != ts.length then .none else
  if vs.any fun | .Starred .. => true | _ => false then .none else
  let line := (ts.head?.map (·.pos.line)).getD 0
  let names := ts.filterMap fun
    | .Name id pos => if cx.kind id == some .local && pos.line == line then some id else .none
    | _ => .none
  if names.length != ts.length || names.eraseDups.length != names.length then .none else
  if vs.all (foldedForSure 8) then .none else
  if vs.all (constantsAlone 8) then .none else some names
noncomputable def compSole (cx : Cx) (x : Str) (p : Pos) : PySem.Expr → Bool
  | .ListComp _ _ scope vp => cx.kind x == some .local && p.line == vp.line && !(scope.names.any fun (n, k) => n == x && (k == .local || k == .cell))
  | _ => false
noncomputable def noName : PySem.Expr → Bool
  | .Name .. => false
  | _ => true

noncomputable def onSAugAssign (e : Stmt) (f : PySem.Expr → Operator → PySem.Expr → Pos → Bool) : Bool := if h : e.ctorIdx = 7 then Stmt.AugAssign.elim (motive_2 := fun _ => Bool) e h f else false
theorem onSAugAssign_is {e : Stmt} {f : PySem.Expr → Operator → PySem.Expr → Pos → Bool} : onSAugAssign e f = true → ∃ tg o v p, e = .AugAssign tg o v p ∧ f tg o v p = true := by
  by_cases hc : e.ctorIdx = 7
  · exact Stmt.AugAssign.elim (motive_2 := fun e => onSAugAssign e f = true → ∃ tg o v p, e = .AugAssign tg o v p ∧ f tg o v p = true) e hc fun tg o v p h => ⟨tg, o, v, p, rfl, h⟩
  · intro h; unfold onSAugAssign at h; rw [dif_neg hc] at h; cases h
noncomputable def onSIf (e : Stmt) (f : PySem.Expr → List Stmt → List Stmt → Pos → Bool) : Bool := if h : e.ctorIdx = 12 then Stmt.If.elim (motive_2 := fun _ => Bool) e h f else false
theorem onSIf_is {e : Stmt} {f : PySem.Expr → List Stmt → List Stmt → Pos → Bool} : onSIf e f = true → ∃ t a b p, e = .If t a b p ∧ f t a b p = true := by
  by_cases hc : e.ctorIdx = 12
  · exact Stmt.If.elim (motive_2 := fun e => onSIf e f = true → ∃ t a b p, e = .If t a b p ∧ f t a b p = true) e hc fun t a b p h => ⟨t, a, b, p, rfl, h⟩
  · intro h; unfold onSIf at h; rw [dif_neg hc] at h; cases h
noncomputable def onSWhile (e : Stmt) (f : PySem.Expr → List Stmt → List Stmt → Pos → Bool) : Bool := if h : e.ctorIdx = 11 then Stmt.While.elim (motive_2 := fun _ => Bool) e h f else false
theorem onSWhile_is {e : Stmt} {f : PySem.Expr → List Stmt → List Stmt → Pos → Bool} : onSWhile e f = true → ∃ t b els p, e = .While t b els p ∧ f t b els p = true := by
  by_cases hc : e.ctorIdx = 11
  · exact Stmt.While.elim (motive_2 := fun e => onSWhile e f = true → ∃ t b els p, e = .While t b els p ∧ f t b els p = true) e hc fun t b els p h => ⟨t, b, els, p, rfl, h⟩
  · intro h; unfold onSWhile at h; rw [dif_neg hc] at h; cases h
noncomputable def onSFor (e : Stmt) (f : PySem.Expr → PySem.Expr → List Stmt → List Stmt → Pos → Bool) : Bool := if h : e.ctorIdx = 9 then Stmt.For.elim (motive_2 := fun _ => Bool) e h f else false
theorem onSFor_is {e : Stmt} {f : PySem.Expr → PySem.Expr → List Stmt → List Stmt → Pos → Bool} : onSFor e f = true → ∃ tg it b els p, e = .For tg it b els p ∧ f tg it b els p = true := by
  by_cases hc : e.ctorIdx = 9
  · exact Stmt.For.elim (motive_2 := fun e => onSFor e f = true → ∃ tg it b els p, e = .For tg it b els p ∧ f tg it b els p = true) e hc fun tg it b els p h => ⟨tg, it, b, els, p, rfl, h⟩
  · intro h; unfold onSFor at h; rw [dif_neg hc] at h; cases h
noncomputable def onSReturn (e : Stmt) (f : Option PySem.Expr → Pos → Bool) : Bool := if h : e.ctorIdx = 3 then Stmt.Return.elim (motive_2 := fun _ => Bool) e h f else false
theorem onSReturn_is {e : Stmt} {f : Option PySem.Expr → Pos → Bool} : onSReturn e f = true → ∃ v p, e = .Return v p ∧ f v p = true := by
  by_cases hc : e.ctorIdx = 3
  · exact Stmt.Return.elim (motive_2 := fun e => onSReturn e f = true → ∃ v p, e = .Return v p ∧ f v p = true) e hc fun v p h => ⟨v, p, rfl, h⟩
  · intro h; unfold onSReturn at h; rw [dif_neg hc] at h; cases h
noncomputable def onSExpr (e : Stmt) (f : PySem.Expr → Pos → Bool) : Bool := if h : e.ctorIdx = 24 then Stmt.Expr.elim (motive_2 := fun _ => Bool) e h f else false
theorem onSExpr_is {e : Stmt} {f : PySem.Expr → Pos → Bool} : onSExpr e f = true → ∃ v p, e = .Expr v p ∧ f v p = true := by
  by_cases hc : e.ctorIdx = 24
  · exact Stmt.Expr.elim (motive_2 := fun e => onSExpr e f = true → ∃ v p, e = .Expr v p ∧ f v p = true) e hc fun v p h => ⟨v, p, rfl, h⟩
  · intro h; unfold onSExpr at h; rw [dif_neg hc] at h; cases h
noncomputable def onSAssign (e : Stmt) (f : List PySem.Expr → PySem.Expr → Pos → Bool) : Bool := if h : e.ctorIdx = 5 then Stmt.Assign.elim (motive_2 := fun _ => Bool) e h f else false
theorem onSAssign_is {e : Stmt} {f : List PySem.Expr → PySem.Expr → Pos → Bool} : onSAssign e f = true → ∃ ts v p, e = .Assign ts v p ∧ f ts v p = true := by
  by_cases hc : e.ctorIdx = 5
  · exact Stmt.Assign.elim (motive_2 := fun e => onSAssign e f = true → ∃ ts v p, e = .Assign ts v p ∧ f ts v p = true) e hc fun ts v p h => ⟨ts, v, p, rfl, h⟩
  · intro h; unfold onSAssign at h; rw [dif_neg hc] at h; cases h
noncomputable def onS (t : Stmt ⊕ List Stmt) (f : Stmt → Bool) : Bool := match t with | .inl e => f e | .inr _ => false
noncomputable def onLS (t : Stmt ⊕ List Stmt) (f : List Stmt → Bool) : Bool := match t with | .inl _ => false | .inr l => f l
noncomputable def onAsg (s : Stmt) (f : PySem.Expr → PySem.Expr → Bool) : Bool := onSAssign s fun ts v _ => onOne ts fun tg => f tg v
theorem onAsg_is {s : Stmt} {f : PySem.Expr → PySem.Expr → Bool} (h : onAsg s f = true) : ∃ tg v p, s = .Assign [tg] v p ∧ f tg v = true := by
  obtain ⟨ts, v, p, rfl, h⟩ := onSAssign_is h
  obtain ⟨tg, rfl, h⟩ := onOne_is h
  exact ⟨tg, v, p, rfl, h⟩

noncomputable def mtS : MS → Cx → Stmt ⊕ List Stmt → Bool
  | .skip, _, t => onLS t fun l => l.isEmpty
  | .seq a b, cx, t => onLS t fun l => onCons l fun s r => mtS a cx (.inl s) && mtS b cx (.inr r)
  | .asg i e, cx, t => onS t fun s => onAsg s fun tg v => onName tg fun x p => nameIs cx i (.Name x p) && (noComp v || compSole cx x p v) && mt e cx (.inl v)
  | .asgT is e, cx, t => onS t fun s => onAsg s fun tg v => onTuple tg fun ts _ _ => namesAre cx is ts && noComp v && notTup v && mt e cx (.inl v)
  | .swp is e, cx, t => onS t fun s => onAsg s fun tg v => onTuple tg fun ts _ _ => onTuple v fun vs k p => namesAre cx is ts && (swapNames cx ts vs).isSome && decide (vs.length ≤ 50) && mt e cx (.inl (.Tuple vs k p))
  | .asgA o c n e, cx, t => onS t fun s => onAsg s fun tg v => onAttribute tg fun oe name _ => name == nm n && cx.attrs.contains (c, n) && noComp v && mt o cx (.inl oe) && mt e cx (.inl v)
  | .asgI o i e, cx, t => onS t fun s => onAsg s fun tg v => onSubscript tg fun oe ie _ => noComp v && mt o cx (.inl oe) && mt i cx (.inl ie) && mt e cx (.inl v)
  | .aug i op e, cx, t => onS t fun s => onSAugAssign s fun tg o v _ => onName tg fun x p => nameIs cx i (.Name x p) && bopOf o == some op && mt e cx (.inl v)
  | .augA o c n op e, cx, t => onS t fun s => onSAugAssign s fun tg o' v _ => onAttribute tg fun oe name _ => name == nm n && cx.attrs.contains (c, n) && bopOf o' == some op && mt o cx (.inl oe) && mt e cx (.inl v)
  | .ife t a b, cx, u => onS u fun s => onSIf s fun t' a' b' _ => mt t cx (.inl t') && mtS a cx (.inr a') && mtS b cx (.inr b')
  | .whl t b, cx, u => onS u fun s => onSWhile s fun t' b' e' _ => e'.isEmpty && (mt t cx (.inl t') && mtS b cx (.inr b'))
  | .forr i e b, cx, u => onS u fun s => onSFor s fun tg it b' e' _ => e'.isEmpty && (nameIs cx i tg && noSet it && mt e cx (.inl it) && mtS b cx (.inr b'))
  | .forRange i n b, cx, u => onS u fun s => onSFor s fun tg it b' e' _ => e'.isEmpty && onCallN it fun x as _ => onOne as fun ne => nameIs cx i tg && cx.kind x == some .globalImplicit && x == (Str.ofString "range") && noStar ne && mt n cx (.inl ne) && mtS b cx (.inr b')
  | .ret e, cx, t => onS t fun s => onSReturn s fun v _ => match v with | some v => mt e cx (.inl v) | .none => false
  | .exp e, cx, t => onS t fun s => onSExpr s fun v _ => noComp v && mt e cx (.inl v)
  | .dead, _, _ => true
end Mine
end

section
open PySem PySem.W PyProof.Rows
namespace Mine

noncomputable abbrev WP (B : Base) {α : Type} (A : Around) (t : Sem α) (Q : α → Shared → Prop) (s : Shared) : Prop := wpAny (model B.prog B.w) A t Q (fun _ _ => False) s

variable {B : Base} {A : Around} {C : FC} {σ : St} {ps : Ps} {s : Shared}

theorem line_is : line = sizeLine := by decide
/-- what is done behind a step that owns nothing new -/
noncomputable def Post (B : Base) (C : FC) (σ : St) (ps : Ps) (s : Shared) (K : D → Prop) (Q : Value → Shared → Prop) : Prop :=
  ∀ z s' r, K z → Ok B C σ ps s' → Kept [] ps s.heap ps s'.heap → Rv ps s'.heap z r → Q r s'
theorem Post.tok {K Q} (q : Post B C σ ps s K Q) (O : Ok B C σ ps s) {z r} (k : K z) (t : Nat) (e : Rv ps s.heap z r) : Q r { s with toks := t } := q z _ r k (O.tok t) (.refl ..) e
theorem Post.same {K Q} (q : Post B C σ ps s K Q) (O : Ok B C σ ps s) {z r} (k : K z) (e : Rv ps s.heap z r) : Q r s := q z _ r k O (.refl ..) e
/-- one object is made -/
theorem Post.push {K Q} (q : Post B C σ ps s K Q) (O : Ok B C σ ps s) {z r} (k : K z) (o : Obj) {t : Nat} (e : Rv ps (s.heap.push o) z r) : Q r { s with heap := s.heap.push o, toks := t } :=
  q z _ r k (O.ext (fun _ _ e => Heap.get?_push_of_some o e)) ((ExtL.push _ o).weaken (by simp) |>.kept ps) e

theorem size_none (h : Heap) : h.get? h.objs.size = none := by
  cases e : h.get? h.objs.size with
  | none => rfl
  | some o => exact absurd (Heap.lt_size e) (Nat.lt_irrefl _)
theorem Rep.fresh {st} (R : Rep B ps s.heap st) : ∀ p ∈ ps, p.1 ≠ s.heap.objs.size := fun p hp q => by
  have := (R.live hp).1; rw [q, size_none] at this; cases this
theorem Rvs.push {st ds vs} (R : Rep B ps s.heap st) (o : Obj) (r : Rvs ps s.heap ds vs) : Rvs ps (s.heap.push o) ds vs := r.mono ((ExtL.push _ o).kept ps) R.owns (noSeqs_nil _)
theorem Rv.push {st d v} (R : Rep B ps s.heap st) (o : Obj) (r : Rv ps s.heap d v) : Rv ps (s.heap.push o) d v := r.mono ((ExtL.push _ o).kept ps) R.owns (noSeqs_nil _)

theorem small_div {a b : Int} (h0 : 0 < b) (h : b ≤ 2 ^ 64) : Builtin.divisionGoesByPylong a b = false := by
  unfold Builtin.divisionGoesByPylong
  have hb : b.natAbs.log2 < 65 := (Nat.log2_lt (by omega)).mpr (by omega)
  have hne : (b == 0) = false := by simp; omega
  simp only [hne, Bool.false_eq_true, if_false, Bool.and_eq_false_iff, decide_eq_false_iff_not]
  left; omega

theorem binP_ok {op : BOp} {x y : D} {K : D → Prop} (h : binP op x y K) (O : Ok B C σ ps s) {v u : Value} (rx : Rv ps s.heap x v) (ry : Rv ps s.heap y u) {Q : Value → Shared → Prop} (q : Post B C σ ps s K Q)
    {o : Operator} (ho : bopOf o = some op) : WP B A (binaryOp o v u) Q s := by
  cases o with
  | Add =>
    obtain rfl : BOp.add = op := Option.some.inj ho
    replace h : binAdd x y K := h
    cases rx with
    | int a t =>
      replace h := onI_is h; obtain ⟨b, rfl, h⟩ := h
      cases ry; exact P.add_int (q.tok O h _ (.int _ _))
    | str a t =>
      replace h := onT_is h; obtain ⟨b, rfl, h⟩ := h
      cases ry
      refine PyProof.Rows.add_str (fun t' tk => ?_) (by rw [S_len, S_len, ← line_is]; exact h.1)
      rw [S_app]; exact q.tok O h.2 _ (.str _ _)
    | lst e1 n1 r1 =>
      replace h := onLs_is h; obtain ⟨b, rfl, h⟩ := h
      cases ry with | lst e2 n2 r2 =>
      refine P.add_list e1 e2 ?_ (by rw [← Array.length_toList, ← Array.length_toList, ← r1.length, ← r2.length, ← line_is]; exact h.1)
      refine q.push O h.2 _ (.lst (Heap.get?_push_size _ rfl) O.rep.fresh ?_)
      rw [Array.toList_append]
      exact (r1.app r2).push O.rep _
    | _ => exact h.elim
  | Sub =>
    obtain rfl : BOp.sub = op := Option.some.inj ho
    replace h := onI_is h; obtain ⟨a, rfl, h⟩ := h
    replace h := onI_is h; obtain ⟨b, rfl, h⟩ := h
    cases rx; cases ry
    exact sub_int (q.tok O h _ (.int _ _))
  | Mult =>
    obtain rfl : BOp.mul = op := Option.some.inj ho
    replace h := onI_is h; obtain ⟨a, rfl, h⟩ := h
    replace h := onI_is h; obtain ⟨b, rfl, h⟩ := h
    cases rx; cases ry
    exact mul_int (q.tok O h.2 _ (.int _ _)) (IntMulOk.of_bits (Nat.le_trans (intBits_le h.1.1) (by decide)) (Nat.le_trans (intBits_le h.1.2) (by decide)))
  | FloorDiv =>
    obtain rfl : BOp.fdiv = op := Option.some.inj ho
    replace h := onI_is h; obtain ⟨a, rfl, h⟩ := h
    replace h := onI_is h; obtain ⟨b, rfl, h⟩ := h
    cases rx; cases ry
    exact floordiv_int (by omega) (q.tok O h.2 _ (.int _ _)) (.inl (small_div h.1.1 h.1.2))
  | Mod =>
    obtain rfl : BOp.mod = op := Option.some.inj ho
    replace h := onI_is h; obtain ⟨a, rfl, h⟩ := h
    replace h := onI_is h; obtain ⟨b, rfl, h⟩ := h
    cases rx; cases ry
    exact mod_int' (by omega) (q.tok O h.2 _ (.int _ _))
  | Pow =>
    obtain rfl : BOp.pow = op := Option.some.inj ho
    replace h := onI_is h; obtain ⟨a, rfl, h⟩ := h
    replace h := onI_is h; obtain ⟨b, rfl, h⟩ := h
    cases rx; cases ry
    exact pow_int_small h.1.2.2.1 (by omega) (by omega) (q.tok O h.2 _ (.int _ _))
  | _ => cases ho
end Mine
end

section
open PySem PySem.W PyProof.Rows
namespace Mine
variable {B : Base} {A : Around} {C : FC} {σ : St} {ps : Ps} {s : Shared}

structure Ar (A : Around) : Prop where
  handled : A.handled = none
  guards : A.guards = some []
  units : A.units + 300 < cLine

theorem leq_eq : ∀ a b : List Nat, leq a b = decide (a = b)
  | [], [] => rfl
  | a :: r, b :: q => by
    simp only [leq, leq_eq r q, List.cons.injEq, Bool.decide_and]
    congr 1
    exact Bool.eq_iff_iff.mpr (by simp)
  | [], _ :: _ => by simp [leq]
  | _ :: _, [] => by simp [leq]
theorem hasSign_eq (c : Nat) : ∀ l : List Nat, hasSign c l = decide (c ∈ l)
  | [] => rfl
  | x :: r => by
    rw [hasSign, hasSign_eq c r]
    by_cases h : x = c
    · subst h; simp
    · have : Nat.beq x c = false := by
        cases h' : Nat.beq x c with
        | false => rfl
        | true => exact absurd (Nat.eq_of_beq_eq_true h') h
      rw [this]; simp [Ne.symm h]

theorem Rvs.strs {h : Heap} : ∀ {ds : List D} {vs : List Value} {x : List Nat} {b : Bool}, Rvs ps h ds vs → strIn x ds = some b → ∃ e : Value → Bool, (∀ v ∈ vs, ∀ t, MeetsSeq.EqGives v (.str (S x) t) (e v)) ∧ vs.any e = b ∧ e = (fun v => match v with | .str y _ => y.cps.toList == x | _ => false)
  | _, _, x, b, .nil, e => by cases e; exact ⟨_, by simp, rfl, rfl⟩
  | _, _, x, b, .cons (d := d) (v := v) a r, e => by
    cases d <;> simp only [strIn, reduceCtorEq] at e
    rename_i y
    cases hq : strIn x _ with
    | none => rw [hq] at e; cases e
    | some b' =>
      rw [hq] at e; cases e
      obtain ⟨f, h1, h2, h3⟩ := Rvs.strs r hq
      cases a
      refine ⟨f, fun v hv t => ?_, ?_, h3⟩
      · rcases List.mem_cons.mp hv with rfl | hv
        · rw [h3]; exact SeqRoads2.EqGives.str _ _ _ _
        · exact h1 v hv t
      · rw [List.any_cons, h2, h3, leq_eq]
        simp only [S]
        congr 1
        exact Bool.eq_iff_iff.mpr (by simp)

theorem Rks.at {h : Heap} : ∀ {kvs : List (List Nat × D)} {q : List (Str × Value)} (n : List Nat), Rks ps h kvs q → (∀ d, kget n kvs = some d → ∃ v, valueAt q (S n) = some v ∧ Rv ps h d v) ∧ (kget n kvs = none → valueAt q (S n) = none)
  | _, _, n, .nil => ⟨fun d e => (by cases e), fun _ => rfl⟩
  | _, _, n, .cons (k := k) (d := d) (v := v) a r => by
    have ih := Rks.at n r
    simp only [kget, leq_eq]
    by_cases hk : k = n
    · subst hk
      simp only [decide_true, if_true, valueAt, List.find?_cons]
      exact ⟨fun d' e => (by cases e; exact ⟨v, rfl, a⟩), fun e => (by cases e)⟩
    · have hs : ¬ (S k = S n) := fun e => hk (S_inj e)
      simp only [hk, decide_false, Bool.false_eq_true, if_false, valueAt, List.find?_cons, hs]
      exact ih

theorem Rks.isSome {h : Heap} {kvs : List (List Nat × D)} {q : List (Str × Value)} {n : List Nat} (r : Rks ps h kvs q) : (valueAt q (S n)).isSome = (kget n kvs).isSome := by
  cases e : kget n kvs with
  | none => rw [(Rks.at n r).2 e]; rfl
  | some d => obtain ⟨v, hv, _⟩ := (Rks.at n r).1 d e; rw [hv]; rfl
theorem mapOf_dictOf {h : Heap} {d : Addr} {q : List (Str × Value)} (x : h.DictOf (PySem.strKind B.prog B.w) d q) : h.MapOf (PySem.strKind B.prog B.w) d (valueAt q) := Heap.DictOf.mapOf x
theorem is_str (n : List Nat) (t : Tok) : (PySem.strKind B.prog B.w).is (S n) (.str (S n) t) = true := by
  show Value.isStrOf (S n) (.str (S n) t) = true
  simp [Value.isStrOf]

/-- sys.modules is none of the call's own -/
noncomputable def Mods (B : Base) : Prop := (B.h₀.get? sysModules).isSome = true
theorem Rep.noMods {st} (R : Rep B ps s.heap st) (M : Mods B) {p} (hp : p ∈ ps) : (p.1 == sysModules) = false := by
  simp only [beq_eq_false_iff_ne, ne_eq]
  intro q
  have := (R.new p hp).1
  rw [q] at this
  unfold Mods at M
  rw [this] at M; cases M

theorem cmpP_ok {op : COp} {x y : D} {K : Bool → Prop} (h : cmpP σ.st op x y K) (O : Ok B C σ ps s) (R : Ar A) (M : Mods B) {v u : Value} (rx : Rv ps s.heap x v) (ry : Rv ps s.heap y u) {Q : Value → Shared → Prop}
    (q : ∀ b s', K b → Ok B C σ ps s' → Kept [] ps s.heap ps s'.heap → Q (.bool b) s') {o : CmpOp} (ho : copOf o = op) : WP B A (compareOp o v u) Q s := by
  have qs : ∀ b, K b → Q (.bool b) s := fun b k => q b s k O (.refl ..)
  cases o with
  | Eq =>
    subst ho
    replace h : cmpEq x y K := h
    cases rx with
    | int a t => replace h := onI_is h; obtain ⟨b, rfl, h⟩ := h; cases ry; exact P.eq_int (qs _ h)
    | str a t => replace h := onT_is h; obtain ⟨b, rfl, h⟩ := h; cases ry; exact P.eq_str (by rw [leq_eq] at h; rw [show ∀ a b : List Nat, ((S a).cps.toList == (S b).cps.toList) = decide (a = b) from fun a b => Bool.eq_iff_iff.mpr (by simp [S])]; exact qs _ h)
    | none => replace h := onT_is h; obtain ⟨b, rfl, h⟩ := h; cases ry; exact EqNone.eq_none_str (qs _ h)
    | _ => exact h.elim
  | NotEq =>
    subst ho
    replace h : cmpNe x y K := h
    cases rx with
    | int a t => replace h := onI_is h; obtain ⟨b, rfl, h⟩ := h; cases ry; exact P.ne_int (qs _ h)
    | str a t => replace h := onT_is h; obtain ⟨b, rfl, h⟩ := h; cases ry; exact P.ne_str (by rw [leq_eq] at h; rw [show ∀ a b : List Nat, ((S a).cps.toList != (S b).cps.toList) = !decide (a = b) from fun a b => congrArg not (Bool.eq_iff_iff.mpr (by simp [S]))]; exact qs _ h)
    | scr e1 n1 r1 =>
      replace h := onLs_is h; obtain ⟨l, rfl, h⟩ := h
      replace h := on0_is h; obtain ⟨rfl, h⟩ := h
      cases ry with | lst e2 n2 r2 =>
      rename_i vs1 _ _ vs2 _
      have e2' : s.heap.IsList _ vs2 := ⟨_, e2, rfl, _, rfl⟩
      have hv : vs2.toList = [] := by cases h2 : vs2.toList with | nil => rfl | cons _ _ => rw [h2] at r2; cases r2
      refine ne_intsK (vs := vs1.toList) (us := []) (ms := []) (by simpa using e1) r1 (by rw [← hv]; simpa using e2') .nil (by have := R.units; omega) ?_
      rw [show ∀ xs : List Int, (decide (xs = [])) = xs.isEmpty from fun xs => by cases xs <;> rfl]; exact qs _ h
    | _ => exact h.elim
  | Lt =>
    subst ho
    replace h := onI_is h; obtain ⟨a, rfl, h⟩ := h
    replace h := onI_is h; obtain ⟨b, rfl, h⟩ := h
    cases rx; cases ry; exact P.lt_int (qs _ h)
  | LtE =>
    subst ho
    replace h := onI_is h; obtain ⟨a, rfl, h⟩ := h
    replace h := onI_is h; obtain ⟨b, rfl, h⟩ := h
    cases rx; cases ry; exact P.le_int (qs _ h)
  | Gt =>
    subst ho
    replace h := onI_is h; obtain ⟨a, rfl, h⟩ := h
    replace h := onI_is h; obtain ⟨b, rfl, h⟩ := h
    cases rx; cases ry; exact P.gt_int (qs _ h)
  | GtE =>
    subst ho
    replace h := onI_is h; obtain ⟨a, rfl, h⟩ := h
    replace h := onI_is h; obtain ⟨b, rfl, h⟩ := h
    cases rx; cases ry; exact P.ge_int (qs _ h)
  | Is =>
    subst ho
    replace h : cmpIs true false x y K := h
    replace h := onN_is h; obtain ⟨rfl, h⟩ := h
    cases ry
    cases rx with
    | none => exact is_none (qs _ h)
    | int a t => exact is_none (qs _ h)
    | str a t => exact is_none (qs _ h)
    | _ => exact h.elim
  | IsNot =>
    subst ho
    replace h : cmpIs false true x y K := h
    replace h := onN_is h; obtain ⟨rfl, h⟩ := h
    cases ry
    cases rx with
    | none => exact isNot_none (qs _ h)
    | int a t => exact isNot_none (qs _ h)
    | str a t => exact isNot_none (qs _ h)
    | _ => exact h.elim
  | In =>
    subst ho
    replace h : cmpIn σ.st x y K := h
    replace h := onT_is h; obtain ⟨a, rfl, h⟩ := h
    cases rx
    cases ry with
    | str b t =>
      replace h := on1_is h; obtain ⟨c, rfl, h⟩ := h
      refine P.in_str ?_
      rw [show (S [_] : Str) = ⟨#[_]⟩ from rfl, StrLaws.found_one]
      simp only [S]; rw [hasSign_eq] at h; exact qs _ h
    | tup e2 r2 =>
      replace h := onSome_is h; obtain ⟨bb, hb, h⟩ := h
      obtain ⟨e, h1, h2, _⟩ := r2.strs hb
      refine SeqRoads2.in_tuple e (fun y hy => h1 y (by simpa using hy) _) e2 ?_
      rw [← Array.any_toList, h2]; exact qs _ h
    | lst e2 n2 r2 =>
      replace h := onSome_is h; obtain ⟨bb, hb, h⟩ := h
      obtain ⟨e, h1, h2, _⟩ := r2.strs hb
      refine SeqRoads2.in_list e (fun y hy => h1 y (by simpa using hy) _) e2 ?_
      rw [← Array.any_toList, h2]; exact qs _ h
    | obj hp =>
      obtain ⟨kvs, hk, h⟩ := h
      obtain ⟨p, hp', r⟩ := O.rep.at' hk
      rw [hp] at hp'; cases hp'
      obtain ⟨_, q', hd, hr⟩ := r
      refine wpAny_in_of (is_str _ _) (O.rep.noMods M (List.mem_of_getElem? hp)) (mapOf_dictOf hd) ?_
      rw [hr.isSome]; exact q _ _ h (O.tok _) (.refl ..)
    | _ => exact h.elim
  | NotIn =>
    subst ho
    replace h : cmpNi σ.st x y K := h
    replace h := onT_is h; obtain ⟨a, rfl, h⟩ := h
    cases rx
    cases ry with
    | str b t =>
      replace h := on1_is h; obtain ⟨c, rfl, h⟩ := h
      refine P.notIn_str ?_
      rw [show (S [_] : Str) = ⟨#[_]⟩ from rfl, StrLaws.found_one]
      simp only [S]; rw [hasSign_eq] at h; exact qs _ h
    | tup e2 r2 =>
      replace h := onSome_is h; obtain ⟨bb, hb, h⟩ := h
      obtain ⟨e, h1, h2, _⟩ := r2.strs hb
      refine SeqRoads2.notIn_tuple e (fun y hy => h1 y (by simpa using hy) _) e2 ?_
      rw [← Array.any_toList, h2]; exact qs _ h
    | obj hp =>
      obtain ⟨kvs, hk, h⟩ := h
      obtain ⟨p, hp', r⟩ := O.rep.at' hk
      rw [hp] at hp'; cases hp'
      obtain ⟨_, q', hd, hr⟩ := r
      refine wpAny_notIn_of (is_str _ _) (O.rep.noMods M (List.mem_of_getElem? hp)) (mapOf_dictOf hd) ?_
      rw [hr.isSome]; exact q _ _ h (O.tok _) (.refl ..)
    | _ => exact h.elim
end Mine
end

section
open PySem PySem.W PyProof.Rows
namespace Mine
variable {B : Base} {A : Around} {C : FC} {σ : St} {ps : Ps} {s : Shared}

theorem nth_eq {α : Type} : ∀ (l : List α) (n : Nat), nth l n = l[n]?
  | [], _ => rfl
  | _ :: _, 0 => rfl
  | _ :: r, n + 1 => by simpa [nth] using nth_eq r n

theorem sub_plain {sl : PySem.Expr} (h : noSlice sl = true) (o i : Value) : subscripted sl false o i = operate [o, i] (getItem o i) := by
  unfold subscripted
  cases sl <;> first | rfl | cases h
theorem seqIndex_nat {n len : Nat} (h : n < len) : seqIndex? (Int.ofNat n) len = some n := by
  unfold seqIndex?
  have h1 : ¬ ((Int.ofNat n) < 0) := by simp
  simp only [if_neg h1]
  rw [if_pos (by simp; omega)]
  simp

theorem Rvs.nth {h : Heap} {ds : List D} {vs : Array Value} {n : Nat} {c : D} (r : Rvs ps h ds vs.toList) (hc : Mine.nth ds n = some c) : ∃ v, vs[n]? = some v ∧ Rv ps h c v ∧ n < vs.size := by
  rw [nth_eq] at hc
  obtain ⟨v, hv, rv⟩ := r.get hc
  refine ⟨v, by rw [← Array.getElem?_toList]; exact hv, rv, ?_⟩
  have := (List.getElem?_eq_some_iff.mp hv).1
  simpa using this

theorem idxP_ok {x y : D} {K : D → Prop} (h : idxP σ.st x y K) (O : Ok B C σ ps s) {v u : Value} (rx : Rv ps s.heap x v) (ry : Rv ps s.heap y u) {Q : Value → Shared → Prop}
    (q : Post B C σ ps s K Q) {a sl : PySem.Expr} (hs : noSlice sl = true) : WP B A (subscriptTail a sl v u) Q s := by
  cases rx with
  | str l t =>
    replace h := onI_is h; obtain ⟨k, rfl, h⟩ := h
    cases k with
    | negSucc n => exact h.elim
    | ofNat n =>
    replace h := onSome_is h; obtain ⟨c, hc, h⟩ := h
    replace hc : nth l n = some c := hc
    cases ry
    rw [nth_eq] at hc
    have hlt := (List.getElem?_eq_some_iff.mp hc).1
    have hl : l.length ≤ 16777216 := h.1
    refine tail_any (typeIs_str _ _ _) F.slot_str_getitem.lookup (PyProof.Rows.getItem_str (c := c) ?_ ?_ (q.tok O h.2 _ (.str [c] _))) (sub_plain hs _ _)
    · simp <;> omega
    · rw [S_len, seqIndex_nat hlt]; simp [S, hc]
  | @tup a vs n0 l e r =>
    replace h := onI_is h; obtain ⟨k, rfl, h⟩ := h
    cases k with
    | negSucc n => exact h.elim
    | ofNat n =>
    replace h := onSome_is h; obtain ⟨c, hc, h⟩ := h
    cases ry
    obtain ⟨w, hw, rw', hlt⟩ := r.nth hc
    have hl := r.length
    refine tail_any (T := "tuple") ⟨_, e, rfl⟩ F.slot_tuple_getitem.lookup (PyProof.Rows.getItem_tuple (j := n) ⟨_, e, rfl, _, rfl⟩ ?_ ?_ (seqIndex_nat hlt) hw (q.same O h.2 rw')) (sub_plain hs _ _)
    · simp <;> omega
    · simp at hl ⊢ <;> omega
  | @lst a vs n0 l e ne r =>
    replace h := onI_is h; obtain ⟨k, rfl, h⟩ := h
    cases k with
    | negSucc n => exact h.elim
    | ofNat n =>
    replace h := onSome_is h; obtain ⟨c, hc, h⟩ := h
    cases ry
    obtain ⟨w, hw, rw', hlt⟩ := r.nth hc
    have hl := r.length
    refine tail_any (T := "list") ⟨_, e, rfl⟩ F.slot_list_getitem.lookup (wpAny_getItem_list (x := w) ⟨_, e, rfl, _, rfl⟩ ?_ ?_ hw (q.same O h.2 rw')) (sub_plain hs _ _)
    · simp
    · simp at hl ⊢ <;> omega
  | @scr a vs l e ne r =>
    replace h := onI_is h; obtain ⟨k, rfl, h⟩ := h
    cases k with
    | negSucc n => exact h.elim
    | ofNat n =>
    cases ry
    have hl := r.length
    have hlt : n < vs.toList.length := by omega
    have hv : vs[n]? = some vs.toList[n] := by rw [← Array.getElem?_toList]; exact List.getElem?_eq_getElem hlt
    obtain ⟨t, ht⟩ := r.int_at n _ (List.getElem?_eq_getElem hlt)
    rw [ht] at hv
    refine tail_any (T := "list") e.typeIs F.slot_list_getitem.lookup (wpAny_getItem_list (x := _) e ?_ ?_ hv (q.same O h.2 (.int _ _))) (sub_plain hs _ _)
    · simp
    · simp <;> omega
  | obj hp =>
    replace h : idxO σ.st _ y K := h
    cases ry with
    | int k t =>
      obtain ⟨xs, hx, h⟩ := h
      cases k with
      | negSucc n => exact h.elim
      | ofNat n =>
      obtain ⟨hl, h⟩ := h
      replace h := onSome_is h; obtain ⟨c, hc, h⟩ := h
      obtain ⟨p, hp', r⟩ := O.rep.at' hx
      rw [hp] at hp'; cases hp'
      obtain ⟨_, vs, n', e, r⟩ := r
      obtain ⟨w, hw, rw', hlt⟩ := r.nth hc
      have hl' := r.length
      have hl : xs.length ≤ 16777216 := hl
      refine tail_any (T := "list") ⟨_, e, rfl⟩ F.slot_list_getitem.lookup (wpAny_getItem_list (x := w) ⟨_, e, rfl, _, rfl⟩ ?_ ?_ hw (q.same O h rw')) (sub_plain hs _ _)
      · simp
      · simp at hl' ⊢; omega
    | str n t =>
      obtain ⟨kvs, hx, h⟩ := h
      replace h := onSome_is h; obtain ⟨c, hc, h⟩ := h
      obtain ⟨p, hp', r⟩ := O.rep.at' hx
      rw [hp] at hp'; cases hp'
      obtain ⟨_, q', hd, hr⟩ := r
      obtain ⟨w, hw, rw'⟩ := (Rks.at n hr).1 c hc
      exact tail_any (T := "dict") hd.typeIs F.slot_dict_getitem.lookup (wpAny_getItem_of (is_str _ _) (mapOf_dictOf hd) hw (q.tok O h _ rw')) (sub_plain hs _ _)
    | _ => exact h.elim
  | _ => exact h.elim

theorem slice_cut (a : List Nat) (l u : Option Int) : Txt.slice (S a) l u = S (cut a l u) := by
  have e : (Builtin.Str.strSliceIndices l u 1 (S a).length).filterMap ((S a).cps[·]?) = cut a l u := by
    have h1 : Builtin.Str.strSliceIndices l u 1 (S a).length = sliceRange (sliceBounds l u none (S a).length).1 (sliceBounds l u none (S a).length).2.1 1 := by
      cases l <;> cases u <;> rfl
    rw [h1, sliceBounds_plain, sliceRange_one, pick_run, S_len]
    simp [S, cut]
  unfold Txt.slice
  rw [e]
  split
  · rename_i hlen
    have h2 : ((Builtin.Str.strSliceIndices l u 1 (S a).length).filterMap ((S a).cps[·]?)).length = (cut a l u).length := by rw [e]
    have h3 : (Builtin.Str.strSliceIndices l u 1 (S a).length).length = (cut a l u).length := by
      rw [← e]
      have h1 : Builtin.Str.strSliceIndices l u 1 (S a).length = sliceRange (sliceBounds l u none (S a).length).1 (sliceBounds l u none (S a).length).2.1 1 := by
        cases l <;> cases u <;> rfl
      rw [h1, sliceBounds_plain, sliceRange_one, pick_run, S_len]
      simp only [List.length_map, List.length_range, List.length_take, List.length_drop]
      have hb : (u.elim a.length (clipAt a.length)) ≤ a.length := by
        cases u with
        | none => exact Nat.le_refl _
        | some j => have := clipAt_cast a.length j; simp only [Option.elim]; omega
      have : (S a).cps.toList.length = a.length := by simp [S]
      omega
    simp only [beq_self_eq_true, Bool.true_and, beq_iff_eq] at hlen
    rw [h3, S_len] at hlen
    congr 1
    unfold cut at hlen ⊢
    simp only [List.length_take, List.length_drop] at hlen
    rcases Nat.eq_zero_or_pos a.length with h0 | h0
    · have : a = [] := List.length_eq_zero_iff.mp h0
      subst this; simp
    · have h5 : l.elim 0 (clipAt a.length) = 0 := by omega
      rw [h5] at hlen ⊢
      rw [List.drop_zero, List.take_of_length_le (by omega)]
  · rfl
/-- two objects are made, the first is the slice -/
theorem Post.push2 {K : D → Prop} {Q : Value → Shared → Prop} (q : Post B C σ ps s K Q) (O : Ok B C σ ps s) {z r} (k : K z) (o o' : Obj) {t : Nat} (e : Rv ps ((s.heap.push o).push o') z r) : Q r { s with heap := (s.heap.push o).push o', toks := t } :=
  q z _ r k (O.ext (fun _ _ e => Heap.get?_push_of_some _ (Heap.get?_push_of_some _ e))) (((ExtL.push _ o).trans (ExtL.push _ o')).weaken (by simp) |>.kept ps) e

theorem part_is {d : D} {l : Option Int} {v : Value} {h : Heap} (e : part d = some l) (r : Rv ps h d v) : IsPart v l := by
  cases d <;> simp [part] at e
  · subst e; cases r; exact .none
  · subst e; cases r; exact .int _ _

theorem slcP_ok {x l u : D} {K : D → Prop} (h : slcP x l u K) (O : Ok B C σ ps s) {v lv uv : Value} (rx : Rv ps s.heap x v) (rl : Rv ps s.heap l lv) (ru : Rv ps s.heap u uv) {Q : Value → Shared → Prop}
    (q : Post B C σ ps s K Q) {a : PySem.Expr} {le ue : Option PySem.Expr} {p : Pos} :
    WP B A (subscriptTail a (.Slice le ue none p) v (.ref s.heap.objs.size)) Q { s with heap := s.heap.push { cls := .type "slice", data := .fields #[lv, uv, .none] } } := by
  have hsub : ∀ o i : Value, subscripted (.Slice le ue none p) false o i = operate [i, o] (getItem o i) := fun o i => rfl
  cases rx with
  | str al t =>
    replace h := onSome_is h; obtain ⟨l', hl, h⟩ := h
    replace h := onSome_is h; obtain ⟨u', hu, h⟩ := h
    obtain ⟨⟨_, _, hlen⟩, h⟩ := h
    have pl := part_is hl rl
    have pu := part_is hu ru
    have hsz : (S al).length ≤ sizeLine := by rw [S_len, ← line_is]; exact hlen
    have kp : KeptH (fun h' => ∀ b o, s.heap.get? b = some o → h'.get? b = some o) := fun h' ob k b o e => Heap.get?_push_of_some _ (k b o e)
    have fin : ∀ h' t' k, (∀ b o, s.heap.get? b = some o → h'.get? b = some o) → Q (.str (Txt.slice (S al) l' u') t') { s with heap := h', toks := k } := fun h' t' k kk => by
      rw [slice_cut]
      exact q _ _ _ h (O.ext kk) ((ExtL.nil kk).weaken (by simp) |>.kept ps) (.str _ _)
    cases pl <;> cases pu
    · obtain ⟨T, id, a1, a2, a3⟩ := SBH.sliceItem_nn (prog := B.prog) (w := B.w) (A := A) (E := fun _ _ => False) (t := t) kp (fun _ _ e => e) fin hsz
      exact tail_any a2 a1 a3 (hsub _ _)
    · obtain ⟨T, id, a1, a2, a3⟩ := SBH.sliceItem_ns (prog := B.prog) (w := B.w) (A := A) (E := fun _ _ => False) (t := t) kp (fun _ _ e => e) fin hsz
      exact tail_any a2 a1 a3 (hsub _ _)
    · obtain ⟨T, id, a1, a2, a3⟩ := SBH.sliceItem_sn (prog := B.prog) (w := B.w) (A := A) (E := fun _ _ => False) (t := t) kp (fun _ _ e => e) fin hsz
      exact tail_any a2 a1 a3 (hsub _ _)
    · obtain ⟨T, id, a1, a2, a3⟩ := SBH.sliceItem_ss (prog := B.prog) (w := B.w) (A := A) (E := fun _ _ => False) (t := t) kp (fun _ _ e => e) fin hsz
      exact tail_any a2 a1 a3 (hsub _ _)
  | @lst a0 vs n ds e ne r =>
    replace h := onN_is h; obtain ⟨rfl, h⟩ := h
    replace h := onI_is h; obtain ⟨k, rfl, h⟩ := h
    obtain ⟨⟨h0, h1, hlen⟩, h⟩ := h
    have hlen : ds.length ≤ 16777216 := hlen
    cases rl; cases ru with | int _ tk =>
    have e1 : (s.heap.push { cls := .type "slice", data := .fields #[.none, .int k tk, .none] }).IsList _ vs := ⟨_, Heap.get?_push_of_some _ e, rfl, _, rfl⟩
    refine tail_any (T := "list") e1.typeIs F.slot_list_getitem.lookup (wpAny_getItem_list_slice (lo := none) (hi := some k) (st := none) e1 (Heap.IsSliceOf.new ..) .none (.int _ _) .none (by simp) ?_ (by have := r.length; simp only [Array.length_toList] at this; rw [← line_is]; show vs.size ≤ line; omega)) (hsub _ _)
    have ek : (some k : Option Int) = some ((k.toNat : Nat) : Int) := by congr 1; omega
    rw [ek, slicePick_upto']
    refine q.push2 O h _ _ (.lst (Heap.get?_push_size _ rfl) (fun p hp e => ?_) ?_)
    · have := (O.rep.live hp).1
      rw [e, Heap.size_push] at this
      cases e2 : s.heap.get? (s.heap.objs.size + 1) with
      | none => rw [e2] at this; cases this
      | some o => exact absurd (Heap.lt_size e2) (Nat.not_lt.mpr (Nat.le_succ _))
    · exact ((r.take k.toNat).push O.rep _).mono ((ExtL.push _ _).kept ps) (O.rep.ext (.push _ _) (noSeqs_nil _) (by simp)).owns (noSeqs_nil _)
  | @tup a0 vs n ds e r =>
    replace h := onI_is h; obtain ⟨k, rfl, h⟩ := h
    replace h := onN_is h; obtain ⟨rfl, h⟩ := h
    obtain ⟨⟨h0, h1, hlen⟩, h⟩ := h
    cases ru; cases rl with | int _ t =>
    have hl := r.length
    simp only [Array.length_toList] at hl
    have ek : k = ((k.toNat : Nat) : Int) := by omega
    have e1 : IsTup (s.heap.push { cls := .type "slice", data := .fields #[.int k t, .none, .none] }) _ vs := ⟨_, Heap.get?_push_of_some _ e, rfl, _, rfl⟩
    have e2 := Heap.IsSliceOf.new s.heap (.int k t) .none .none
    rw [ek] at e2
    refine tail_any (T := "tuple") ⟨_, Heap.get?_push_of_some _ e, rfl⟩ F.slot_tuple_getitem.lookup (getItem_tuple_from (a := k.toNat) (u := t) e1 (by rw [← ek] at e2 ⊢; exact e2) (by omega) (by omega) ?_ (by rw [sizeLine_eq]; omega)) (hsub _ _)
    refine q.push2 O h _ _ (.tup (Heap.get?_push_size _ rfl) ?_)
    exact ((r.drop k.toNat).push O.rep _).mono ((ExtL.push _ _).kept ps) (O.rep.ext (.push _ _) (noSeqs_nil _) (by simp)).owns (noSeqs_nil _)
  | _ => exact h.elim
end Mine
end

section
open PySem PySem.W PyProof.Rows
namespace Mine
variable {B : Base} {A : Around} {C : FC} {σ : St} {ps : Ps} {s : Shared}

theorem Kept.owned {p : Addr × Addr} {h h' : Heap} (hp : p ∈ ps) (x : ExtL [p.1, p.2] h h') (L : List Addr) : Kept L ps h ps h' :=
  ⟨x.1, ⟨[], by simp, by simp⟩, fun b o e _ ap => x.2 b o e fun m => by
    have := ap p hp
    simp at m; rcases m with m | m
    · exact this.1 m
    · exact this.2 m⟩
/-- an owned object is turned -/
theorem Ok.setObj {i : Nat} {p : Addr × Addr} {o : O} {h' : Heap} {t : Nat} (K : Ok B C σ ps s) (hp : ps[i]? = some p) (x : ExtL [p.1, p.2] s.heap h') (r : Ro B.prog B.w ps h' p o) :
    Ok B C ⟨σ.loc, σ.st.set i o⟩ ps { s with heap := h', toks := t } ∧ Kept [] ps s.heap ps h' := by
  have hm := List.mem_of_getElem? hp
  refine ⟨⟨K.rep.set hp x (K.rep.owns p hm) r, K.frm.keep (Kept.owned hm x []) K.rep.owns (noSeqs_nil _) (by simp), K.gens, K.os⟩, Kept.owned hm x _⟩

theorem upd_list {h : Heap} {l : Addr} {vs : Array Value} {n : Nat} (e : h.get? l = some { cls := .type "list", data := .seq vs n }) (f : Array Value → Array Value) :
    ∃ n', (h.update l (Obj.mapSeq f)).get? l = some { cls := .type "list", data := .seq (f vs) n' } := ⟨_, Heap.get?_update_self _ e rfl⟩
theorem ext_upd {h : Heap} {l : Addr} {o : Obj} (e : h.get? l = some o) (f : Obj → Obj) (hf : (f o).isFreed = false) {p : Addr × Addr} (hp : l = p.1 ∨ l = p.2) : ExtL [p.1, p.2] h (h.update l f) :=
  (ExtL.same (Heap.SameBut.update h l f) fun o' _ => by rw [Heap.get?_update_self f e hf]; rfl).weaken (by simp; exact hp)

/-- an owned list is turned -/
theorem Ok.setList {i : Nat} {p : Addr × Addr} {vs : Array Value} {n : Nat} {xs : List D} {f : Array Value → Array Value} {t : Nat} (K : Ok B C σ ps s) (hp : ps[i]? = some p) (h2 : p.2 = p.1)
    (e : s.heap.get? p.1 = some { cls := .type "list", data := .seq vs n }) (r : Rvs ps s.heap xs (f vs).toList) :
    Ok B C ⟨σ.loc, σ.st.set i (.lst xs)⟩ ps { s with heap := s.heap.update p.1 (Obj.mapSeq f), toks := t } ∧ Kept [] ps s.heap ps (s.heap.update p.1 (Obj.mapSeq f)) := by
  have x : ExtL [p.1, p.2] s.heap (s.heap.update p.1 (Obj.mapSeq f)) := ext_upd e _ rfl (.inl rfl)
  obtain ⟨n', e'⟩ := upd_list e f
  exact K.setObj hp x ⟨h2, f vs, n', e', r.mono (Kept.owned (List.mem_of_getElem? hp) x []) K.rep.owns (noSeqs_nil _)⟩

/-- what is done behind a step that may turn the store -/
noncomputable def PostS (B : Base) (C : FC) (σ : St) (ps : Ps) (s : Shared) (K : D → List O → Prop) (Q : Value → Shared → Prop) : Prop :=
  ∀ z st' s' r, K z st' → Ok B C ⟨σ.loc, st'⟩ ps s' → Kept [] ps s.heap ps s'.heap → Rv ps s'.heap z r → Q r s'
theorem PostS.tok {K : D → List O → Prop} {Q} (q : PostS B C σ ps s K Q) (O : Ok B C σ ps s) {z r} (k : K z σ.st) (t : Nat) (e : Rv ps s.heap z r) : Q r { s with toks := t } := q z _ _ r k (O.tok t) (.refl ..) e

/-! ## reading of data, for repr -/
mutual
theorem reads_of {h : Heap} : ∀ {d : D} {v : Value}, Rv ps h d v → flat d = true → ∃ as, Reads h v (toPy d) as
  | _, _, .none, _ => ⟨_, .none⟩
  | _, _, .bool b, _ => ⟨_, .bool b⟩
  | _, _, .int i t, _ => ⟨_, .int i t⟩
  | _, _, .str l t, _ => ⟨_, .str _ t⟩
  | _, _, .tup e r, f => let ⟨as, x⟩ := readsAll_of r (by simpa [flat] using f); ⟨_, .tuple e rfl rfl x⟩
  | _, _, .lst e _ r, f => let ⟨as, x⟩ := readsAll_of r (by simpa [flat] using f); ⟨_, .list e rfl rfl x⟩
  | _, _, .scr e _ r, f => by simp [flat] at f
  | _, _, .obj _, f => by simp [flat] at f
  | _, _, .sta _, f => by simp [flat] at f
theorem readsAll_of {h : Heap} : ∀ {ds : List D} {vs : List Value}, Rvs ps h ds vs → flats ds = true → ∃ as, ReadsAll h vs (toPys ds) as
  | _, _, .nil, _ => ⟨_, .nil⟩
  | _, _, .cons a b, f => by
    simp only [flats, Bool.and_eq_true] at f
    obtain ⟨as, x⟩ := reads_of a f.1
    obtain ⟨bs, y⟩ := readsAll_of b f.2
    exact ⟨_, .cons x y⟩
end

theorem log2_lt200 {n : Nat} (h : n < 2 ^ 200) : n.log2 < 1920 := by
  rcases Nat.eq_zero_or_pos n with rfl | h0
  · decide
  · exact (Nat.log2_lt (by omega)).mpr (Nat.lt_of_lt_of_le h (Nat.pow_le_pow_right (by decide) (by decide)))
theorem biP_ok {b : BI} {x : D} {K : D → Prop} (h : biP σ.st b x K) (O : Ok B C σ ps s) (R : Ar A) {v : Value} (rx : Rv ps s.heap x v) {Q : Value → Shared → Prop} (q : Post B C σ ps s K Q) :
    WP B A (call (match b with | .len => .builtin "len" | .str => .type "str" | .repr => .builtin "repr") [v]) Q s := by
  have hl16 : ∀ {n : Nat}, n ≤ line → n ≤ 16777216 := fun h => h
  cases b with
  | len =>
    replace h : biLen σ.st x K := h
    cases rx with
    | str l t =>
      refine PyProof.Rows.len_str (by rw [S_len]; have := hl16 h.1; omega) ?_
      rw [S_len]; exact q.tok O h.2 _ (.int _ _)
    | lst e ne r =>
      have hl := r.length
      simp only [Array.length_toList] at hl
      refine Calls.call_len_list ⟨_, e, rfl, _, rfl⟩ (by have := hl16 h.1; omega) ?_
      rw [← hl]; exact q.tok O h.2 _ (.int _ _)
    | scr e ne r =>
      have hl := r.length
      simp only [Array.length_toList] at hl
      refine Calls.call_len_list e (by have := hl16 h.1; omega) ?_
      rw [hl]; exact q.tok O h.2 _ (.int _ _)
    | obj hp =>
      obtain ⟨xs, hx, hle, h⟩ := h
      obtain ⟨p, hp', r⟩ := O.rep.at' hx
      rw [hp] at hp'; cases hp'
      obtain ⟨_, vs, n', e, r⟩ := r
      have hl := r.length
      simp only [Array.length_toList] at hl
      refine Calls.call_len_list ⟨_, e, rfl, _, rfl⟩ (by have := hl16 hle; omega) ?_
      rw [← hl]; exact q.tok O h _ (.int _ _)
    | _ => exact h.elim
  | str =>
    replace h := onI_is h; obtain ⟨i, rfl, h⟩ := h
    cases rx with | int i t =>
    refine P.str_of_int (log2_lt200 h.1) ?_
    have := q.tok O h.2 (s.toks + 1) (.str (intText _) s.toks)
    rwa [intText, S_cps] at this
  | repr =>
    replace h := onO_is h; obtain ⟨i, rfl, h⟩ := h
    obtain ⟨xs, hx, ⟨hf, hsh, hnd, hdep, hlen⟩, h⟩ := h
    cases rx with | obj hp =>
    obtain ⟨p, hp', r⟩ := O.rep.at' hx
    rw [hp] at hp'; cases hp'
    obtain ⟨_, vs, n', e, r⟩ := r
    obtain ⟨as, ra⟩ := readsAll_of r hf
    refine repr_of_reads' (h₀ := s.heap) (Reads.list e rfl rfl ra) hsh (fun hd => absurd (hd.symm.trans hnd) (by decide)) R.guards (by have := R.units; have : (PyData.list (toPys xs)).depth ≤ 100 := hdep; omega) (fun _ _ e => e) ?_ (by rw [← line_is]; exact hlen)
    intro h' u tk kk
    have := q _ { s with heap := h', toks := tk } _ h (O.ext kk) ((ExtL.nil kk).weaken (by simp) |>.kept ps) (.str _ u)
    rwa [S_cps] at this
end Mine
end

section
open PySem PySem.W PyProof.Rows
namespace Mine
variable {B : Base} {A : Around} {C : FC} {σ : St} {ps : Ps} {s : Shared}

noncomputable def smId : SM → String
  | .lower => "str.lower" | .upper => "str.upper" | .find => "str.find" | .join => "str.join" | .index => "list.index"
  | .get => "dict.get" | .append => "list.append" | .reverse => "list.reverse" | .update => "dict.update"

set_option maxRecDepth 100000 in
theorem smK_ok {m : SM} {x : D} (h : smK σ.st m x) (K : Ok B C σ ps s) {v : Value} (rx : Rv ps s.heap x v) {pl : Sem Bool} {Q : Value × List Value → Shared → Prop} (q : Q (.builtin (smId m), [v]) s) :
    WP B A (getMethod v (smName m) pl) Q s := by
  have lst : ∀ {i : Nat} {p : Addr × Addr} {xs : List D}, ps[i]? = some p → σ.st[i]? = some (O.lst xs) → ∃ vs n, s.heap.get? p.1 = some { cls := .type "list", data := .seq vs n } := fun {i p xs} hp hx => by
    obtain ⟨p', hp', r⟩ := K.rep.at' hx
    rw [hp] at hp'; cases hp'
    obtain ⟨_, vs, n', e, _⟩ := r
    exact ⟨vs, n', e⟩
  have dct : ∀ {i : Nat} {p : Addr × Addr} {xs : List (List Nat × D)}, ps[i]? = some p → σ.st[i]? = some (O.dct xs) → ∃ o, s.heap.get? p.1 = some o ∧ o.cls = .type "dict" ∧ o.dict = none := fun {i p xs} hp hx => by
    obtain ⟨p', hp', r⟩ := K.rep.at' hx
    rw [hp] at hp'; cases hp'
    obtain ⟨_, q, ⟨o, es, ep, e, hd, _⟩, _⟩ := r
    exact ⟨o, e, hd.1, hd.2.1⟩
  cases m with
  | append =>
    replace h := onO_is h; obtain ⟨i, rfl, h⟩ := h
    obtain ⟨xs, hx⟩ := h
    cases rx with | obj hp =>
    obtain ⟨vs, n, e⟩ := lst hp hx
    exact getMethod_builtin (T := "list") ⟨_, e, rfl⟩ F.plainAttrs_list F.slot_list_append F.type_list_append (fun a ha => by cases ha; exact ⟨_, e, rfl⟩) q
  | reverse =>
    replace h := onO_is h; obtain ⟨i, rfl, h⟩ := h
    obtain ⟨xs, hx⟩ := h
    cases rx with | obj hp =>
    obtain ⟨vs, n, e⟩ := lst hp hx
    exact getMethod_builtin (T := "list") ⟨_, e, rfl⟩ F.plainAttrs_list F.slot_list_reverse F.type_list_reverse (fun a ha => by cases ha; exact ⟨_, e, rfl⟩) q
  | get =>
    replace h := onO_is h; obtain ⟨i, rfl, h⟩ := h
    obtain ⟨xs, hx⟩ := h
    cases rx with | obj hp =>
    obtain ⟨o, e, hc, hd⟩ := dct hp hx
    exact getMethod_builtin (T := "dict") ⟨_, e, hc⟩ F.plainAttrs_dict F.slot_dict_get F.type_dict_get (fun a ha => by cases ha; exact ⟨_, e, hd⟩) q
  | update =>
    replace h := onO_is h; obtain ⟨i, rfl, h⟩ := h
    obtain ⟨xs, hx⟩ := h
    cases rx with | obj hp =>
    obtain ⟨o, e, hc, hd⟩ := dct hp hx
    exact getMethod_builtin (T := "dict") ⟨_, e, hc⟩ F.plainAttrs_dict F.slot_dict_update F.type_dict_update (fun a ha => by cases ha; exact ⟨_, e, hd⟩) q
  | lower =>
    replace h := onT_is h; obtain ⟨i, rfl, h⟩ := h
    cases rx; exact GM.lower q
  | upper =>
    replace h := onT_is h; obtain ⟨i, rfl, h⟩ := h
    cases rx; exact GM.upper q
  | find =>
    replace h := onT_is h; obtain ⟨i, rfl, h⟩ := h
    cases rx; exact GM.find q
  | join =>
    replace h := onT_is h; obtain ⟨i, rfl, h⟩ := h
    cases rx; exact GM.join q
  | index =>
    replace h := onLs_is h; obtain ⟨i, rfl, h⟩ := h
    cases rx with | lst e ne r =>
    exact getMethod_builtin (T := "list") ⟨_, e, rfl⟩ F.plainAttrs_list F.slot_list_index F.type_list_index (fun a ha => by cases ha; exact ⟨_, e, rfl⟩) q

theorem low_eq {l : List Nat} (h : ascii l) : Txt.lower (S l) = S (l.map lowerSign) := by
  rw [lower_ascii (by simpa [S, ascii] using h)]
  simp [S]; intro a _; rfl
theorem upp_eq {l : List Nat} (h : ascii l) : Txt.upper (S l) = S (l.map upperSign) := by
  rw [upper_ascii (by simpa [S, ascii] using h)]
  simp [S]; intro a _; rfl

theorem findSign_spec (c : Nat) : ∀ l : List Nat, (findSign c l = -1 ∧ ∀ i : Nat, l[i]? ≠ some c) ∨ ∃ i : Nat, findSign c l = i ∧ l[i]? = some c ∧ ∀ k : Nat, k < i → l[k]? ≠ some c
  | [] => .inl ⟨rfl, fun i => by simp⟩
  | x :: r => by
    by_cases hx : x = c
    · subst hx
      exact .inr ⟨0, by simp [findSign], by simp, by simp⟩
    · rcases findSign_spec c r with ⟨e, n⟩ | ⟨i, e, a, b⟩
      · refine .inl ⟨by simp [findSign, hx, e], fun i => ?_⟩
        cases i with
        | zero => simpa using hx
        | succ i => simpa using n i
      · refine .inr ⟨i + 1, by simp only [findSign, hx, if_false, e]; rw [if_neg (by omega)]; push_cast; rfl, by simpa using a, fun k hk => ?_⟩
        cases k with
        | zero => simpa using hx
        | succ k => simpa using b k (by omega)
theorem at_one (l : List Nat) (c i : Nat) : StrLaws.At (S l) ⟨#[c]⟩ (S l).length i ↔ l[i]? = some c := StrLaws.subAt_one (S l) c i
theorem find_eq (l : List Nat) (c : Nat) : Txt.find (S l) (S [c]) = findSign c l := by
  show Txt.find (S l) ⟨#[c]⟩ = _
  rcases find_whole (S l) ⟨#[c]⟩ with ⟨e, n⟩ | ⟨i, e, a, b⟩ <;> rcases findSign_spec c l with ⟨e', n'⟩ | ⟨j, e', a', b'⟩
  · rw [e, e']
  · exact absurd ((at_one l c j).mpr a') (n j)
  · exact absurd ((at_one l c i).mp a) (n' i)
  · rw [e, e']
    have a := (at_one l c i).mp a
    have hij : i = j := by
      rcases Nat.lt_trichotomy i j with h | h | h
      · exact absurd a (b' i h)
      · exact h
      · exact absurd ((at_one l c j).mpr a') (b j h)
    rw [hij]

theorem Rvs.texts {h : Heap} : ∀ {ds : List D} {vs : List Value} {xs : List (List Nat)}, Rvs ps h ds vs → strsOf ds = some xs → StrsAre vs (xs.map S)
  | _, _, xs, .nil, e => by cases e; exact .nil
  | _, _, xs, .cons (d := d) a r, e => by
    cases d <;> simp only [strsOf, reduceCtorEq] at e
    cases hq : strsOf _ with
    | none => rw [hq] at e; cases e
    | some ys =>
      rw [hq] at e; cases e
      cases a
      exact .cons _ _ (r.texts hq)
theorem join_eq (sep : List Nat) : ∀ xs : List (List Nat), Str.join (S sep) (xs.map S) = S (joined sep xs)
  | [] => rfl
  | [x] => rfl
  | x :: y :: r => by
    have ih := join_eq sep (y :: r)
    show S x ++ S sep ++ Str.join (S sep) ((y :: r).map S) = _
    rw [ih, S_app, S_app]
    simp [joined]

theorem strsOf_tail {y : List Nat} {r : List D} (h : (strsOf (.str y :: r)).isSome = true) : (strsOf r).isSome = true := by
  simp only [strsOf] at h
  cases hz : strsOf r with
  | none => rw [hz] at h; cases h
  | some _ => rfl
theorem Rks.getD {h : Heap} {k : List Nat} {kvs : List (List Nat × D)} {q : List (Str × Value)} {d : D} {u : Value} (r : Rks ps h kvs q) (b : Rv ps h d u) : Rv ps h ((kget k kvs).getD d) ((valueAt q (S k)).getD u) := by
  cases e : kget k kvs with
  | none => rw [(Rks.at k r).2 e]; exact b
  | some d => obtain ⟨w, hw, rw'⟩ := (Rks.at k r).1 d e; rw [hw]; exact rw'
theorem ext1 {p : Addr × Addr} {h h' : Heap} (hs : Heap.SameBut p.1 h h') (l : ∀ o, h.get? p.1 = some o → (h'.get? p.1).isSome = true) : ExtL [p.1, p.2] h h' := (ExtL.same hs l).weaken (by simp)
noncomputable def isTxt (x : List Nat) : Value → Bool
  | .str y _ => y.cps.toList == x
  | _ => false
theorem Rvs.place {h : Heap} : ∀ {ds : List D} {vs : List Value} {x : List Nat} {i : Nat}, Rvs ps h ds vs → placeOf x ds = some i → (strsOf ds).isSome = true →
    ∃ hi : i < vs.length, isTxt x vs[i] = true ∧ ∀ m (hm : m < vs.length), m < i → isTxt x vs[m] = false
  | _, _, x, i, .nil, e, _ => by cases e
  | _, _, x, i, .cons (d := d) a r, e, ss => by
    cases d <;> simp only [placeOf, reduceCtorEq] at e
    rename_i y
    cases a
    rw [leq_eq] at e
    by_cases hy : y = x
    · subst hy
      simp at e; subst e
      exact ⟨by simp, by simp [S, isTxt], by simp⟩
    · simp only [hy, decide_false, Bool.false_eq_true, if_false] at e
      cases hq : placeOf x _ with
      | none => rw [hq] at e; cases e
      | some j =>
        rw [hq] at e; cases e
        obtain ⟨h1, h2, h3⟩ := r.place hq (strsOf_tail ss)
        refine ⟨by simpa using h1, by simpa using h2, fun m hm hlt => ?_⟩
        cases m with
        | zero => simp [S, hy, isTxt]
        | succ m => simpa using h3 m (by simpa using hm) (Nat.lt_of_succ_lt_succ hlt)
theorem Rvs.allStr {h : Heap} : ∀ {ds : List D} {vs : List Value}, Rvs ps h ds vs → (strsOf ds).isSome = true → ∀ v ∈ vs, ∃ y t, v = .str y t
  | _, _, .nil, _ => by simp
  | _, _, .cons (d := d) a r, e => by
    cases d <;> try (simp [strsOf] at e; done)
    replace e := strsOf_tail e
    cases a
    intro v hv
    rcases List.mem_cons.mp hv with rfl | hv
    · exact ⟨_, _, rfl⟩
    · refine r.allStr ?_ v hv
      cases hz : strsOf _ with
      | none => rw [hz] at e; cases e
      | some _ => rfl

theorem Rks.length {h : Heap} : ∀ {kvs : List (List Nat × D)} {q : List (Str × Value)}, Rks ps h kvs q → kvs.length = q.length
  | _, _, .nil => rfl
  | _, _, .cons _ r => by simp [Rks.length r]
theorem Rks.any {h : Heap} {n : List Nat} : ∀ {kvs : List (List Nat × D)} {q : List (Str × Value)}, Rks ps h kvs q → q.any (fun kv => decide (kv.1 = S n)) = kvs.any fun kv => leq kv.1 n
  | _, _, .nil => rfl
  | _, _, .cons (k := k) _ r => by
    simp only [List.any_cons, Rks.any r, leq_eq]
    congr 1
    exact Bool.eq_iff_iff.mpr (by simpa using ⟨S_inj, fun e => by rw [e]⟩)
theorem Rks.put {h : Heap} {n : List Nat} {d : D} {v : Value} (rv : Rv ps h d v) : ∀ {kvs : List (List Nat × D)} {q : List (Str × Value)}, Rks ps h kvs q → (q.map (·.1)).Nodup → Rks ps h (kput n d kvs) (stored q (S n) v)
  | _, _, .nil, _ => by simpa [stored, kput] using Rks.cons rv .nil
  | _, _, .cons (k := k) (d := d') (v := v') (r := kr) (q := qr) a r, nd => by
    simp only [List.map_cons] at nd
    have nd' := List.nodup_cons.mp nd
    have ih := Rks.put rv (n := n) r nd'.2
    simp only [kput, leq_eq]
    by_cases hk : k = n
    · subst hk
      simp only [decide_true, if_true, stored, List.any_cons, Bool.true_or, List.map_cons]
      have : qr.map (fun kv => if kv.1 = S k then (kv.1, v) else kv) = qr := by
        refine map_eq_self fun x hx => ?_
        rw [if_neg]
        intro e
        exact nd'.1 (by rw [← e]; exact List.mem_map_of_mem hx)
      rw [this]
      exact .cons rv r
    · have hs : ¬ (S k = S n) := fun e => hk (S_inj e)
      simp only [hk, decide_false, Bool.false_eq_true, if_false]
      have e2 : stored ((S k, v') :: qr) (S n) v = (S k, v') :: stored qr (S n) v := by
        unfold stored
        simp only [List.any_cons, hs, decide_false, Bool.false_or, List.map_cons, if_false]
        split <;> rfl
      rw [e2]
      exact .cons a ih
theorem nodup_stored (q : List (Str × Value)) (k : Str) (v : Value) (nd : (q.map (·.1)).Nodup) : ((stored q k v).map (·.1)).Nodup := by
  unfold stored
  split
  · have : (q.map fun kv => if kv.1 = k then (kv.1, v) else kv).map (·.1) = q.map (·.1) := by
      rw [List.map_map]
      refine List.map_congr_left fun x _ => ?_
      simp only [Function.comp]
      split <;> rfl
    rw [this]; exact nd
  · rename_i hn
    rw [List.map_append, List.nodup_append]
    refine ⟨nd, by simp, fun a ha b hb => ?_⟩
    simp at hb; subst hb
    intro e; subst e
    obtain ⟨x, hx, rfl⟩ := List.mem_map.mp ha
    exact hn (List.any_eq_true.mpr ⟨x, hx, by simp⟩)
theorem Rks.putAll {h : Heap} {kws : List (List Nat × D)} {more : List (Str × Value)} (m : Rks ps h kws more) : ∀ {kvs : List (List Nat × D)} {q : List (Str × Value)}, Rks ps h kvs q → (q.map (·.1)).Nodup → Rks ps h (putAllD [] kws kvs) (merged q more) := by
  induction m with
  | nil => intro kvs q r _; exact r
  | cons a m ih => intro kvs q r nd; exact ih (r.put a nd) (nodup_stored _ _ _ nd)

theorem smP_ok {m : SM} {x : D} {l : List D} {K : D → List O → Prop} (h : smP σ.st m x l K) (H : Ok B C σ ps s) (R : Ar A) (M : Mods B) {v : Value} {vs : List Value} (rx : Rv ps s.heap x v) (rl : Rvs ps s.heap l vs) {Q : Value → Shared → Prop}
    (q : PostS B C σ ps s K Q) : WP B A (call (.builtin (smId m)) (v :: vs)) Q s := by
  have hl16 : ∀ {n : Nat}, n ≤ line → n ≤ 16777216 := fun h => h
  cases m with
  | lower =>
    replace h := onT_is h; obtain ⟨l0, rfl, h⟩ := h
    replace h := on0_is h; obtain ⟨rfl, h⟩ := h
    cases rx; cases rl
    obtain ⟨⟨ha, hl⟩, h⟩ := h
    refine SC.lower (by rw [low_eq ha]; simp only [Builtin.Str.tooLong, S_len, List.length_map]; have := hl16 hl; rw [sizeLine_eq]; simpa using this) ?_
    rw [low_eq ha]; exact q.tok H h _ (.str _ _)
  | upper =>
    replace h := onT_is h; obtain ⟨l0, rfl, h⟩ := h
    replace h := on0_is h; obtain ⟨rfl, h⟩ := h
    cases rx; cases rl
    obtain ⟨⟨ha, hl⟩, h⟩ := h
    refine SC.upper (by rw [upp_eq ha]; simp only [Builtin.Str.tooLong, S_len, List.length_map]; have := hl16 hl; rw [sizeLine_eq]; simpa using this) ?_
    rw [upp_eq ha]; exact q.tok H h _ (.str _ _)
  | find =>
    replace h := onT_is h; obtain ⟨l0, rfl, h⟩ := h
    replace h := on1_is h; obtain ⟨y, rfl, h⟩ := h
    replace h := onT_is h; obtain ⟨t0, rfl, h⟩ := h
    replace h := on1_is h; obtain ⟨c, rfl, h⟩ := h
    cases rx; cases rl with | cons a r =>
    cases r; cases a
    refine SC.find ?_
    rw [find_eq]; exact q.tok H h.2 _ (.int _ _)
  | join =>
    replace h := onT_is h; obtain ⟨l0, rfl, h⟩ := h
    replace h := on1_is h; obtain ⟨y, rfl, h⟩ := h
    replace h : smJoin σ.st l0 y K := h
    cases rx; cases rl with | cons a r => cases r; cases a with
    | lst e ne r =>
      replace h := onSome_is h; obtain ⟨xs, hx, h⟩ := h
      obtain ⟨hl, h⟩ := h
      refine join_list ⟨_, e, rfl, _, rfl⟩ (r.texts hx) ?_ fun t' k => ?_
      · rw [S_len, List.length_map, List.map_map, show (fun x : Str => x.length) ∘ S = fun x : List Nat => x.length from funext S_len]
        exact hl16 hl
      · rw [eq_of_beq (join_plain_closes _ _), join_eq]
        exact q.tok H h _ (.str _ _)
    | obj hp =>
      obtain ⟨ds, hx, h⟩ := h
      obtain ⟨p, hp', r⟩ := H.rep.at' hx
      rw [hp] at hp'; cases hp'
      obtain ⟨_, us, n, e, r⟩ := r
      replace h := onSome_is h; obtain ⟨xs, hx, h⟩ := h
      obtain ⟨hl, h⟩ := h
      refine join_list ⟨_, e, rfl, _, rfl⟩ (r.texts hx) ?_ fun t' k => ?_
      · rw [S_len, List.length_map, List.map_map, show (fun x : Str => x.length) ∘ S = fun x : List Nat => x.length from funext S_len]
        exact hl16 hl
      · rw [eq_of_beq (join_plain_closes _ _), join_eq]
        exact q.tok H h _ (.str _ _)
    | _ => exact h.elim
  | index =>
    replace h := onLs_is h; obtain ⟨ds0, rfl, h⟩ := h
    replace h := on1_is h; obtain ⟨y, rfl, h⟩ := h
    replace h := onT_is h; obtain ⟨t0, rfl, h⟩ := h
    replace h := onSome_is h; obtain ⟨i, hi, h⟩ := h
    obtain ⟨⟨hl, hs⟩, h⟩ := h
    cases rl with | cons a r' => cases r'; cases a with | str _ t => cases rx with | lst e ne r =>
    rename_i vs n
    obtain ⟨h1, h2, h3⟩ := r.place hi hs
    have hsz := r.length
    have al := r.allStr hs
    have h1' : i < vs.size := by simpa using h1
    refine call_meets F.slot_list_index ⟨_, e, rfl⟩ F.entry_list_index (F.args_list_index_2 _ _)
      (MeetsSeq.list_index _ vs n _ (isTxt _) (fun y hy => ?_) i h1' ?_ (by simpa using h2) (fun m hm hlt => by rw [← Array.getElem_toList]; exact h3 m (by simpa using hm) hlt)) ⟨e, ?_⟩
    · obtain ⟨z, t', rfl⟩ := al y (by simpa using hy)
      exact SeqRoads2.EqGives.str _ _ _ _
    · simp at hsz; omega
    · exact q.tok H h _ (.int _ _)
  | get =>
    replace h := onO_is h; obtain ⟨i, rfl, h⟩ := h
    replace h := on2_is h; obtain ⟨y, d, rfl, h⟩ := h
    replace h := onT_is h; obtain ⟨k0, rfl, h⟩ := h
    obtain ⟨kvs, hx, h⟩ := h
    cases rl with | cons a r' => cases r' with | cons b r' => cases r'; cases a; cases rx with | obj hp =>
    obtain ⟨p, hp', r⟩ := H.rep.at' hx
    rw [hp] at hp'; cases hp'
    obtain ⟨_, q', hd, hr⟩ := r
    refine call_meetsIn F.slot_dict_get hd.typeIs F.entry_dict_get (F.args_dict_get_3 _ _ _) (meets_dict_get_default (PySem.strKind B.prog B.w) _ (is_str _ _) (H.rep.noMods M (List.mem_of_getElem? hp)) _) ⟨_, mapOf_dictOf hd, ?_⟩
    exact q.tok H h _ (hr.getD b)
  | append =>
    replace h := onO_is h; obtain ⟨i, rfl, h⟩ := h
    replace h := on1_is h; obtain ⟨y, rfl, h⟩ := h
    obtain ⟨xs, hx, hl, h⟩ := h
    cases rl with | cons a r' => cases r'; cases rx with | obj hp =>
    obtain ⟨p, hp', r⟩ := H.rep.at' hx
    rw [hp] at hp'; cases hp'
    obtain ⟨h2, vs, n, e, r⟩ := r
    have hsz := r.length
    simp only [Array.length_toList] at hsz
    refine call_meets F.slot_list_append ⟨_, e, rfl⟩ F.entry_list_append (F.args_list_append_2 _ _) (AutoListH.list_append_list_val_0 _ vs n _ (by rw [← line_is]; omega)) ⟨e, ?_⟩
    obtain ⟨O', k'⟩ := H.setList (t := s.toks) (f := fun x => x.push _) hp h2 e (xs := xs ++ [_]) (by rw [Array.toList_push]; exact r.app (.cons a .nil))
    exact q _ _ _ _ h O' k' .none
  | reverse =>
    replace h := onO_is h; obtain ⟨i, rfl, h⟩ := h
    replace h := on0_is h; obtain ⟨rfl, h⟩ := h
    obtain ⟨xs, hx, hl, h⟩ := h
    cases rl; cases rx with | obj hp =>
    obtain ⟨p, hp', r⟩ := H.rep.at' hx
    rw [hp] at hp'; cases hp'
    obtain ⟨h2, vs, n, e, r⟩ := r
    have hsz := r.length
    simp only [Array.length_toList] at hsz
    refine call_meets F.slot_list_reverse ⟨_, e, rfl⟩ F.entry_list_reverse (F.args_list_reverse_1 _) (AutoSeq1.list_reverse_list_0 _ vs n (by rw [← line_is]; omega)) ⟨e, ?_⟩
    obtain ⟨O', k'⟩ := H.setList (t := s.toks) (f := fun x => x.reverse) hp h2 e (xs := xs.reverse) (by rw [Array.toList_reverse]; exact r.rev)
    exact q _ _ _ _ h O' k' .none
  | update =>
    replace h := onO_is h; obtain ⟨i, rfl, h⟩ := h
    replace h := on1_is h; obtain ⟨y, rfl, h⟩ := h
    replace h := onO_is h; obtain ⟨j, rfl, h⟩ := h
    obtain ⟨kvs, hx, kws, hy, hij, hl, h⟩ := h
    cases rl with | cons a r' => cases r'; cases a with | obj hpj => cases rx with | obj hp =>
    obtain ⟨p, hp', r⟩ := H.rep.at' hx
    rw [hp] at hp'; cases hp'
    obtain ⟨p2, hp2, r2⟩ := H.rep.at' hy
    rw [hpj] at hp2; cases hp2
    obtain ⟨h2, q1, hd, hr⟩ := r
    obtain ⟨h3, q2, hd2, hr2⟩ := r2
    have ap := H.rep.apart _ _ _ _ hp hpj hij
    have nd : (q1.map (·.1)).Nodup := by obtain ⟨_, _, _, _, _, _, _, _, z⟩ := hd; exact z
    refine call_meetsIn F.slot_dict_update hd.typeIs F.entry_dict_update (F.args_dict_update_2 _ _) (meets_dict_update (PySem.strKind B.prog B.w) _ _ ap.1 (H.rep.noMods M (List.mem_of_getElem? hpj)))
      ⟨q1, q2, hd, hd2, (by have := hr.length; have := hr2.length; rw [sizeLine_eq]; omega), fun h' hmm _ hs => ?_⟩
    have x := ext1 hs fun o _ => (by obtain ⟨o', _, _, e', _⟩ := hmm; rw [e']; rfl)
    obtain ⟨O', k'⟩ := H.setObj (t := s.toks) hp x (o := .dct (putAllD [] kws kvs)) ⟨h2, _, hmm, ((hr2.putAll hr nd).mono (Kept.owned (List.mem_of_getElem? hp) x []) H.rep.owns (noSeqs_nil _))⟩
    exact q _ _ _ _ h O' k' .none
end Mine
end

section
open PySem PySem.W PyProof.Rows
namespace Mine
variable {B : Base} {A : Around} {C : FC} {σ : St} {ps : Ps} {s : Shared} {K : Frag}

structure MethF (K : Frag) (c : Addr) (m : Nat) (f : Addr) : Prop where
  pg : plainGet K c (nm m) = true
  fi : findIn K (.ref c) (nm m) = some (some (.ref f))
  fn : typeIn K (.ref f) = some (.type "function")
structure AttrF (K : Frag) (c : Addr) (n : Nat) : Prop where
  pg : plainGet K c (nm n) = true
  hd : hasDictIn K c = true
  fi : ∃ a, findIn K (.ref c) (nm n) = some a ∧ noGet K a = true
  sa : findIn K (.ref c) "__setattr__" = some (some (.builtin "object.__setattr__"))
  po : plainOver K c = true
  tk : takerIn K c (nm n) = some none
structure ClsF (K : Frag) (c i : Addr) : Prop where
  make : makesIn K c = true
  keep : keepIn K (.ref c) = true
  ini : findIn K (.ref c) "__init__" = some (some (.ref i))
  fn : typeIn K (.ref i) = some (.type "function")
  kp : keepIn K (.ref c) = true

theorem nm_inj {i j : Nat} (hi : i < 12) (hj : j < 12) (h : nm i = nm j) : i = j := by
  have : ∀ i, i < 12 → ∀ j, j < 12 → nm i = nm j → i = j := by decide +kernel
  exact this i hi j hj h
noncomputable def okKeys (kvs : List (Nat × D)) : Prop := ∀ p ∈ kvs, p.1 < 12

theorem key_is {k n : Nat} (hk : k < 12) (hn : n < 12) (t : Tok) : (Value.str (nm k) t).isStr (nm n) = decide (k = n) := by
  show (nm k == nm n) = _
  by_cases e : k = n
  · subst e; simp
  · simp [e]; exact fun z => e (nm_inj hk hn z)
theorem beq_ne {k n : Nat} (e : ¬ k = n) : Nat.beq k n = false := by
  cases h' : Nat.beq k n with
  | false => rfl
  | true => exact absurd (Nat.eq_of_beq_eq_true h') e
theorem Res.at {h : Heap} {n : Nat} (hn : n < 12) {kvs : List (Nat × D)} {es : List DictEntry} (r : Res ps h kvs es) : okKeys kvs →
    (∀ d, aget n kvs = some d → ∃ v, getL (nm n) es = some (some v) ∧ Rv ps h d v) ∧ (aget n kvs = none → getL (nm n) es = some none) := by
  induction r with
  | nil => intro _; exact ⟨fun d e => (by cases e), fun _ => rfl⟩
  | @cons k d v r q hs t a b ih =>
    intro ok
    have ih := ih fun p hp => ok p (List.mem_cons_of_mem _ hp)
    have hk : k < 12 := ok (k, d) List.mem_cons_self
    have hkey := key_is hk hn t
    by_cases e : k = n
    · subst e
      have hg : getL (nm k) (⟨hs, .str (nm k) t, v⟩ :: q) = some (some v) := by
        unfold getL
        rw [List.find?_cons_of_pos (by simpa using hkey)]
      have ha : aget k ((k, d) :: r) = some d := by simp [aget]
      rw [hg, ha]
      exact ⟨fun d' e => (by cases e; exact ⟨v, rfl, a⟩), fun e => (by cases e)⟩
    · have hg : getL (nm n) (⟨hs, .str (nm k) t, v⟩ :: q) = getL (nm n) q := by
        unfold getL
        rw [List.find?_cons_of_neg (by rw [hkey]; simpa using e)]
        rfl
      have ha : aget n ((k, d) :: r) = aget n r := by simp [aget, beq_ne e]
      rw [hg, ha]; exact ih
theorem Res.isSome {h : Heap} {n : Nat} {kvs : List (Nat × D)} {es : List DictEntry} (r : Res ps h kvs es) : (getL (nm n) es).isSome = true := by
  have : es.any (·.refKey) = false := by
    induction r with
    | nil => rfl
    | cons a b ih => rw [List.any_cons, ih]; rfl
  unfold getL
  split
  · rfl
  · rw [this]; rfl
theorem Res.put {h : Heap} {n : Nat} (hn : n < 12) {d : D} {v : Value} {hs : Int} {t : Tok} (rv : Rv ps h d v) {kvs : List (Nat × D)} {es : List DictEntry} (r : Res ps h kvs es) : okKeys kvs → Res ps h (aput n d kvs) (putL (nm n) hs (.str (nm n) t) v es) := by
  induction r with
  | nil => intro _; exact .cons rv .nil
  | @cons k d' v' r q hs' t' a b ih =>
    intro ok
    have ih := ih fun p hp => ok p (List.mem_cons_of_mem _ hp)
    have hk : k < 12 := ok (k, d') List.mem_cons_self
    have hkey := key_is hk hn t'
    by_cases e : k = n
    · subst e
      simp only [aput, putL, hkey, decide_true, if_true, show Nat.beq k k = true from by simp, cond_true]
      exact .cons rv b
    · simp only [aput, putL, hkey, e, decide_false, Bool.false_eq_true, if_false, beq_ne e, cond_false]
      exact .cons a ih
theorem okKeys.put {n : Nat} (hn : n < 12) {d : D} : ∀ {kvs : List (Nat × D)}, okKeys kvs → okKeys (aput n d kvs)
  | [], _ => by intro p hp; simp [aput] at hp; subst hp; exact hn
  | (k, d') :: r, ok => by
    intro p hp
    simp only [aput] at hp
    have hk := ok (k, d') List.mem_cons_self
    cases h : Nat.beq k n <;> simp only [h, cond_true, cond_false] at hp
    · rcases List.mem_cons.mp hp with rfl | hp
      · exact hk
      · exact okKeys.put hn (fun p hp => ok p (List.mem_cons_of_mem _ hp)) p hp
    · rcases List.mem_cons.mp hp with rfl | hp
      · exact hk
      · exact ok p (List.mem_cons_of_mem _ hp)
end Mine
end

section
set_option maxRecDepth 100000
open PySem PySem.W PyProof.Rows
namespace Mine
variable {B : Base} {A : Around} {C : FC} {σ : St} {ps : Ps} {s : Shared} {K : Frag}

theorem inst_of {c : Addr} {kvs : List (Nat × D)} {p : Addr × Addr} {h : Heap} (r : Ro B.prog B.w ps h p (.ins c kvs)) : ∃ es n, InstAt h p.1 (instObj c p.2) c (some (dictOf es n)) ∧ Res ps h kvs es ∧ okKeys kvs ∧ h.get? p.2 = some (dictOf es n) := by
  obtain ⟨e1, es, n, e2, r, ok⟩ := r
  exact ⟨es, n, ⟨e1, rfl, rfl, e2⟩, r, ok, e2⟩
theorem handed_rv {h : Heap} {d : D} {v : Value} (r : Rv ps h d v) : handedIn v = true := by cases r <;> rfl

theorem getAttr_ok (X : K.In B.h₀) {c : Addr} {n i : Nat} (F : AttrF K c n) (hn : n < 12) (O : Ok B C σ ps s) {p : Addr × Addr} (hp : ps[i]? = some p) {kvs : List (Nat × D)} (hx : σ.st[i]? = some (.ins c kvs)) {d : D} (ha : aget n kvs = some d)
    {ex : Bool} {Q : Value → Shared → Prop} (q : ∀ r, Rv ps s.heap d r → Q r { s with toks := s.toks + 1 }) : WP B A (getAttr (.ref p.1) (nm n) ex) Q s := by
  obtain ⟨p', hp', r⟩ := O.rep.at' hx
  rw [hp] at hp'; cases hp'
  obtain ⟨es, k, I, R, ok, _⟩ := inst_of r
  obtain ⟨v, hv, rv⟩ := (Res.at hn R ok).1 d ha
  obtain ⟨a, hf, hno⟩ := F.fi
  exact get_value (X.keeps O.rep.base) I (plainGet_of F.pg).1 (findObj_own F.hd hf hno hv) (handed_rv rv) (q v rv)

theorem getMeth_ok (X : K.In B.h₀) {c f : Addr} {m i : Nat} (F : MethF K c m f) (hm : m < 12) (O : Ok B C σ ps s) {p : Addr × Addr} (hp : ps[i]? = some p) {kvs : List (Nat × D)} (hx : σ.st[i]? = some (.ins c kvs)) (ha : aget m kvs = none)
    {pl : Sem Bool} {Q : Value × List Value → Shared → Prop} (q : Q (.ref f, [.ref p.1]) s) : WP B A (getMethod (.ref p.1) (nm m) pl) Q s := by
  obtain ⟨p', hp', r⟩ := O.rep.at' hx
  rw [hp] at hp'; cases hp'
  obtain ⟨es, k, I, R, ok, _⟩ := inst_of r
  have hv := (Res.at hm R ok).2 ha
  refine method_fn (X.keeps O.rep.base) I (plainGet_of F.pg).1 (plainGet_of F.pg).2 F.fi F.fn ?_ q
  show (lookIn (nm m) (dictOf es k)).map _ = _
  rw [lookIn_dict, hv]; rfl

theorem osa_raw {c x dx : Addr} {ox : Obj} {es es' : List DictEntry} {n n' : Nat} {name : Str} {tk : Tok} {v : Value} {R : Result → Shared → Prop} (X : K.In s.heap)
    (I : InstAt s.heap x ox c (some (dictOf es n))) (hd : ox.dict = some dx) (hp : plainOver K c = true) (ht : takerIn K c name = some none) (hh : hasDictIn K c = true) (hl : (getL name es).isSome = true)
    (D : s.heap.get? dx = some (dictOf es n)) (e : Obj.putName name (PyData.keyHash B.w.params name) (.str name s.toks) v (dictOf es n) = dictOf es' n') (hz : es'.length ≤ 1000)
    (h : R (.ok (.ret .none)) { s with heap := s.heap.update dx (Obj.putName name (PyData.keyHash B.w.params name) (.str name s.toks) v), toks := s.toks + 1 }) :
    codeAny (model B.prog B.w) A (.call (.builtin "object.__setattr__") ⟨[.ref x, .str name tk, v], []⟩) R s := by
  refine osa_open X I hp ht fun b => ?_
  obtain ⟨cd, hc, hd'⟩ := any_some hh
  have D' : (s.heap.update dx (Obj.putName name (PyData.keyHash B.w.params name) (.str name s.toks) v)).get? dx = some (dictOf es' n') := by
    rw [← e]; exact Heap.get?_update_self _ D (by rw [e]; rfl)
  obtain ⟨hx, hcl, hn, -⟩ := I
  obtain ⟨oc, odi, oda, osl⟩ := ox
  dsimp only at hcl hd
  subst hcl hd
  refine wpAny_bind (wpAny_pure (wpAny_bind (wpAny_bind (wpAny_loadPart hx (wpAny_bind ((looks_clsIn X hc).here ?_))))))
  rw [hd']
  refine wpAny_pure (a := some dx) (wpAny_bind (wpAny_pure (wpAny_bind ?_)))
  unfold nsSet
  refine wpAny_bind (wpAny_bind (wpAny_askSetting (wpAny_pure (wpAny_bind (wpAny_mkText (wpAny_bind (wpAny_loadPart D ?_)))))))
  have c' : (!es.toArray.any (·.key.isStr name) && es.toArray.any (·.refKey)) = false := by
    rw [← Array.any_toList, ← Array.any_toList]
    unfold getL at hl
    split at hl
    · rename_i en he
      rw [List.any_eq_true.mpr ⟨en, List.mem_of_find?_eq_some he, List.find?_some he⟩]; rfl
    · split at hl
      · cases hl
      · rename_i z
        have z' : es.any (·.refKey) = false := by simpa using z
        rw [show es.toArray.toList = es from rfl, z', Bool.and_false]
  dsimp only
  rw [aRefKeyMayBeTheName_at, c']
  refine wpAny_updatePart D ?_
  refine wpAny_bind (wpAny_lookBehind D' (pastItsLine_dict (by rw [List.size_toArray, sizeLine_eq]; omega)) ?_)
  exact wpAny_pure h

theorem putL_len (name : Str) (hs : Int) (key v : Value) : ∀ es : List DictEntry, (putL name hs key v es).length ≤ es.length + 1
  | [] => by simp [putL]
  | e :: r => by
    simp only [putL]
    split
    · simp
    · simp; exact putL_len name hs key v r
theorem Res.length {h : Heap} {kvs : List (Nat × D)} {es : List DictEntry} (r : Res ps h kvs es) : kvs.length = es.length := by
  induction r with
  | nil => rfl
  | cons _ _ ih => simp [ih]

theorem setAttr_ok (X : K.In B.h₀) {c : Addr} {n i : Nat} (F : AttrF K c n) (hn : n < 12) (O : Ok B C σ ps s) {p : Addr × Addr} (hp : ps[i]? = some p) {kvs : List (Nat × D)} (hx : σ.st[i]? = some (.ins c kvs)) (hlen : kvs.length ≤ 100)
    {d : D} {v : Value} (rv : Rv ps s.heap d v) {Q : Unit → Shared → Prop} (q : ∀ s', Ok B C (σ.upd i (.ins c (aput n d kvs))) ps s' → Kept [] ps s.heap ps s'.heap → Q () s') : WP B A (setAttr (.ref p.1) (nm n) v) Q s := by
  obtain ⟨p', hp', r⟩ := O.rep.at' hx
  rw [hp] at hp'; cases hp'
  obtain ⟨e1, _⟩ := id r
  obtain ⟨es, k, I, R, ok, D⟩ := inst_of r
  have X' := X.keeps O.rep.base
  refine set_plain X' I F.sa ?_
  have lo := putL_len (nm n) (PyData.keyHash B.w.params (nm n)) (.str (nm n) (s.toks + 1)) v es
  have hr := R.length
  have hne : p.1 ≠ p.2 := fun q => by rw [← q, e1] at D; cases D
  refine osa_raw (s := { s with toks := s.toks + 1 }) X' I rfl F.po F.tk F.hd R.isSome D (putName_dict ..) (Nat.le_trans lo (by omega)) ?_
  have D' : (s.heap.update p.2 (Obj.putName (nm n) (PyData.keyHash B.w.params (nm n)) (.str (nm n) (s.toks + 1)) v)).get? p.2 = some (dictOf (putL (nm n) (PyData.keyHash B.w.params (nm n)) (.str (nm n) (s.toks + 1)) v es) (putN (nm n) es k)) := by
    rw [← putName_dict]; exact Heap.get?_update_self _ D (by rw [putName_dict]; rfl)
  have x : ExtL [p.1, p.2] s.heap (s.heap.update p.2 (Obj.putName (nm n) (PyData.keyHash B.w.params (nm n)) (.str (nm n) (s.toks + 1)) v)) :=
    ext_upd D _ (by rw [putName_dict]; rfl) (.inr rfl)
  obtain ⟨O', k'⟩ := O.setObj (t := s.toks + 1 + 1) hp x (o := .ins c (aput n d kvs)) ⟨(Heap.get?_update_other _ _ (Ne.symm hne)).trans e1, _, _, D', (R.put hn rv ok).mono (Kept.owned (List.mem_of_getElem? hp) x []) O.rep.owns (noSeqs_nil _), ok.put hn⟩
  exact q _ O' k'
end Mine
end

section
set_option maxRecDepth 100000
open PySem PySem.W PyProof.Rows
namespace Mine

structure RA (n : Nat) (A : Around) : Prop where
  handled : A.handled = none
  guards : A.guards = some []
  units : A.units + 100 * n + 400 < cLine
  depth : A.depth + 10 * n + 10 < recursionLimit
theorem RA.ar {n A} (r : RA n A) : Ar A := ⟨r.handled, r.guards, by have := r.units; omega⟩
theorem RA.le {n m A} (r : RA n A) (h : m ≤ n) : RA m A := ⟨r.handled, r.guards, by have := r.units; have := Nat.mul_le_mul_left 100 h; omega, by have := r.depth; have := Nat.mul_le_mul_left 10 h; omega⟩

noncomputable def biVal : BI → Value
  | .len => .builtin "len" | .str => .type "str" | .repr => .builtin "repr"

/-- what the text's top is known to hold -/
structure Wd (B : Base) (K : Frag) (mg mb : Str → Option Value) : Prop where
  X : K.In B.h₀
  M : Mods B
  g : B.h₀.Ns mainGlobals mg
  b : B.h₀.Ns builtinsNs mb
  nolimit : B.h₀.NoLimit
  bi : ∀ b, mg (biName b) = none ∧ mb (biName b) = some (biVal b)
  rg : mg (Str.ofString "range") = none ∧ mb (Str.ofString "range") = some (.type "range")

noncomputable abbrev Spec := Addr → List D → List O → (D → List O → Prop) → Prop

/-- the spec of a function holds -/
noncomputable def CallOk (B : Base) (SP : Spec) (n : Nat) (f : Addr) : Prop :=
  ∀ (A : Around), RA n A → ∀ (ds : List D) (vs : List Value) (st : List O) (K : D → List O → Prop) (ps : Ps) (s : Shared) (R : Result → Shared → Prop),
    Rep B ps s.heap st → s.gens = #[] → s.os = B.os → Rvs ps s.heap ds vs → SP f ds st K →
    (∀ d st' ps' s' v, K d st' → Rep B ps' s'.heap st' → s'.gens = #[] → s'.os = B.os → Kept [] ps s.heap ps' s'.heap → Rv ps' s'.heap d v → R (.ok (.ret v)) s') →
    codeAny (model B.prog B.w) A (.call (.ref f) ⟨vs, []⟩) R s

structure Fit (B : Base) (SP : Spec) (K : Frag) (mg mb : Str → Option Value) (n : Nat) (cx : Cx) (C : FC) (A : Around) : Prop where
  wd : Wd B K mg mb
  fkind : C.env.scope.kind = .function
  names : cx.names = C.names
  kind : ∀ x, cx.kind x = C.env.kindOf x
  glo : C.env.globals = mainGlobals
  bui : C.env.builtins = builtinsNs
  ra : RA n A
  slack : A.units + 100 * n + 420 < cLine ∧ A.depth + 10 * n + 15 < recursionLimit
  glob : ∀ x a, cx.glob x = some a → mg x = some (.ref a)
  may : ∀ f, cx.may f = true → CallOk B SP n f ∧ keepIn K (.ref f) = true
  meths : ∀ c m f, cx.meths.contains (c, m, f) = true → MethF K c m f ∧ m < 12
  attrs : ∀ c n, cx.attrs.contains (c, n) = true → AttrF K c n ∧ n < 12
  clss : ∀ c i, cx.clss.contains (c, i) = true → ClsF K c i

variable {B : Base} {SP : Spec} {K : Frag} {mg mb : Str → Option Value}

noncomputable def PostE (B : Base) (C : FC) (σ : St) (ps : Ps) (s : Shared) (k : D → St → Prop) (Q : Value → Shared → Prop) : Prop :=
  ∀ d σ' ps' s' v, k d σ' → Ok B C σ' ps' s' → Kept [] ps s.heap ps' s'.heap → Rv ps' s'.heap d v → Q v s'

noncomputable def SndV (B : Base) (SP : Spec) (C : FC) (A : Around) (e : ME) (ast : PySem.Expr) : Prop :=
  ∀ (σ : St) (k : D → St → Prop) (ps : Ps) (s : Shared) (Q : Value → Shared → Prop), E SP e σ k → Ok B C σ ps s → PostE B C σ ps s k Q → WP B A (eval ast C.env) Q s
noncomputable def SndT (B : Base) (SP : Spec) (C : FC) (A : Around) (e : ME) (ast : PySem.Expr) : Prop :=
  ∀ (σ : St) (k : Bool → St → Prop) (ps : Ps) (s : Shared) (Q : Bool → Shared → Prop), E SP e σ (fun d σ' => ∃ b, d = .bool b ∧ k b σ') → Ok B C σ ps s →
    (∀ b σ' ps' s', k b σ' → Ok B C σ' ps' s' → Kept [] ps s.heap ps' s'.heap → Q b s') → WP B A (isTrue ast C.env (eval ast C.env)) Q s
noncomputable def SndL (B : Base) (SP : Spec) (C : FC) (A : Around) (e : ME) (asts : List PySem.Expr) : Prop :=
  ∀ (σ : St) (k : D → St → Prop) (ps : Ps) (s : Shared) (Q : List Value → Shared → Prop) (pos : Pos), E SP e σ k → Ok B C σ ps s →
    (∀ ds σ' ps' s' vs, k (.tup ds) σ' → Ok B C σ' ps' s' → Kept [] ps s.heap ps' s'.heap → Rvs ps' s'.heap ds vs → vs.length = asts.length → Q vs s') →
    WP B A (spliced (backTo pos (starEach asts C.env))) Q s

/-- an expression does what its small form says -/
noncomputable def Snd (B : Base) (SP : Spec) (K : Frag) (mg mb : Str → Option Value) (e : ME) : Prop :=
  ∀ (n : Nat) (cx : Cx) (C : FC) (A : Around), Fit B SP K mg mb n cx C A →
    (∀ ast, mt e cx (.inl ast) = true → SndV B SP C A e ast ∧ SndT B SP C A e ast) ∧ (∀ asts, mt e cx (.inr asts) = true → SndL B SP C A e asts)

variable {n : Nat} {cx : Cx} {C : FC} {A : Around}

theorem SndV.test {e : ME} {ast : PySem.Expr} (v : SndV B SP C A e ast) (h : ∀ w : Sem Value, isTrue ast C.env w = (do let v ← w; standAt ast.pos; holding [v] (truthy v))) : SndT B SP C A e ast := by
  intro σ k ps s Q he O q
  refine wpAny_isTrue_value (v σ _ ps s _ he O fun d σ' ps' s' v ⟨b, hd, kb⟩ O' kp rv => ?_) (h _)
  subst hd; cases rv
  exact wpAny_truthy_bool (q b σ' ps' s' kb O' kp)

theorem lget_some {loc : List (Option D)} {i : Nat} {d : D} (h : lget loc i = some d) : loc[i]? = some (some d) := by
  induction loc generalizing i with
  | nil => cases h
  | cons x r ih =>
    cases i with
    | zero => simp [lget] at h; simp [h]
    | succ i => simpa using ih (by simpa [lget] using h)

theorem snd_loc {i : Nat} {ast : PySem.Expr} (F : Fit B SP K mg mb n cx C A) (h : mt (.loc i) cx (.inl ast) = true) : SndV B SP C A (.loc i) ast ∧ SndT B SP C A (.loc i) ast := by
  · replace h := onName_is h; obtain ⟨x, pos, rfl, h⟩ := h
    simp only [Bool.and_eq_true, beq_iff_eq, Bool.not_eq_true', Bool.or_eq_true] at h
    obtain ⟨⟨hn, hk⟩, hd⟩ := h
    have v : SndV B SP C A (.loc i) (.Name x pos) := by
      intro σ k ps s Q he O q
      obtain ⟨d, hl, he⟩ : ∃ d, lget σ.loc i = some d ∧ k d σ := onSome_is he
      have hl' := lget_some hl
      rw [F.names] at hn
      rw [F.kind] at hk
      refine wpAny_Name ?_ hd
      rcases hk with hk | hk
      · obtain ⟨m, hm, hv⟩ := O.frm.ns
        obtain ⟨v, e1, rv⟩ := hv i x d hn hl' hk
        exact wpAny_loadName_local F.fkind hk hm e1 (q d σ ps s v he O (.refl ..) rv)
      · obtain ⟨c, v, hc, hcell, hv⟩ := O.frm.cell i x hn hk
        obtain ⟨u, rfl, rv⟩ := hv d hl'
        exact wpAny_loadName_cell F.fkind hk hc hcell (q d σ ps s u he O (.refl ..) rv)
    exact ⟨v, v.test fun _ => rfl⟩

theorem snd_const {e : ME} {ast : PySem.Expr} (v : SndV B SP C A e ast) (h : ∀ w : Sem Value, isTrue ast C.env w = (do let v ← w; standAt ast.pos; holding [v] (truthy v))) : SndV B SP C A e ast ∧ SndT B SP C A e ast := ⟨v, v.test h⟩

theorem snd_none {ast : PySem.Expr} (h : mt .none cx (.inl ast) = true) : SndV B SP C A .none ast ∧ SndT B SP C A .none ast := by
  · replace h := onConstant_is h; obtain ⟨c, _, _, rfl, h⟩ := h
    obtain rfl := isNoneC_is h
    exact snd_const (fun σ k ps s Q he O q => wpAny_Constant_none (q _ _ _ _ _ he O (.refl ..) .none)) fun _ => rfl
theorem snd_bool {b : Bool} {ast : PySem.Expr} (h : mt (.bool b) cx (.inl ast) = true) : SndV B SP C A (.bool b) ast ∧ SndT B SP C A (.bool b) ast := by
  · replace h := onConstant_is h; obtain ⟨c, _, _, rfl, h⟩ := h
    replace h := onCbool_is h; obtain ⟨c, rfl, h⟩ := h
    rw [beq_iff_eq] at h; subst h
    exact snd_const (fun σ k ps s Q he O q => by
      show wpAny _ _ (pure (Value.bool b)) _ _ _
      exact wpAny_pure (q _ _ _ _ _ he O (.refl ..) (.bool _))) fun _ => rfl
theorem snd_str {x : List Nat} {ast : PySem.Expr} (h : mt (.str x) cx (.inl ast) = true) : SndV B SP C A (.str x) ast ∧ SndT B SP C A (.str x) ast := by
  · replace h := onConstant_is h; obtain ⟨c, _, _, rfl, h⟩ := h
    replace h := onCstr_is h; obtain ⟨c, rfl, h⟩ := h
    rw [beq_iff_eq] at h; subst h
    exact snd_const (fun σ k ps s Q he O q => wpAny_Constant_str (q _ _ _ { s with toks := s.toks + 1 } _ he (O.tok _) (.refl ..) (.str _ _))) fun _ => rfl
theorem snd_int {i : Int} {ast : PySem.Expr} (h : mt (.int i) cx (.inl ast) = true) : SndV B SP C A (.int i) ast ∧ SndT B SP C A (.int i) ast := by
  replace h := or_is h; rcases h with h | h
  · replace h := onConstant_is h; obtain ⟨c, _, _, rfl, h⟩ := h
    replace h := onCint_is h; obtain ⟨c, rfl, h⟩ := h
    rw [beq_iff_eq] at h; subst h
    exact snd_const (fun σ k ps s Q he O q => by
      show wpAny _ _ (mkInt _) _ _ _
      exact wpAny_mkInt (q _ _ _ { s with toks := s.toks + 1 } _ he (O.tok _) (.refl ..) (.int _ _))) fun _ => rfl
  · replace h := onUnaryOp_is h; obtain ⟨o, x, _, rfl, h⟩ := h
    replace h := and_is h; obtain ⟨h1, h⟩ := h
    obtain rfl := isUSub_is h1
    replace h := onConstant_is h; obtain ⟨c, _, _, rfl, h⟩ := h
    replace h := onCint_is h; obtain ⟨c, rfl, h⟩ := h
    rw [beq_iff_eq] at h; subst h
    exact snd_const (fun σ k ps s Q he O q => by
      refine wpAny_UnaryOp ?_
      show wpAny _ _ (mkInt _) _ _ _
      exact wpAny_mkInt (P.neg_int (q _ _ _ { s with toks := s.toks + 1 + 1 } _ he (O.tok _) (.refl ..) (.int _ _)))) fun _ => rfl
theorem snd_fn {a : Addr} {ast : PySem.Expr} (F : Fit B SP K mg mb n cx C A) (h : mt (.fn a) cx (.inl ast) = true) : SndV B SP C A (.fn a) ast ∧ SndT B SP C A (.fn a) ast := by
  · replace h := onName_is h; obtain ⟨x, pos, rfl, h⟩ := h
    simp only [Bool.and_eq_true, beq_iff_eq, Bool.not_eq_true'] at h
    obtain ⟨⟨hk, hg⟩, hd⟩ := h
    rw [F.kind] at hk
    exact snd_const (fun σ k ps s Q he O q => Calls.Name_function_global F.fkind hk (Calls.loadGlobal_global (mg := mg) (by rw [F.glo]; exact F.wd.g.keeps O.rep.base) (F.glob x a hg) (q _ _ _ _ _ he O (.refl ..) (.sta a))) hd) fun _ => rfl
end Mine
end

section
set_option maxRecDepth 100000
open PySem PySem.W PyProof.Rows
namespace Mine
variable {B : Base} {SP : Spec} {K : Frag} {mg mb : Str → Option Value} {n : Nat} {cx : Cx} {C : FC} {A : Around}

theorem noStar_each {e : PySem.Expr} (h : noStar e = true) (r : List PySem.Expr) (env : Env) : starEach (e :: r) env = (false, eval e env) :: starEach r env := by
  cases e <;> first | rfl | cases h
theorem noStar_any (pos : Pos) (env : Env) : ∀ l : List PySem.Expr, l.all noStar = true → (backTo pos (starEach l env)).any (·.1) = false
  | [], _ => rfl
  | e :: r, h => by
    simp only [List.all_cons, Bool.and_eq_true] at h
    rw [noStar_each h.1]
    show (false || (backTo pos (starEach r env)).any (·.1)) = false
    rw [noStar_any pos env r h.2]; rfl
theorem args_ok {f : Value} {pos : Pos} {env : Env} {l : List PySem.Expr} (hl : l.all noStar = true) {Q : Args → Shared → Prop} {s : Shared} (h : WP B A (spliced (backTo pos (starEach l env))) (fun vs s' => Q ⟨vs, []⟩ s') s) :
    WP B A (evalArgs f true (backTo pos (starEach l env)) []) Q s := by
  cases l with
  | nil => exact fun Γ p hΓ => evalArgs_nil3 (M := model B.prog B.w) (A := A) (E := fun _ _ => False) (h Γ p hΓ) Γ p hΓ
  | cons e r =>
    simp only [List.all_cons, Bool.and_eq_true] at hl
    rw [noStar_each hl.1] at h ⊢
    exact Calls.evalArgs_plain h
theorem mt_list {e : ME} : ∀ {cx : Cx} {l : List PySem.Expr}, mt e cx (.inr l) = true → l.all noStar = true := by
  induction e with
  | nil => intro cx l h; obtain rfl := isEmpty_is h; rfl
  | cons a b _ ib =>
    intro cx l h
    · replace h := onCons_is h; obtain ⟨e, r, rfl, h⟩ := h
      simp only [Bool.and_eq_true] at h
      simp only [List.all_cons, h.1.1, Bool.true_and]
      exact ib h.2
  | _ => intro cx l h; exact nomatch (show false = true from h)

theorem snd_nil {l : List PySem.Expr} (h : mt .nil cx (.inr l) = true) : SndL B SP C A .nil l := by
  · obtain rfl := isEmpty_is h
    intro σ k ps s Q pos he O q
    exact wpAny_pure (q [] _ _ _ _ he O (.refl ..) .nil rfl)
theorem snd_cons {a b : ME} (F : Fit B SP K mg mb n cx C A) (ia : Snd B SP K mg mb a) (ib : Snd B SP K mg mb b) {l : List PySem.Expr} (h : mt (.cons a b) cx (.inr l) = true) : SndL B SP C A (.cons a b) l := by
  · replace h := onCons_is h; obtain ⟨e, r, rfl, h⟩ := h
    simp only [Bool.and_eq_true] at h
    have va := ((ia n cx C A F).1 e h.1.2).1
    have vb := (ib n cx C A F).2 r h.2
    intro σ k ps s Q pos he O q
    refine wpAny_items_cons (va σ _ ps s _ he O fun d σ1 ps1 s1 v he1 O1 k1 rv => ?_) (noStar_each h.1.1 r _)
    refine vb σ1 _ ps1 s1 _ pos he1 O1 fun ds σ2 ps2 s2 vs kk O2 k2 rvs hlen => ?_
    exact q (d :: ds) σ2 ps2 s2 (v :: vs) kk O2 (k1.trans k2) (.cons (rv.mono k2 O1.rep.owns (noSeqs_nil _)) rvs) (by simp [hlen])

theorem snd_bin {op : BOp} {a b : ME} {ast : PySem.Expr} (F : Fit B SP K mg mb n cx C A) (ia : Snd B SP K mg mb a) (ib : Snd B SP K mg mb b) (h : mt (.bin op a b) cx (.inl ast) = true) : SndV B SP C A (.bin op a b) ast ∧ SndT B SP C A (.bin op a b) ast := by
  · replace h := onBinOp_is h; obtain ⟨l, o, r, p, rfl, h⟩ := h
    simp only [Bool.and_eq_true, beq_iff_eq] at h
    have va := ((ia n cx C A F).1 l h.1.2).1
    have vb := ((ib n cx C A F).1 r h.2).1
    exact snd_const (fun σ k ps s Q he O q => wpAny_BinOp (va σ _ ps s _ he O fun x σ1 ps1 s1 v he1 O1 k1 rv => vb σ1 _ ps1 s1 _ he1 O1 fun y σ2 ps2 s2 u he2 O2 k2 ru =>
      binP_ok he2 O2 (rv.mono k2 O1.rep.owns (noSeqs_nil _)) ru (fun z s' r kz O' k' rz => q z σ2 ps2 s' r kz O' ((k1.trans k2).trans k') rz) h.1.1)) fun _ => rfl

theorem snd_cmp {op : COp} {a b : ME} {ast : PySem.Expr} (F : Fit B SP K mg mb n cx C A) (ia : Snd B SP K mg mb a) (ib : Snd B SP K mg mb b) (h : mt (.cmp op a b) cx (.inl ast) = true) : SndV B SP C A (.cmp op a b) ast ∧ SndT B SP C A (.cmp op a b) ast := by
  · replace h := onCompare_is h; obtain ⟨l, os, rs, p, rfl, h⟩ := h
    replace h := onOne_is h; obtain ⟨o, rfl, h⟩ := h
    replace h := onOne_is h; obtain ⟨r, rfl, h⟩ := h
    simp only [Bool.and_eq_true, beq_iff_eq, Bool.not_eq_true'] at h
    have va := ((ia n cx C A F).1 l h.1.2).1
    have vb := ((ib n cx C A F).1 r h.2).1
    refine ⟨fun σ k ps s Q he O q => ?_, fun σ k ps s Q he O q => ?_⟩
    · exact wpAny_Compare1 (va σ _ ps s _ he O fun x σ1 ps1 s1 v he1 O1 k1 rv => vb σ1 _ ps1 s1 _ he1 O1 fun y σ2 ps2 s2 u he2 O2 k2 ru =>
        cmpP_ok he2 O2 F.ra.ar F.wd.M (rv.mono k2 O1.rep.owns (noSeqs_nil _)) ru (fun c s' kz O' k' => q _ σ2 ps2 s' _ kz O' ((k1.trans k2).trans k') (.bool c)) h.1.1.1) h.1.1.2
    · exact wpAny_isTrue_Compare1 (va σ _ ps s _ he O fun x σ1 ps1 s1 v he1 O1 k1 rv => vb σ1 _ ps1 s1 _ he1 O1 fun y σ2 ps2 s2 u he2 O2 k2 ru =>
        cmpP_ok he2 O2 F.ra.ar F.wd.M (rv.mono k2 O1.rep.owns (noSeqs_nil _)) ru (fun c s' kz O' k' => by
          obtain ⟨b, hb, kb⟩ := kz
          cases hb
          exact wpAny_truthy_bool (q c σ2 ps2 s' kb O' ((k1.trans k2).trans k'))) h.1.1.1) h.1.1.2

theorem snd_not {a : ME} {ast : PySem.Expr} (F : Fit B SP K mg mb n cx C A) (ia : Snd B SP K mg mb a) (h : mt (.not a) cx (.inl ast) = true) : SndV B SP C A (.not a) ast ∧ SndT B SP C A (.not a) ast := by
  · replace h := onUnaryOp_is h; obtain ⟨o, x, p, rfl, h⟩ := h
    replace h := and_is h; obtain ⟨h1, h⟩ := h
    obtain rfl := isNot_is h1
    have va := ((ia n cx C A F).1 x h)
    refine ⟨fun σ k ps s Q he O q => ?_, fun σ k ps s Q he O q => ?_⟩
    · refine wpAny_UnaryOp (va.1 σ _ ps s _ he O fun d σ1 ps1 s1 v he1 O1 k1 rv => ?_)
      split at he1
      · cases rv
        exact not_value (wpAny_truthy_bool (q _ σ1 ps1 s1 _ he1 O1 k1 (.bool _)))
      · exact he1.elim
    · refine wpAny_isTrue_Not ?_
      have : E SP a σ (fun d σ' => ∃ b, d = .bool b ∧ k (!b) σ') := by
        have he' : E SP a σ (fun x σ1 => match x with | .bool c => ∃ b, D.bool (!c) = .bool b ∧ k b σ1 | _ => False) := he
        have e : (fun (x : D) (σ1 : St) => match x with | .bool c => ∃ b, D.bool (!c) = .bool b ∧ k b σ1 | _ => False) = (fun d σ' => ∃ b, d = .bool b ∧ k (!b) σ') := by
          funext d σ'
          cases d with
          | bool c => cases c <;> simp
          | _ => simp
        rw [e] at he'; exact he'
      exact va.2 σ (fun b σ' => k (!b) σ') ps s _ this O fun b σ' ps' s' kb O' k' => q _ σ' ps' s' kb O' k'
theorem and_cons {env : Env} {x y z : PySem.Expr} {r : List PySem.Expr} {pos : Pos} {Q : Value → Shared → Prop} {s : Shared}
    (h : WP B A (eval x env) (fun v s1 => WP B A (truthy v) (fun t s2 => if t then WP B A (eval (.BoolOp .And (y :: z :: r) pos) env) Q s2 else Q v s2) s1) s) :
    WP B A (eval (.BoolOp .And (x :: y :: z :: r) pos) env) Q s := by
  show wpAny _ _ (eval x env >>= fun v => standAt pos >>= fun _ => holding [v] (truthy v) >>= fun t => match BoolOp.And, t with
    | .And, false | .Or, true => pure v
    | _, _ => boolOp pos .And (evalEach (y :: z :: r) env)) _ _ _
  refine wpAny_bind (wpAny_mono h (fun v s1 h1 => wpAny_bind (wpAny_standAt (wpAny_bind (wpAny_holding (wpAny_mono h1 (fun t s2 h2 => ?_) fun _ _ e => e))))) fun _ _ e => e)
  cases t
  · exact wpAny_pure h2
  · exact h2

theorem snd_and {a b : ME} {ast : PySem.Expr} (F : Fit B SP K mg mb n cx C A) (ia : Snd B SP K mg mb a) (ib : Snd B SP K mg mb b) (h : mt (.and a b) cx (.inl ast) = true) : SndV B SP C A (.and a b) ast ∧ SndT B SP C A (.and a b) ast := by
  have tst : ∀ {σ : St} {k : Bool → St → Prop}, E SP (.and a b) σ (fun d σ' => ∃ b, d = .bool b ∧ k b σ') →
      E SP a σ fun d σ1 => ∃ c, d = .bool c ∧ ((c = true → E SP b σ1 fun d σ' => ∃ b, d = .bool b ∧ k b σ') ∧ (c = false → k false σ1)) := fun {σ k} he => by
    have he' : E SP a σ (fun x σ1 => match x with | .bool c => Br c (E SP b σ1 fun d σ' => ∃ b, d = .bool b ∧ k b σ') (∃ b, D.bool false = .bool b ∧ k b σ1) | _ => False) := he
    have e : (fun (x : D) (σ1 : St) => match x with | .bool c => Br c (E SP b σ1 fun d σ' => ∃ b, d = .bool b ∧ k b σ') (∃ b, D.bool false = .bool b ∧ k b σ1) | _ => False) =
        fun d σ1 => ∃ c, d = .bool c ∧ ((c = true → E SP b σ1 fun d σ' => ∃ b, d = .bool b ∧ k b σ') ∧ (c = false → k false σ1)) := by
      funext d σ'
      cases d with
      | bool c => cases c <;> simp [Br]
      | _ => simp
    rw [e] at he'; exact he'
  replace h := onBoolOp_is h; obtain ⟨o, xs, p, rfl, h⟩ := h
  replace h := and_is h; obtain ⟨h1, h⟩ := h
  obtain rfl := isAnd_is h1
  replace h := onCons_is h; obtain ⟨x, r, rfl, h⟩ := h
  replace h := onCons_is h; obtain ⟨y, r, rfl, h⟩ := h
  replace h := and_is h
  rcases r with _ | ⟨z, r⟩
  · replace h : mt a cx (.inl x) = true ∧ mt b cx (.inl y) = true := h
    have va := (ia n cx C A F).1 x h.1
    have vb := (ib n cx C A F).1 y h.2
    refine ⟨fun σ k ps s Q he O q => ?_, fun σ k ps s Q he O q => ?_⟩
    · refine wpAny_And2 (va.1 σ _ ps s _ he O fun d σ1 ps1 s1 v he1 O1 k1 rv => ?_)
      split at he1
      · rename_i c
        cases rv
        refine wpAny_truthy_bool ?_
        cases c
        · exact q _ σ1 ps1 s1 _ (he1.2 rfl) O1 k1 (.bool _)
        · exact vb.1 σ1 _ ps1 s1 _ (he1.1 rfl) O1 fun d σ2 ps2 s2 u kk O2 k2 ru => q d σ2 ps2 s2 u kk O2 (k1.trans k2) ru
      · exact he1.elim
    · refine wpAny_isTrue_BoolOp (wpAny_allTrue_And_cons (va.2 σ _ ps s _ (tst he) O fun c σ1 ps1 s1 ⟨h1, h2⟩ O1 k1 => ?_))
      cases c
      · exact q _ σ1 ps1 s1 (h2 rfl) O1 k1
      · refine wpAny_allTrue_And_cons (vb.2 σ1 _ ps1 s1 _ (h1 rfl) O1 fun c σ2 ps2 s2 kk O2 k2 => ?_)
        cases c
        · exact q _ σ2 ps2 s2 kk O2 (k1.trans k2)
        · exact wpAny_allTrue_And_nil (q _ σ2 ps2 s2 kk O2 (k1.trans k2))
  · replace h : mt a cx (.inl x) = true ∧ mt b cx (.inl (.BoolOp .And (y :: z :: r) p)) = true := h
    have va := (ia n cx C A F).1 x h.1
    have vb := (ib n cx C A F).1 _ h.2
    refine ⟨fun σ k ps s Q he O q => ?_, fun σ k ps s Q he O q => ?_⟩
    · refine and_cons (va.1 σ _ ps s _ he O fun d σ1 ps1 s1 v he1 O1 k1 rv => ?_)
      split at he1
      · rename_i c
        cases rv
        refine wpAny_truthy_bool ?_
        cases c
        · exact q _ σ1 ps1 s1 _ (he1.2 rfl) O1 k1 (.bool _)
        · exact vb.1 σ1 _ ps1 s1 _ (he1.1 rfl) O1 fun d σ2 ps2 s2 u kk O2 k2 ru => q d σ2 ps2 s2 u kk O2 (k1.trans k2) ru
      · exact he1.elim
    · refine wpAny_isTrue_BoolOp (wpAny_allTrue_And_cons (va.2 σ _ ps s _ (tst he) O fun c σ1 ps1 s1 ⟨h1, h2⟩ O1 k1 => ?_))
      cases c
      · exact q _ σ1 ps1 s1 (h2 rfl) O1 k1
      · exact vb.2 σ1 _ ps1 s1 _ (h1 rfl) O1 fun c σ2 ps2 s2 kk O2 k2 => q c σ2 ps2 s2 kk O2 (k1.trans k2)

theorem snd_or {a b : ME} {ast : PySem.Expr} (F : Fit B SP K mg mb n cx C A) (ia : Snd B SP K mg mb a) (ib : Snd B SP K mg mb b) (h : mt (.or a b) cx (.inl ast) = true) : SndV B SP C A (.or a b) ast ∧ SndT B SP C A (.or a b) ast := by
  · replace h := onBoolOp_is h; obtain ⟨o, xs, p, rfl, h⟩ := h
    replace h := and_is h; obtain ⟨h1, h⟩ := h
    obtain rfl := isOr_is h1
    replace h := onCons_is h; obtain ⟨x, r, rfl, h⟩ := h
    replace h := onOne_is h; obtain ⟨y, rfl, h⟩ := h
    simp only [Bool.and_eq_true] at h
    have va := (ia n cx C A F).1 x h.1
    have vb := (ib n cx C A F).1 y h.2
    refine ⟨fun σ k ps s Q he O q => ?_, fun σ k ps s Q he O q => ?_⟩
    · refine wpAny_Or2 (va.1 σ _ ps s _ he O fun d σ1 ps1 s1 v he1 O1 k1 rv => ?_)
      split at he1
      · rename_i c
        cases rv
        refine wpAny_truthy_bool ?_
        cases c
        · exact vb.1 σ1 _ ps1 s1 _ (he1.2 rfl) O1 fun d σ2 ps2 s2 u kk O2 k2 ru => q d σ2 ps2 s2 u kk O2 (k1.trans k2) ru
        · exact q _ σ1 ps1 s1 _ (he1.1 rfl) O1 k1 (.bool _)
      · exact he1.elim
    · have he2 : E SP a σ fun d σ1 => ∃ c, d = .bool c ∧ ((c = false → E SP b σ1 fun d σ' => ∃ b, d = .bool b ∧ k b σ') ∧ (c = true → k true σ1)) := by
        have he' : E SP a σ (fun x σ1 => match x with | .bool c => Br c (∃ b, D.bool true = .bool b ∧ k b σ1) (E SP b σ1 fun d σ' => ∃ b, d = .bool b ∧ k b σ') | _ => False) := he
        have e : (fun (x : D) (σ1 : St) => match x with | .bool c => Br c (∃ b, D.bool true = .bool b ∧ k b σ1) (E SP b σ1 fun d σ' => ∃ b, d = .bool b ∧ k b σ') | _ => False) =
            fun d σ1 => ∃ c, d = .bool c ∧ ((c = false → E SP b σ1 fun d σ' => ∃ b, d = .bool b ∧ k b σ') ∧ (c = true → k true σ1)) := by
          funext d σ'
          cases d with
          | bool c => cases c <;> simp [Br]
          | _ => simp
        rw [e] at he'; exact he'
      refine wpAny_isTrue_BoolOp (wpAny_allTrue_Or_cons (va.2 σ _ ps s _ he2 O fun c σ1 ps1 s1 ⟨h1, h2⟩ O1 k1 => ?_))
      cases c
      · refine wpAny_allTrue_Or_cons (vb.2 σ1 _ ps1 s1 _ (h1 rfl) O1 fun c σ2 ps2 s2 kk O2 k2 => ?_)
        cases c
        · exact wpAny_allTrue_Or_nil (q _ σ2 ps2 s2 kk O2 (k1.trans k2))
        · exact q _ σ2 ps2 s2 kk O2 (k1.trans k2)
      · exact q _ σ1 ps1 s1 (h2 rfl) O1 k1

theorem snd_ife {t a b : ME} {ast : PySem.Expr} (F : Fit B SP K mg mb n cx C A) (it : Snd B SP K mg mb t) (ia : Snd B SP K mg mb a) (ib : Snd B SP K mg mb b) (h : mt (.ife t a b) cx (.inl ast) = true) :
    SndV B SP C A (.ife t a b) ast ∧ SndT B SP C A (.ife t a b) ast := by
  · replace h := onIfExp_is h; obtain ⟨t', a', b', p, rfl, h⟩ := h
    simp only [Bool.and_eq_true] at h
    have vt := (it n cx C A F).1 _ h.1.1
    have va := (ia n cx C A F).1 _ h.1.2
    have vb := (ib n cx C A F).1 _ h.2
    have tst : ∀ {σ : St} {k : D → St → Prop}, E SP (.ife t a b) σ k → E SP t σ fun d σ1 => ∃ c, d = .bool c ∧ ((c = true → E SP a σ1 k) ∧ (c = false → E SP b σ1 k)) := fun {σ k} he => by
      have he' : E SP t σ (fun x σ1 => match x with | .bool c => Br c (E SP a σ1 k) (E SP b σ1 k) | _ => False) := he
      have e : (fun (x : D) (σ1 : St) => match x with | .bool c => Br c (E SP a σ1 k) (E SP b σ1 k) | _ => False) =
          fun d σ1 => ∃ c, d = .bool c ∧ ((c = true → E SP a σ1 k) ∧ (c = false → E SP b σ1 k)) := by
        funext d σ'
        cases d <;> simp [Br]
      rw [e] at he'; exact he'
    refine ⟨fun σ k ps s Q he O q => ?_, fun σ k ps s Q he O q => ?_⟩
    · refine wpAny_IfExp (vt.2 σ _ ps s _ (tst he) O fun c σ1 ps1 s1 ⟨h1, h2⟩ O1 k1 => ?_)
      cases c
      · exact vb.1 σ1 _ ps1 s1 _ (h2 rfl) O1 fun d σ2 ps2 s2 u kk O2 k2 ru => q d σ2 ps2 s2 u kk O2 (k1.trans k2) ru
      · exact va.1 σ1 _ ps1 s1 _ (h1 rfl) O1 fun d σ2 ps2 s2 u kk O2 k2 ru => q d σ2 ps2 s2 u kk O2 (k1.trans k2) ru
    · refine isTrue_IfExp (vt.2 σ _ ps s _ (tst he) O fun c σ1 ps1 s1 ⟨h1, h2⟩ O1 k1 => ?_)
      cases c
      · exact vb.2 σ1 _ ps1 s1 _ (h2 rfl) O1 fun d σ2 ps2 s2 kk O2 k2 => q d σ2 ps2 s2 kk O2 (k1.trans k2)
      · exact va.2 σ1 _ ps1 s1 _ (h1 rfl) O1 fun d σ2 ps2 s2 kk O2 k2 => q d σ2 ps2 s2 kk O2 (k1.trans k2)
end Mine
end

section
set_option maxRecDepth 100000
open PySem PySem.W PyProof.Rows
namespace Mine
variable {B : Base} {SP : Spec} {K : Frag} {mg mb : Str → Option Value} {n : Nat} {cx : Cx} {C : FC} {A : Around}

/-- one object is made that nobody owns -/
theorem PostE.push {σ σ' : St} {ps ps' : Ps} {s s' : Shared} {k : D → St → Prop} {Q : Value → Shared → Prop} (q : PostE B C σ ps s k Q) (O : Ok B C σ' ps' s') (k1 : Kept [] ps s.heap ps' s'.heap) {d : D} {v : Value} (kd : k d σ') (o : Obj) {t : Nat}
    (r : Rv ps' (s'.heap.push o) d v) : Q v { s' with heap := s'.heap.push o, toks := t } :=
  q d σ' ps' { s' with heap := s'.heap.push o, toks := t } v kd (O.ext fun _ _ e => Heap.get?_push_of_some o e) (k1.trans ((ExtL.push _ o).weaken (by simp) |>.kept ps')) r

/-- a new owned object -/
theorem Ok.new {σ : St} {ps : Ps} {s : Shared} (H : Ok B C σ ps s) {p : Addr × Addr} {o : O} {h' : Heap} {t : Nat} (x : ∀ b o, s.heap.get? b = some o → h'.get? b = some o) (n1 : s.heap.get? p.1 = none) (n2 : s.heap.get? p.2 = none)
    (r : Ro B.prog B.w (ps ++ [p]) h' p o) : Ok B C (σ.new o) (ps ++ [p]) { s with heap := h', toks := t } ∧ Kept [] ps s.heap (ps ++ [p]) h' := by
  have k : ∀ L, Kept L ps s.heap (ps ++ [p]) h' := fun L => ⟨fun b o e => by rw [x b o e]; rfl, ⟨[p], rfl, fun q hq => by simp at hq; subst hq; exact ⟨n1, n2⟩⟩, fun b o e _ _ => x b o e⟩
  exact ⟨⟨H.rep.push x n1 n2 r, H.frm.keep (k []) H.rep.owns (noSeqs_nil _) (by simp), H.gens, H.os⟩, k _⟩

theorem line50 {n : Nat} (h : n ≤ 50) : n ≤ sizeLine := by rw [sizeLine_eq]; omega

theorem snd_tup {es : ME} {ast : PySem.Expr} (F : Fit B SP K mg mb n cx C A) (ie : Snd B SP K mg mb es) (h : mt (.tup es) cx (.inl ast) = true) :
    SndV B SP C A (.tup es) ast ∧ SndT B SP C A (.tup es) ast := by
  · replace h := onTuple_is h; obtain ⟨el, kk, p, rfl, h⟩ := h
    simp only [Bool.and_eq_true, decide_eq_true_eq] at h
    have vl := (ie n cx C A F).2 el h.2
    refine snd_const (fun σ k ps s Q he O q => ?_) fun _ => rfl
    refine Tuple_ (vl σ _ ps s _ p he O fun ds σ1 ps1 s1 vs he1 O1 k1 rvs hlen => ?_)
    exact wpAny_newTuple (q.push O1 k1 he1 _ (t := s1.toks) (.tup (Heap.get?_push_size _ rfl) (by simpa using rvs.push O1.rep _))) (line50 (by omega))

theorem snd_lst {es : ME} {ast : PySem.Expr} (F : Fit B SP K mg mb n cx C A) (ie : Snd B SP K mg mb es) (h : mt (.lst es) cx (.inl ast) = true) : SndV B SP C A (.lst es) ast ∧ SndT B SP C A (.lst es) ast := by
  · replace h := onList_is h; obtain ⟨el, p, rfl, h⟩ := h
    simp only [Bool.and_eq_true, decide_eq_true_eq] at h
    have vl := (ie n cx C A F).2 el h.2
    refine snd_const (fun σ k ps s Q he O q => ?_) fun _ => rfl
    refine List_ (vl σ _ ps s _ p he O fun ds σ1 ps1 s1 vs he1 O1 k1 rvs hlen => ?_)
    exact wpAny_newList (q.push O1 k1 he1 _ (t := s1.toks) (.lst (Heap.get?_push_size _ rfl) O1.rep.fresh (by simpa using rvs.push O1.rep _))) (line50 (by omega))

theorem snd_lstM {es : ME} {ast : PySem.Expr} (F : Fit B SP K mg mb n cx C A) (ie : Snd B SP K mg mb es) (h : mt (.lstM es) cx (.inl ast) = true) : SndV B SP C A (.lstM es) ast ∧ SndT B SP C A (.lstM es) ast := by
  · replace h := onList_is h; obtain ⟨el, p, rfl, h⟩ := h
    simp only [Bool.and_eq_true, decide_eq_true_eq] at h
    have vl := (ie n cx C A F).2 el h.2
    refine snd_const (fun σ k ps s Q he O q => ?_) fun _ => rfl
    refine List_ (vl σ _ ps s _ p he O fun ds σ1 ps1 s1 vs he1 O1 k1 rvs hlen => ?_)
    refine wpAny_newList ?_ (line50 (by omega))
    have kp : Kept [] ps1 s1.heap (ps1 ++ [(s1.heap.objs.size, s1.heap.objs.size)]) (s1.heap.push { cls := .type "list", data := .seq vs.toArray }) :=
      ⟨fun b o e => by rw [Heap.get?_push_of_some _ e]; rfl, ⟨[_], rfl, fun q hq => by simp at hq; subst hq; exact ⟨size_none _, size_none _⟩⟩, fun b o e _ _ => Heap.get?_push_of_some _ e⟩
    obtain ⟨O2, k2⟩ := O1.new (t := s1.toks) (p := (s1.heap.objs.size, s1.heap.objs.size)) (o := .lst ds) (h' := s1.heap.push { cls := .type "list", data := .seq vs.toArray }) (fun _ _ e => Heap.get?_push_of_some _ e) (size_none _) (size_none _)
      ⟨rfl, _, _, Heap.get?_push_size _ rfl, by simpa using rvs.mono kp O1.rep.owns (noSeqs_nil _)⟩
    have hp : (ps1 ++ [(s1.heap.objs.size, s1.heap.objs.size)])[σ1.st.length]? = some (s1.heap.objs.size, s1.heap.objs.size) := by
      rw [← O1.rep.len, List.getElem?_append_right (Nat.le_refl _)]; simp
    exact q _ _ _ _ _ he1 O2 (k1.trans k2) (.obj hp)

theorem snd_idx {a i : ME} {ast : PySem.Expr} (F : Fit B SP K mg mb n cx C A) (ia : Snd B SP K mg mb a) (ib : Snd B SP K mg mb i) (h : mt (.idx a i) cx (.inl ast) = true) : SndV B SP C A (.idx a i) ast ∧ SndT B SP C A (.idx a i) ast := by
  · replace h := onSubscript_is h; obtain ⟨v, sl, p, rfl, h⟩ := h
    simp only [Bool.and_eq_true] at h
    have va := ((ia n cx C A F).1 v h.1.2).1
    have vb := ((ib n cx C A F).1 sl h.2).1
    exact snd_const (fun σ k ps s Q he O q => Subscript_ (va σ _ ps s _ he O fun x σ1 ps1 s1 v he1 O1 k1 rv => vb σ1 _ ps1 s1 _ he1 O1 fun y σ2 ps2 s2 u he2 O2 k2 ru =>
      idxP_ok he2 O2 (rv.mono k2 O1.rep.owns (noSeqs_nil _)) ru (fun z s' r kz O' k' rz => q z σ2 ps2 s' r kz O' ((k1.trans k2).trans k') rz) h.1.1)) fun _ => rfl

theorem snd_part {lo : ME} {l : Option PySem.Expr} (F : Fit B SP K mg mb n cx C A) (h : (match l with | some l => mt lo cx (.inl l) | .none => isNoneE lo) = true) (ia : Snd B SP K mg mb lo)
    {σ : St} {k : D → St → Prop} {ps : Ps} {s : Shared} {Q : Value → Shared → Prop} (he : E SP lo σ k) (O : Ok B C σ ps s) (q : PostE B C σ ps s k Q) : WP B A (evalPart l C.env) Q s := by
  cases l with
  | some l => exact ((ia n cx C A F).1 l h).1 σ k ps s Q he O q
  | none =>
    obtain rfl := isNoneE_is h
    exact wpAny_pure (q _ _ _ _ _ he O (.refl ..) .none)

theorem snd_slc {a lo hi : ME} {ast : PySem.Expr} (F : Fit B SP K mg mb n cx C A) (ia : Snd B SP K mg mb a) (il : Snd B SP K mg mb lo) (iu : Snd B SP K mg mb hi) (h : mt (.slc a lo hi) cx (.inl ast) = true) :
    SndV B SP C A (.slc a lo hi) ast ∧ SndT B SP C A (.slc a lo hi) ast := by
  · replace h := onSubscript_is h; obtain ⟨v, s0, p, rfl, h⟩ := h
    replace h := onSlice_is h; obtain ⟨l, u, st, p2, rfl, h⟩ := h
    replace h := and_is h; obtain ⟨h1, h⟩ := h
    obtain rfl := Option.isNone_iff_eq_none.mp h1
    simp only [Bool.and_eq_true] at h
    have va := ((ia n cx C A F).1 v h.1.1).1
    refine snd_const (fun σ k ps s Q he O q => Subscript_ (va σ _ ps s _ he O fun x σ1 ps1 s1 v he1 O1 k1 rv => wpAny_Slice ?_)) fun _ => rfl
    refine snd_part F h.1.2 il he1 O1 fun y σ2 ps2 s2 lv he2 O2 k2 rl => ?_
    refine snd_part F h.2 iu he2 O2 fun z σ3 ps3 s3 uv he3 O3 k3 ru => ?_
    refine wpAny_pure ?_
    have rv' := (rv.mono k2 O1.rep.owns (noSeqs_nil _)).mono k3 O2.rep.owns (noSeqs_nil _)
    have rl' := rl.mono k3 O2.rep.owns (noSeqs_nil _)
    exact slcP_ok he3 O3 rv' rl' ru (fun z s' r kz O' k' rz => q z σ3 ps3 s' r kz O' (((k1.trans k2).trans k3).trans k') rz)

theorem base_plain {o : PySem.Expr} (h : noSuper o = true) (attr : Str) (env : Env) (whole : Sem Value) : attributeBase o attr env whole = whole := by
  unfold attributeBase
  split
  · cases h
  · rfl
theorem snd_att {o : ME} {c : Addr} {m : Nat} {ast : PySem.Expr} (F : Fit B SP K mg mb n cx C A) (io : Snd B SP K mg mb o) (h : mt (.att o c m) cx (.inl ast) = true) : SndV B SP C A (.att o c m) ast ∧ SndT B SP C A (.att o c m) ast := by
  · replace h := onAttribute_is h; obtain ⟨v, name, p, rfl, h⟩ := h
    simp only [Bool.and_eq_true, beq_iff_eq] at h
    obtain ⟨⟨⟨hn, ha⟩, hs⟩, hm⟩ := h
    obtain ⟨AF, h12⟩ := F.attrs c m ha
    have vo := ((io n cx C A F).1 v hm).1
    refine snd_const (fun σ k ps s Q he O q => Attribute_any_ (vo σ _ ps s _ he O fun d σ1 ps1 s1 v he1 O1 k1 rv => ?_) ?_) fun _ => rfl
    · split at he1
      · obtain ⟨kvs, hx, dd, hd, he1⟩ := he1
        cases rv with | obj hp =>
        rw [hn]
        exact getAttr_ok F.wd.X AF h12 O1 hp hx hd fun r rr => q _ σ1 ps1 { s1 with toks := s1.toks + 1 } r he1 (O1.tok _) k1 rr
      · exact he1.elim
    · show (attributeBase v name C.env (eval v C.env) >>= _) = _
      rw [base_plain hs]
end Mine
end

section
set_option maxRecDepth 100000
open PySem PySem.W PyProof.Rows
namespace Mine
variable {B : Base} {SP : Spec} {K : Frag} {mg mb : Str → Option Value} {n : Nat} {cx : Cx} {C : FC} {A : Around}

theorem plain_args (pos : Pos) (env : Env) {l : List PySem.Expr} (h : l.all noStar = true) : ((backTo pos (starEach l env)).any (fun x => x.1) || ([] : List (Option Str × Sem Value)).any fun x => x.1.isNone) = false := by
  rw [noStar_any pos env l h]; rfl

theorem call_of {f : Addr} (F : Fit B SP K mg mb n cx C A) (hm : cx.may f = true) {σ : St} {ps : Ps} {s : Shared} (O : Ok B C σ ps s) {ds : List D} {vs : List Value} (rv : Rvs ps s.heap ds vs) {k : D → St → Prop}
    (h : SP f ds σ.st fun d st' => k d ⟨σ.loc, st'⟩) {Q : Value → Shared → Prop} (q : PostE B C σ ps s k Q) : WP B A (call (.ref f) vs []) Q s := by
  refine wpAny_call ((F.may f hm).1 A F.ra ds vs σ.st _ ps s _ O.rep O.gens O.os rv h ?_)
  intro d st' ps' s' v kk R' g' o' kp rd
  exact q d ⟨σ.loc, st'⟩ ps' s' v kk ⟨R', O.frm.keep kp O.rep.owns (noSeqs_nil _) (by simp), g', o'⟩ (kp.weaken (by simp)) rd

theorem snd_call {f : Addr} {args : ME} {ast : PySem.Expr} (F : Fit B SP K mg mb n cx C A) (ie : Snd B SP K mg mb args) (h : mt (.call f args) cx (.inl ast) = true) : SndV B SP C A (.call f args) ast ∧ SndT B SP C A (.call f args) ast := by
  · replace h := onCallN_is h; obtain ⟨x, p, as, pos, rfl, h⟩ := h
    simp only [Bool.and_eq_true, beq_iff_eq, Bool.not_eq_true', decide_eq_true_eq] at h
    obtain ⟨⟨⟨⟨⟨hk, hg⟩, hm⟩, hd⟩, _⟩, ha⟩ := h
    rw [F.kind] at hk
    have vl := (ie n cx C A F).2 as ha
    refine snd_const (fun σ k ps s Q he O q => Call_Name rfl ?_) fun _ => rfl
    refine Calls.Name_function_global F.fkind hk (Calls.loadGlobal_global (mg := mg) (by rw [F.glo]; exact F.wd.g.keeps O.rep.base) (F.glob x f hg) ?_) hd
    refine callWith_of (P := K.In) (plain_args _ _ (mt_list ha)) (keeps_K (F.may f hm).2) (args_ok (mt_list ha) (vl σ _ ps s _ pos he O fun ds σ1 ps1 s1 vs he1 O1 k1 rvs hlen => ⟨F.wd.X.keeps O1.rep.base, ?_⟩))
    exact call_of F hm O1 rvs he1 fun d σ2 ps2 s2 v kk O2 k2 rv => q d σ2 ps2 s2 v kk O2 (k1.trans k2) rv

theorem hasSign_mem {a : Nat} {l : List Nat} (h : hasSign a l = true) : a ∈ l := by
  rw [hasSign_eq] at h; exact of_decide_eq_true h

theorem eval_Call_sub {f : PySem.Expr} (hf : isSub f = true) (as : List PySem.Expr) (pos : Pos) (env : Env) : eval (.Call f as [] pos) env = (do
    let __do_lift ← eval f env
    callWith pos __do_lift [] (backTo pos (starEach as env)) (backToKw pos (keywordEach [] env))) := by
  cases f <;> first | rfl | cases hf
theorem isTrue_Call_sub {f : PySem.Expr} (hf : isSub f = true) (as : List PySem.Expr) (pos : Pos) (env : Env) (w : Sem Value) : isTrue (.Call f as [] pos) env w = (do let v ← w; standAt pos; holding [v] (truthy v)) := by
  cases f <;> first | rfl | cases hf

theorem snd_callv {dl : List Addr} {fe args : ME} {ast : PySem.Expr} (F : Fit B SP K mg mb n cx C A) (ife : Snd B SP K mg mb fe) (ie : Snd B SP K mg mb args) (h : mt (.callv dl fe args) cx (.inl ast) = true) :
    SndV B SP C A (.callv dl fe args) ast ∧ SndT B SP C A (.callv dl fe args) ast := by
  · replace h := onCall0_is h; obtain ⟨f, as, pos, rfl, h⟩ := h
    simp only [Bool.and_eq_true, decide_eq_true_eq] at h
    obtain ⟨⟨⟨⟨hs, hdl⟩, _⟩, hf⟩, ha⟩ := h
    have vl := (ie n cx C A F).2 as ha
    have vf := ((ife n cx C A F).1 f hf).1
    refine snd_const (fun σ k ps s Q he O q => Call_ (vf σ _ ps s _ he O fun x σ0 ps0 s0 v he0 O0 k0 rv => ?_) (eval_Call_sub hs as pos _)) fun _ => isTrue_Call_sub hs as pos _ _
    split at he0
    · rename_i a
      obtain ⟨hin, he0⟩ := he0
      have hm : cx.may a = true := List.all_eq_true.mp hdl a (hasSign_mem hin)
      cases rv
      refine callWith_of (P := K.In) (plain_args _ _ (mt_list ha)) (keeps_K (F.may a hm).2) (args_ok (mt_list ha) (vl σ0 _ ps0 s0 _ pos he0 O0 fun ds σ1 ps1 s1 vs he1 O1 k1 rvs hlen => ⟨F.wd.X.keeps O1.rep.base, ?_⟩))
      exact call_of F hm O1 rvs he1 fun d σ2 ps2 s2 v kk O2 k2 rv => q d σ2 ps2 s2 v kk O2 ((k0.trans k1).trans k2) rv
    · exact he0.elim

theorem methCall {o : PySem.Expr} {name : Str} {apos pos : Pos} {args : List PySem.Expr} {env : Env} (hs : noSuper o = true) (hline : (apos.endLine == pos.line) = true) (hl : args.all noStar = true) (hlen : args.length < 20) {Q : Value → Shared → Prop} {s : Shared}
    (h : WP B A (eval o env) (fun ov s₁ => ∀ pl, WP B A (getMethod ov name pl) (fun fx s₂ => WP B A (callWith pos fx.1 fx.2 (backTo pos (starEach args env)) []) Q s₂) s₁) s) : WP B A (eval (.Call (.Attribute o name apos) args [] pos) env) Q s := by
  rw [arm_eval_Call, base_plain hs]
  have hform : methodCallForm (args.length + ([] : List Keyword).length) (backTo pos (starEach args env)) (backToKw pos (keywordEach [] env)) = true := by
    have e := noStar_any pos env args hl
    have e' : (backTo pos (starEach args env)).all (fun x => !x.1) = true := by
      rw [List.all_eq_not_any_not]; simpa using e
    show (((backTo pos (starEach args env)).all (fun x => !x.1) && _) && _) = true
    rw [e']
    exact decide_eq_true (show args.length + 0 + 0 < 30 by omega)
  have hpos : methodCallPos true o env apos pos = pure pos := by unfold methodCallPos; simp [hline]
  refine wpAny_bind (wpAny_mono h (fun ov s₁ h₁ => wpAny_bind (wpAny_standAt ?_)) fun _ _ x => x)
  unfold methodCall calleeOf
  rw [hform, hpos]
  refine wpAny_bind (wpAny_holding (wpAny_mono (h₁ _) (fun fx s₂ h₂ => ?_) fun _ _ x => x))
  exact wpAny_bind (wpAny_pure h₂)

theorem snd_meth {o args : ME} {c f : Addr} {m : Nat} {ast : PySem.Expr} (F : Fit B SP K mg mb n cx C A) (io : Snd B SP K mg mb o) (ie : Snd B SP K mg mb args) (h : mt (.meth o c m f args) cx (.inl ast) = true) :
    SndV B SP C A (.meth o c m f args) ast ∧ SndT B SP C A (.meth o c m f args) ast := by
  · replace h := onCallA_is h; obtain ⟨oe, name, ap, as, pos, rfl, h⟩ := h
    simp only [Bool.and_eq_true, beq_iff_eq, decide_eq_true_eq] at h
    obtain ⟨⟨⟨⟨⟨⟨⟨hline, hn⟩, hme⟩, hm⟩, hs⟩, hlen⟩, ho⟩, ha⟩ := h
    obtain ⟨MF, h12⟩ := F.meths c m f hme
    have vl := (ie n cx C A F).2 as ha
    have vo := ((io n cx C A F).1 oe ho).1
    refine snd_const (fun σ k ps s Q he O q => methCall hs (by simpa using hline) (mt_list ha) hlen (vo σ _ ps s _ he O fun x σ0 ps0 s0 v he0 O0 k0 rv pl => ?_)) fun _ => rfl
    split at he0
    · rename_i i
      obtain ⟨kvs, hx, hno, he0⟩ := he0
      cases rv with | obj hp =>
      rw [hn]
      refine getMeth_ok F.wd.X MF h12 O0 hp hx hno ?_
      refine callWith_of (P := K.In) (plain_args _ _ (mt_list ha)) (keeps_K (F.may f hm).2) (args_ok (mt_list ha) (vl σ0 _ ps0 s0 _ pos he0 O0 fun ds σ1 ps1 s1 vs he1 O1 k1 rvs hlen => ⟨F.wd.X.keeps O1.rep.base, ?_⟩))
      exact call_of F hm O1 (.cons ((Rv.obj hp).mono k1 O0.rep.owns (noSeqs_nil _)) rvs) he1 fun d σ2 ps2 s2 v kk O2 k2 rv => q d σ2 ps2 s2 v kk O2 ((k0.trans k1).trans k2) rv
    · exact he0.elim

theorem snd_sm {m : SM} {o args : ME} {ast : PySem.Expr} (F : Fit B SP K mg mb n cx C A) (io : Snd B SP K mg mb o) (ie : Snd B SP K mg mb args) (h : mt (.sm m o args) cx (.inl ast) = true) : SndV B SP C A (.sm m o args) ast ∧ SndT B SP C A (.sm m o args) ast := by
  · replace h := onCallA_is h; obtain ⟨oe, name, ap, as, pos, rfl, h⟩ := h
    simp only [Bool.and_eq_true, beq_iff_eq, decide_eq_true_eq] at h
    obtain ⟨⟨⟨⟨⟨hline, hn⟩, hs⟩, hlen⟩, ho⟩, ha⟩ := h
    have vl := (ie n cx C A F).2 as ha
    have vo := ((io n cx C A F).1 oe ho).1
    refine snd_const (fun σ k ps s Q he O q => methCall hs (by simpa using hline) (mt_list ha) hlen (vo σ _ ps s _ he O fun x σ0 ps0 s0 v he0 O0 k0 rv pl => ?_)) fun _ => rfl
    obtain ⟨hk, he0⟩ := he0
    rw [hn]
    refine smK_ok hk O0 rv ?_
    refine Calls.callWith_builtin (noStar_any _ _ _ (mt_list ha)) (args_ok (mt_list ha) (vl σ0 _ ps0 s0 _ pos he0 O0 fun ds σ1 ps1 s1 vs he1 O1 k1 rvs hlen => ?_))
    refine smP_ok he1 O1 F.ra.ar F.wd.M (rv.mono k1 O0.rep.owns (noSeqs_nil _)) rvs ?_
    intro d st' s2 v kk O2 k2 rd
    exact q d _ ps1 s2 v kk O2 ((k0.trans k1).trans k2) rd

theorem snd_bi {b : BI} {a : ME} {ast : PySem.Expr} (F : Fit B SP K mg mb n cx C A) (ia : Snd B SP K mg mb a) (h : mt (.bi b a) cx (.inl ast) = true) : SndV B SP C A (.bi b a) ast ∧ SndT B SP C A (.bi b a) ast := by
  · replace h := onCallN_is h; obtain ⟨x, p, as0, pos, rfl, h⟩ := h
    replace h := onOne_is h; obtain ⟨arg, rfl, h⟩ := h
    simp only [Bool.and_eq_true, beq_iff_eq] at h
    obtain ⟨⟨⟨hk, hx⟩, hst⟩, ha⟩ := h
    rw [F.kind] at hk
    subst hx
    have va := ((ia n cx C A F).1 arg ha).1
    have hl : [arg].all noStar = true := by simp [hst]
    have vl : ∀ (σ : St) (k : D → St → Prop) (ps : Ps) (s : Shared) (Q : List Value → Shared → Prop), E SP a σ k → Ok B C σ ps s → (∀ d σ' ps' s' v, k d σ' → Ok B C σ' ps' s' → Kept [] ps s.heap ps' s'.heap → Rv ps' s'.heap d v → Q [v] s') →
        WP B A (spliced (backTo pos (starEach [arg] C.env))) Q s := fun σ k ps s Q he O q =>
      wpAny_items_cons (va σ _ ps s _ he O fun d σ1 ps1 s1 v he1 O1 k1 rv => wpAny_pure (q d σ1 ps1 s1 v he1 O1 k1 rv)) (noStar_each hst [] _)
    refine snd_const (fun σ k ps s Q he O q => Call_Name rfl ?_) fun _ => rfl
    have hd : (biName b == ("__debug__" : Str)) = false := by cases b <;> decide
    refine Calls.Name_function_global F.fkind hk (Calls.loadGlobal_builtin (mg := mg) (mb := mb) (by rw [F.glo]; exact F.wd.g.keeps O.rep.base) (F.wd.bi b).1 (by rw [F.bui]; exact F.wd.b.keeps O.rep.base) (F.wd.bi b).2 ?_) hd
    have fin : ∀ (Q' : List Value → Shared → Prop), (∀ v s', WP B A (call (biVal b) [v]) Q s' → Q' [v] s') → WP B A (spliced (backTo pos (starEach [arg] C.env))) Q' s := fun Q' hQ' =>
      vl σ _ ps s _ he O fun d σ1 ps1 s1 v he1 O1 k1 rv => hQ' v s1 (by
        have := biP_ok (Q := Q) he1 O1 F.ra.ar rv fun z s' r kz O' k' rz => q z σ1 ps1 s' r kz O' (k1.trans k') rz
        cases b <;> exact this)
    cases b
    · exact Calls.callWith_builtin (noStar_any _ _ _ hl) (args_ok hl (fin _ fun v s' x => x))
    · exact PyProof.Rows.callWith_type (noStar_any _ _ _ hl) (args_ok hl (fin _ fun v s' x => x))
    · exact Calls.callWith_builtin (noStar_any _ _ _ hl) (args_ok hl (fin _ fun v s' x => x))
end Mine
end

section
set_option maxRecDepth 100000
open PySem PySem.W PyProof.Rows
namespace Mine
variable {B : Base} {SP : Spec} {K : Frag} {mg mb : Str → Option Value} {n : Nat} {cx : Cx} {C : FC} {A : Around}

theorem RA.make {C' : Addr} {vals : List Value} (r : RA n A) (hs : A.units + 100 * n + 420 < cLine ∧ A.depth + 10 * n + 15 < recursionLimit) : RA n (A.under (.builtin "type.__call__" ⟨.ref C' :: vals, []⟩)) :=
  ⟨r.handled, by
    have e : (Code.builtin "type.__call__" { pos := Value.ref C' :: vals, kw := [] }).isGuard = false := by kernel_rfl
    have := r.guards
    simpa [Around.under, Code.guards, pushGuards, e] using this, by rw [PyProof.Rows.units_under_make]; omega, by rw [depth_under_make]; omega⟩

theorem snd_new {c init : Addr} {args : ME} {ast : PySem.Expr} (F : Fit B SP K mg mb n cx C A) (ie : Snd B SP K mg mb args) (h : mt (.new c init args) cx (.inl ast) = true) :
    SndV B SP C A (.new c init args) ast ∧ SndT B SP C A (.new c init args) ast := by
  · replace h := onCallN_is h; obtain ⟨x, p, as, pos, rfl, h⟩ := h
    simp only [Bool.and_eq_true, beq_iff_eq, Bool.not_eq_true', decide_eq_true_eq] at h
    obtain ⟨⟨⟨⟨⟨⟨hk, hg⟩, hc⟩, hm⟩, hd⟩, _⟩, ha⟩ := h
    rw [F.kind] at hk
    have CF := F.clss c init hc
    have vl := (ie n cx C A F).2 as ha
    refine snd_const (fun σ k ps s Q he O q => Call_Name rfl ?_) fun _ => rfl
    refine Calls.Name_function_global F.fkind hk (Calls.loadGlobal_global (mg := mg) (by rw [F.glo]; exact F.wd.g.keeps O.rep.base) (F.glob x c hg) ?_) hd
    refine callWith_of (P := K.In) (plain_args _ _ (mt_list ha)) (keeps_K CF.keep) (args_ok (mt_list ha) (vl σ _ ps s _ pos he O fun ds σ1 ps1 s1 vs he1 O1 k1 rvs hlen => ⟨F.wd.X.keeps O1.rep.base, ?_⟩))
    have X1 := F.wd.X.keeps O1.rep.base
    dsimp only at he1
    obtain ⟨⟨hh, g, dr, t, os⟩, rfl⟩ : ∃ s', s1 = s' := ⟨_, rfl⟩
    refine wpAny_call ?_
    refine make_core (makes_of X1 CF.make) (looks_findIn X1 CF.ini) (fun self => bind_fn X1 self CF.fn) (.inl rfl) ?_
    dsimp only at *
    have x2 : ∀ b o, hh.get? b = some o → ((hh.push emptyDict).push (instObj c hh.objs.size)).get? b = some o := fun b o e => Heap.get?_push_of_some _ (Heap.get?_push_of_some _ e)
    have n1 : hh.get? (hh.objs.size + 1) = none := by
      unfold Heap.get?
      rw [Array.getElem?_eq_none (Nat.le_succ _)]
    have s1' : (hh.push emptyDict).objs.size = hh.objs.size + 1 := by simp [Heap.push]
    have g1 : ((hh.push emptyDict).push (instObj c hh.objs.size)).get? (hh.objs.size + 1) = some (instObj c hh.objs.size) := by rw [← s1']; exact Heap.get?_push_size _ rfl
    have g2 : ((hh.push emptyDict).push (instObj c hh.objs.size)).get? hh.objs.size = some emptyDict := Heap.get?_push_of_some _ (Heap.get?_push_size _ rfl)
    obtain ⟨O2, k2⟩ := O1.new (t := t) (p := (hh.objs.size + 1, hh.objs.size)) (o := .ins c []) (h' := (hh.push emptyDict).push (instObj c hh.objs.size)) x2 n1 (size_none _)
      ⟨g1, [], _, g2, .nil, by simp⟩
    have kn : Kept [] ps1 hh (ps1 ++ [(hh.objs.size + 1, hh.objs.size)]) ((hh.push emptyDict).push (instObj c hh.objs.size)) :=
      ⟨fun b o e => by rw [x2 b o e]; rfl, ⟨[_], rfl, fun q hq => by simp at hq; subst hq; exact ⟨n1, size_none _⟩⟩, fun b o e _ _ => x2 b o e⟩
    have hp : (ps1 ++ [(hh.objs.size + 1, hh.objs.size)])[σ1.st.length]? = some (hh.objs.size + 1, hh.objs.size) := by
      rw [← O1.rep.len, List.getElem?_append_right (Nat.le_refl _)]; simp
    refine (F.may init hm).1 _ (F.ra.make F.slack) (.obj σ1.st.length :: ds) _ _ _ _ _ _ O2.rep O2.gens O2.os (.cons (.obj hp) (rvs.mono kn O1.rep.owns (noSeqs_nil _))) he1 ?_
    intro d st' ps' s' v kk R' g' o' kp rd
    split at kk
    · cases rd
      refine ⟨rfl, q _ _ ps' s' _ kk ⟨R', O2.frm.keep kp O2.rep.owns (noSeqs_nil _) (by simp), g', o'⟩ ((k1.trans k2).trans (kp.weaken (by simp))) ((Rv.obj hp).mono kp O2.rep.owns (noSeqs_nil _))⟩
    · exact kk.elim

theorem pairs_are (F : Fit B SP K mg mb n cx C A) (pos : Pos) : ∀ (kvs : List (List Nat × Addr)) (keys : List (Option PySem.Expr)) (values : List PySem.Expr), dctAre cx kvs keys values = true →
    (keys.all fun x => x.isSome) = true ∧ keys.length = values.length ∧ keys.length = kvs.length ∧
    ∀ (s : Shared) (Q : List (Value × Value) → Shared → Prop), (∀ b o, B.h₀.get? b = some o → s.heap.get? b = some o) →
      (∀ vs q t, Carries (PySem.strKind B.prog B.w) vs q → (∀ ps h, Rks ps h (stas kvs) q) → vs.length = kvs.length → Q vs { s with toks := t }) →
      WP B A (evalPairs (pairTrees keys values C.env pos)) Q s := by
  intro kvs
  induction kvs with
  | nil =>
    intro keys values h
    obtain ⟨h1, h2⟩ := and_is h
    obtain rfl := isEmpty_is h1
    obtain rfl := isEmpty_is h2
    exact ⟨rfl, rfl, rfl, fun s Q hb q => evalPairs_nil (q [] [] s.toks trivial (fun _ _ => .nil) rfl)⟩
  | cons ka r ih =>
    intro keys values h
    obtain ⟨k, a⟩ := ka
    replace h := onCons_is h; obtain ⟨k0, ks, rfl, h⟩ := h
    replace h := onCons_is h; obtain ⟨v0, vs, rfl, h⟩ := h
    replace h := and_is h; obtain ⟨h, hr⟩ := h
    replace h := and_is h; obtain ⟨hx, h⟩ := h
    cases k0 with
    | none => cases hx
    | some e0 =>
      replace hx := onConstant_is hx; obtain ⟨c0, tt, p, rfl, hx⟩ := hx
      replace hx := onCstr_is hx; obtain ⟨x, rfl, hx⟩ := hx
      replace h := onName_is h; obtain ⟨y, p2, rfl, h⟩ := h
      rw [beq_iff_eq] at hx
      simp only [Bool.and_eq_true, beq_iff_eq, Bool.not_eq_true'] at h
      obtain ⟨⟨hk, hg⟩, hd⟩ := h
      obtain ⟨i1, i2, i3, i4⟩ := ih ks vs hr
      rw [F.kind] at hk
      refine ⟨by simpa using i1, by simp [i2], by simp [i3], fun s Q hb q => ?_⟩
      refine evalPairs_cons (wpAny_Constant_str (wpAny_bind (Calls.Name_function_global F.fkind hk (Calls.loadGlobal_global (mg := mg) (by rw [F.glo]; exact F.wd.g.keeps hb) (F.glob y a hg) ?_) hd)))
      refine wpAny_bind (wpAny_standAt (wpAny_pure ?_))
      refine i4 _ _ hb fun vs' q' t hc hrk hl => ?_
      subst hx
      exact q _ ((S k, .ref a) :: q') t ⟨is_str k _, rfl, hc⟩ (fun ps h => .cons (.sta a) (hrk ps h)) (by simp [hl])

theorem snd_dct {kvs : List (List Nat × Addr)} {ast : PySem.Expr} (F : Fit B SP K mg mb n cx C A) (h : mt (.dct kvs) cx (.inl ast) = true) : SndV B SP C A (.dct kvs) ast ∧ SndT B SP C A (.dct kvs) ast := by
  · replace h := onDict_is h; obtain ⟨keys, values, p, rfl, h⟩ := h
    simp only [Bool.and_eq_true, decide_eq_true_eq] at h
    obtain ⟨⟨hd, _⟩, h15⟩ := h
    obtain ⟨h1, h2, h3, h4⟩ := pairs_are F p kvs keys values hd
    refine snd_const (fun σ k ps s Q he O q => ?_) fun _ => rfl
    have fin : ∀ (h' : Heap) (t : Nat) (qq : List (Str × Value)), h'.DictOf (PySem.strKind B.prog B.w) s.heap.objs.size (merged [] qq) → (∀ b o, s.heap.get? b = some o → h'.get? b = some o) → (∀ ps h, Rks ps h (stas kvs) qq) → Q (.ref s.heap.objs.size) { s with heap := h', toks := t } := by
      intro h' t qq hq x hr
      obtain ⟨O2, k2⟩ := O.new (t := t) (p := (s.heap.objs.size, s.heap.objs.size)) (o := .dct (putAllD [] (stas kvs) [])) (h' := h') x (size_none _) (size_none _)
        ⟨rfl, _, hq, (hr _ _).putAll .nil (by simp)⟩
      have hp : (ps ++ [(s.heap.objs.size, s.heap.objs.size)])[σ.st.length]? = some (s.heap.objs.size, s.heap.objs.size) := by
        rw [← O.rep.len, List.getElem?_append_right (Nat.le_refl _)]; simp
      exact q _ _ _ { s with heap := h', toks := t } _ he O2 k2 (.obj hp)
    by_cases hn : keys = []
    · subst hn
      have hv : values = [] := List.length_eq_zero_iff.mp h2.symm
      have hkv : kvs = [] := List.length_eq_zero_iff.mp h3.symm
      subst hv; subst hkv
      exact wpAny_Dict_empty (fin _ s.toks [] (Heap.DictOf.new _) (fun _ _ e => Heap.get?_push_of_some _ e) fun _ _ => .nil)
    · refine wpAny_Dict_walk (knd := PySem.strKind B.prog B.w) h1 h2 hn (by omega) ?_
      refine h4 _ _ (fun b o e => Heap.get?_push_of_some _ (O.rep.base b o e)) fun vs qq t hc hr hl => ?_
      refine ⟨qq, hc, Heap.DictOf.new _, fun h' hq hs => fin h' _ qq hq (fun b o e => ?_) hr⟩
      rw [hs.2 b (fun z => by rw [z, size_none] at e; cases e)]
      exact Heap.get?_push_of_some _ e
end Mine
end

section
set_option maxRecDepth 100000
open PySem PySem.W PyProof.Rows
namespace Mine
variable {B : Base} {A : Around}

/-- an iterator over `all` -/
structure It (B : Base) (A : Around) (it : Addr) (ok : List O → Prop) (all : List D) (I : Nat → Ps → Heap → Prop) : Prop where
  keep : ∀ j L ps h ps' h', I j ps h → KeptW L ps h ps' h' → Owns ps h → NoSeqs L h → it ∉ L → (∀ p ∈ ps, it ≠ p.1 ∧ it ≠ p.2) → I j ps' h'
  next : ∀ j d ps (s : Shared) st, I j ps s.heap → all[j]? = some d → Rep B ps s.heap st → ok st → (∀ p ∈ ps, it ≠ p.1 ∧ it ≠ p.2) → ∀ Q : Option Value → Shared → Prop,
    (∀ v h' t, Rv ps h' d v → I (j + 1) ps h' → (∀ b o, b ≠ it → s.heap.get? b = some o → h'.get? b = some o) → Q (some v) { s with heap := h', toks := t }) → WP B A (pyNext (.ref it)) Q s
  stop : ∀ j ps (s : Shared) st, I j ps s.heap → all[j]? = none → Rep B ps s.heap st → ok st → (∀ p ∈ ps, it ≠ p.1 ∧ it ≠ p.2) → ∀ Q : Option Value → Shared → Prop,
    (∀ h' t, (∀ b o, b ≠ it → s.heap.get? b = some o → h'.get? b = some o) → Q none { s with heap := h', toks := t }) → WP B A (pyNext (.ref it)) Q s
  live : ∀ j ps h, I j ps h → ∃ o, h.get? it = some o ∧ ¬ isSeq o
  self : ∀ j ps (s : Shared), I j ps s.heap → ∀ Q : Value → Shared → Prop, Q (.ref it) s → WP B A (pyIter (.ref it)) Q s

theorem kw_but {it : Addr} {h h' : Heap} (ps : Ps) (x : ∀ b o, b ≠ it → h.get? b = some o → h'.get? b = some o) : KeptW [it] ps h ps h' := ⟨⟨[], by simp, by simp⟩, fun b o e n _ => x b o (by simpa using n) e⟩
theorem noSeqs_it {it : Addr} {h : Heap} (hc : ∀ o, h.get? it = some o → ¬ isSeq o) : NoSeqs [it] h := fun b hb o e => by simp at hb; subst hb; exact hc o e

theorem it_range {n : Nat} {it : Addr} (hh : A.handled = none) : It B A it (fun _ => True) ((List.range n).map fun (j : Nat) => .int j) (fun j _ h => IsRangeIter h it (j : Int) ((n : Int) - j) 1) := by
  refine ⟨fun j L ps h ps' h' i k ow ns hn ap => k.keep _ _ i hn ap, fun j d ps s st i e R _ ap Q q => ?_, fun j ps s st i e R _ ap Q q => ?_, fun j ps h i => ⟨_, i, fun ⟨vs, n, hs⟩ => by cases hs⟩, fun j ps s i Q q => wpAny_pyIter_rangeiter i q⟩
  · have hj : j < n := by
      have := (List.getElem?_eq_some_iff.mp e).1
      simpa using this
    have hd : d = .int j := by
      rw [List.getElem?_map, List.getElem?_range hj] at e
      simpa using e.symm
    subst hd
    refine wpAny_pyNext_range_item i (by omega) fun h' i' sb => q _ h' _ (.int _ _) ?_ (fun b o n e => by rw [sb.2 b n]; exact e)
    have e1 : ((j + 1 : Nat) : Int) = (j : Int) + 1 := by omega
    have e2 : (n : Int) - ((j + 1 : Nat) : Int) = (n : Int) - j - 1 := by omega
    show IsRangeIter h' it ((j + 1 : Nat) : Int) ((n : Int) - ((j + 1 : Nat) : Int)) 1
    rw [e2, e1]; exact i'
  · have hj : n ≤ j := by
      rw [List.getElem?_eq_none_iff] at e
      simpa using e
    exact wpAny_pyNext_range_end hh i (by omega) fun h' x => q h' _ fun b o n e => x b o n e

theorem it_ascii {l : List Nat} {t : Tok} {it : Addr} (hh : A.handled = none) : It B A it (fun _ => True) (l.map fun c => .str [c]) (fun j _ h => h.IsStrIter it "str_ascii_iterator" (S l) t j) := by
  refine ⟨fun j L ps h ps' h' i k ow ns hn ap => ?_, fun j d ps s st i e R _ ap Q q => ?_, fun j ps s st i e R _ ap Q q => ?_, fun j ps h i => by obtain ⟨o, e, _, hd⟩ := i; exact ⟨o, e, fun ⟨vs, n, hs⟩ => by rw [hs] at hd; cases hd⟩, fun j ps s i Q q => (Walks.strAscii hh it (S l) t).self j s Q _ i q⟩
  · obtain ⟨o, e, r⟩ := i
    exact ⟨o, k.keep _ _ e hn ap, r⟩
  · rw [List.getElem?_map] at e
    cases hc : l[j]? with
    | none => rw [hc] at e; cases e
    | some c =>
      rw [hc] at e
      have hd : d = .str [c] := by simpa using e.symm
      subst hd
      exact wpAny_pyNext_ascii_item i (by simpa [S] using hc) fun h' i' sb => q _ h' _ (.str [c] _) i' (fun b o n e => by rw [sb.2 b n]; exact e)
  · rw [List.getElem?_map] at e
    have hc : l[j]? = none := by simpa using e
    exact wpAny_pyNext_ascii_end hh i (by simpa [S] using hc) fun h' x => q h' _ fun b o n e => x b o n e
theorem it_wide {l : List Nat} {t : Tok} {it : Addr} (hh : A.handled = none) : It B A it (fun _ => True) (l.map fun c => .str [c]) (fun j _ h => h.IsStrIter it "str_iterator" (S l) t j) := by
  refine ⟨fun j L ps h ps' h' i k ow ns hn ap => ?_, fun j d ps s st i e R _ ap Q q => ?_, fun j ps s st i e R _ ap Q q => ?_, fun j ps h i => by obtain ⟨o, e, _, hd⟩ := i; exact ⟨o, e, fun ⟨vs, n, hs⟩ => by rw [hs] at hd; cases hd⟩, fun j ps s i Q q => (Walks.strWide hh it (S l) t).self j s Q _ i q⟩
  · obtain ⟨o, e, r⟩ := i
    exact ⟨o, k.keep _ _ e hn ap, r⟩
  · rw [List.getElem?_map] at e
    cases hc : l[j]? with
    | none => rw [hc] at e; cases e
    | some c =>
      rw [hc] at e
      have hd : d = .str [c] := by simpa using e.symm
      subst hd
      exact wpAny_pyNext_wide_item i (by simpa [S] using hc) fun h' i' sb => q _ h' _ (.str [c] _) i' (fun b o n e => by rw [sb.2 b n]; exact e)
  · rw [List.getElem?_map] at e
    have hc : l[j]? = none := by simpa using e
    exact wpAny_pyNext_wide_end hh i (by simpa [S] using hc) fun h' x => q h' _ fun b o n e => x b o n e

theorem listIter_seq {h : Heap} {it a : Addr} {j : Nat} (i : h.IsListIter it a j) : ∀ o, h.get? it = some o → ¬ isSeq o := fun o e ⟨vs, n, hs⟩ => by
  obtain ⟨o', e', _, hd⟩ := i
  rw [e] at e'; cases e'; rw [hs] at hd; cases hd

theorem it_lst {ds : List D} {it a : Addr} (hh : A.handled = none) : It B A it (fun _ => True) ds (fun j ps h => h.IsListIter it a j ∧ Rv ps h (.lst ds) (.ref a)) := by
  refine ⟨fun j L ps h ps' h' i k ow ns hn ap => ⟨?_, i.2.monoW k ow ns⟩, fun j d ps s st i e R _ ap Q q => ?_, fun j ps s st i e R _ ap Q q => ?_, fun j ps h i => by obtain ⟨o, e, _⟩ := id i.1; exact ⟨o, e, listIter_seq i.1 o e⟩, fun j ps s i Q q => wpAny_pyIter_listiter i.1 q⟩
  · obtain ⟨o, e, r⟩ := i.1
    exact ⟨o, k.keep _ _ e hn ap, r⟩
  · obtain ⟨i1, i2⟩ := i
    have hns : NoSeqs [it] s.heap := noSeqs_it (listIter_seq i1)
    obtain ⟨vs, n, e', ne, r⟩ : ∃ vs n, s.heap.get? a = some { cls := .type "list", data := .seq vs n } ∧ (∀ p ∈ ps, p.1 ≠ a) ∧ Rvs ps s.heap ds vs.toList := by
      cases i2 with | lst e' ne r => exact ⟨_, _, e', ne, r⟩
    obtain ⟨v, hv, rv⟩ := r.get e
    refine wpAny_pyNext_list_item i1 ⟨_, e', rfl, _, rfl⟩ (by simpa using hv) fun h' i' sb => ?_
    have x : ∀ b o, b ≠ it → s.heap.get? b = some o → h'.get? b = some o := fun b o n e => by rw [sb.2 b n]; exact e
    have k := kw_but ps x
    exact q v h' s.toks (rv.monoW k R.owns hns) ⟨i', i2.monoW k R.owns hns⟩ x
  · obtain ⟨i1, i2⟩ := i
    obtain ⟨vs, n, e', ne, r⟩ : ∃ vs n, s.heap.get? a = some { cls := .type "list", data := .seq vs n } ∧ (∀ p ∈ ps, p.1 ≠ a) ∧ Rvs ps s.heap ds vs.toList := by
      cases i2 with | lst e' ne r => exact ⟨_, _, e', ne, r⟩
    have hl := r.length
    refine wpAny_pyNext_list_end (items := vs) hh i1 ⟨_, e', rfl, _, rfl⟩ ?_ fun h' x => q h' s.toks fun b o n e => x b o n e
    rw [Array.getElem?_eq_none_iff, ← Array.length_toList, ← hl]
    exact List.getElem?_eq_none_iff.mp e

theorem it_obj {ds : List D} {it : Addr} {i : Nat} (hh : A.handled = none) : It B A it (fun st => st[i]? = some (.lst ds)) ds (fun j ps h => ∃ p, ps[i]? = some p ∧ h.IsListIter it p.1 j) := by
  refine ⟨fun j L ps h ps' h' ii k ow ns hn ap => ?_, fun j d ps s st ii e R hok ap Q q => ?_, fun j ps s st ii e R hok ap Q q => ?_, fun j ps h ii => by obtain ⟨p, _, hi⟩ := ii; obtain ⟨o, e, _⟩ := id hi; exact ⟨o, e, listIter_seq hi o e⟩, fun j ps s ii Q q => by obtain ⟨p, _, hi⟩ := ii; exact wpAny_pyIter_listiter hi q⟩
  · obtain ⟨p, hp, o, e, r⟩ := ii
    obtain ⟨qs, rfl, _⟩ := k.ext
    exact ⟨p, by rw [List.getElem?_append_left (List.getElem?_eq_some_iff.mp hp).1]; exact hp, o, k.keep _ _ e hn ap, r⟩
  · obtain ⟨p, hp, hi⟩ := ii
    obtain ⟨p', hp', _, vs, n, e', r⟩ := R.at' hok
    rw [hp] at hp'; cases hp'
    have hns : NoSeqs [it] s.heap := noSeqs_it (listIter_seq hi)
    obtain ⟨v, hv, rv⟩ := r.get e
    refine wpAny_pyNext_list_item hi ⟨_, e', rfl, _, rfl⟩ (by simpa using hv) fun h' i' sb => ?_
    have x : ∀ b o, b ≠ it → s.heap.get? b = some o → h'.get? b = some o := fun b o n e => by rw [sb.2 b n]; exact e
    exact q v h' s.toks (rv.monoW (kw_but ps x) R.owns hns) ⟨p, hp, i'⟩ x
  · obtain ⟨p, hp, hi⟩ := ii
    obtain ⟨p', hp', _, vs, n, e', r⟩ := R.at' hok
    rw [hp] at hp'; cases hp'
    have hl := r.length
    refine wpAny_pyNext_list_end (items := vs) hh hi ⟨_, e', rfl, _, rfl⟩ ?_ fun h' x => q h' s.toks fun b o n e => x b o n e
    rw [Array.getElem?_eq_none_iff, ← Array.length_toList, ← hl]
    exact List.getElem?_eq_none_iff.mp e
end Mine
end

section
set_option maxRecDepth 100000
open PySem PySem.W PyProof.Rows
namespace Mine
variable {B : Base} {SP : Spec} {K : Frag} {mg mb : Str → Option Value} {n : Nat} {cx : Cx} {C : FC} {A : Around}

theorem forIn_pre {x : Str} {c : Addr} (f : Str × NameKind → List (Str × Addr) → Sem (ForInStep (List (Str × Addr)))) (h1 : ∀ p cs, p.2 ≠ .free → f p cs = pure (.yield cs)) (h2 : ∀ cs, f (x, .free) cs = pure (.yield ((x, c) :: cs))) :
    ∀ (pre : List (Str × NameKind)) (cs : List (Str × Addr)), pre.all (fun p => p.2 != .free) = true → forIn (pre ++ [(x, NameKind.free)]) cs f = (pure ((x, c) :: cs) : Sem (List (Str × Addr)))
  | [], cs, _ => by
    show forIn [(x, NameKind.free)] cs f = _
    rw [List.forIn_cons, h2]; rfl
  | p :: r, cs, h => by
    simp only [List.all_cons, Bool.and_eq_true, bne_iff_ne, ne_eq] at h
    rw [List.cons_append, List.forIn_cons, h1 p cs h.1]
    exact forIn_pre f h1 h2 r cs h.2

theorem closure_one {env : Env} {scope : PySem.Scope} {x : Str} {c : Addr} {pre : List (Str × NameKind)} (hn : scope.names = pre ++ [(x, NameKind.free)]) (hp : pre.all (fun p => p.2 != .free) = true) (hc : env.cells.lookup x = some c) :
    closureFor scope env = pure [(x, c)] := by
  unfold closureFor
  dsimp only
  rw [hn, forIn_pre (x := x) (c := c) _ ?_ ?_ pre [] hp]
  · rfl
  · intro p cs hp
    obtain ⟨a, k⟩ := p
    cases k <;> first | rfl | exact absurd rfl hp
  · intro cs
    show (cellOf env x >>= _) = _
    unfold cellOf
    rw [hc]; rfl

/-- what the check of a comprehension's block tells -/
structure CompF (cx : Cx) (C : FC) (y : Str) (scope : PySem.Scope) (x : Str) (pre : List (Str × NameKind)) : Prop where
  knd : scope.kind = .function
  yl : scope.names.lookup y = some .local
  nocell : ∀ p ∈ scope.names, p.2 ≠ .cell
  locs : ∀ p ∈ scope.names, p.2 = .local → scope.names.lookup p.1 = some .local
  nms : scope.names = pre ++ [(x, NameKind.free)]
  prf : pre.all (fun p => p.2 != .free) = true
  xin : x ∈ cx.names
  xk : cx.kind x = some .cell
  y' : (cx.comp y scope).kind y = some .local
  tl : ∀ z ∈ (cx.comp y scope).names.tail, (cx.comp y scope).kind z ≠ some .local
  non : (cx.comp y scope).kind (Str.ofString "") = .none

theorem compF_of {y : Str} {scope : PySem.Scope} (h : compOk cx y scope = true) : ∃ x pre, CompF cx C y scope x pre := by
  simp only [compOk, Bool.and_eq_true, beq_iff_eq, List.all_eq_true, Bool.or_eq_true, Bool.not_eq_true', bne_iff_ne, ne_eq] at h
  obtain ⟨⟨⟨⟨⟨⟨h1, h2⟩, h3⟩, h4⟩, h5⟩, h6⟩, h7⟩ := h
  split at h4
  · rename_i x hl
    simp only [Bool.and_eq_true, beq_iff_eq, List.contains_iff_mem] at h4
    obtain ⟨pre, hpre⟩ := List.getLast?_eq_some_iff.mp hl
    refine ⟨x, pre, h1, h2, fun p hp => (h3 p hp).1, fun p hp hk => ?_, hpre, by simpa [hpre] using h4.2, h4.1.2, h4.1.1, h5, fun z hz e => ?_, h7⟩
    · rcases (h3 p hp).2 with z | z
      · exact absurd hk (by simpa using z)
      · exact z
    · have := h6 z hz
      rw [e] at this
      simp at this
  · cases h4

theorem comp_kind (F : Fit B SP K mg mb n cx C A) (y : Str) (scope : PySem.Scope) (cl : List (Str × Addr)) (L : Addr) (z : Str) : (cx.comp y scope).kind z = (compEnvC scope cl L C.env).kindOf z := by
  show List.lookup z _ = List.lookup z _
  congr 1
  refine List.map_congr_left fun p _ => ?_
  obtain ⟨a, k⟩ := p
  dsimp only
  rw [F.kind, F.fkind]
  simp

/-- the frame of the comprehension's block -/
noncomputable def cFC (C : FC) (y : Str) (scope : PySem.Scope) (cl : List (Str × Addr)) (L : Addr) : FC := ⟨compEnvC scope cl L C.env, y :: C.names.map (fun x => if x == y then (Str.ofString "") else x)⟩

theorem comp_fit (F : Fit B SP K mg mb n cx C A) (y : Str) {scope : PySem.Scope} (hk : scope.kind = .function) (cl : List (Str × Addr)) (L : Addr) : Fit B SP K mg mb n (cx.comp y scope) (cFC C y scope cl L) A :=
  ⟨F.wd, by simp [cFC, compEnvC, relabel, hk], by show y :: _ = y :: _; rw [F.names], fun z => comp_kind F y scope cl L z, F.glo, F.bui, F.ra, F.slack, F.glob, F.may, F.meths, F.attrs, F.clss⟩

theorem lookup_map_names {f : Str → NameKind → NameKind} {z : Str} : ∀ {l : List (Str × NameKind)}, (l.map fun (n, k) => (n, f n k)).lookup z = (l.lookup z).map (f z)
  | [] => rfl
  | (a, k) :: r => by
    simp only [List.map_cons, List.lookup_cons]
    split
    · rename_i e; rw [beq_iff_eq.mp e]; rfl
    · exact lookup_map_names

theorem comp_cell {y : Str} {scope : PySem.Scope} {x : Str} {pre : List (Str × NameKind)} (P : CompF cx C y scope x pre) {z : Str} (hz : (cx.comp y scope).kind z = some .cell) : z = x ∧ z ≠ y := by
  refine ⟨?_, fun e => by rw [e, P.y'] at hz; cases hz⟩
  have e : (cx.comp y scope).kind z = (scope.names.lookup z).map (fun k => if (k == .free && cx.kind z == some .cell) then .cell else k) := by
    rw [← lookup_map_names (f := fun n k => if (k == .free && cx.kind n == some .cell) then .cell else k)]
    show List.lookup z _ = List.lookup z _
    congr 1
    refine List.map_congr_left fun p _ => ?_
    obtain ⟨a, k⟩ := p
    dsimp only
    split <;> rfl
  rw [e] at hz
  cases hl : scope.names.lookup z with
  | none => rw [hl] at hz; cases hz
  | some k =>
    rw [hl] at hz
    have hm := mem_of_lookup hl
    have hk : k = .free := by
      by_cases q : k = .free
      · exact q
      · exfalso
        have : (some k : Option NameKind) = some .cell := by simpa [q] using hz
        exact P.nocell _ hm (Option.some.inj this)
    subst hk
    rw [P.nms] at hm
    rcases List.mem_append.mp hm with hm | hm
    · have := List.all_eq_true.mp P.prf _ hm
      simp at this
    · simp at hm; exact hm

/-- the block's frame holds -/
theorem comp_frm {ps : Ps} {h : Heap} {loc : List (Option D)} {y : Str} {scope : PySem.Scope} {x : Str} {pre : List (Str × NameKind)} (F : Fit B SP K mg mb n cx C A) (P : CompF cx C y scope x pre) {c : Addr} (hc : C.env.cells.lookup x = some c) (Fr : Frm B C ps h loc) {L : Addr} {m : Str → Option Value} (hm : h.Ns L m) (aL : (∀ p ∈ ps, p.1 ≠ L ∧ p.2 ≠ L) ∧ B.h₀.get? L = none)
    {od : Option D} (hd : ∀ d, od = some d → ∃ v, m y = some v ∧ Rv ps h d v) : Frm B (cFC C y scope [(x, c)] L) ps h (od :: loc) := by
  refine ⟨?_, ⟨m, hm, fun i z d hz hl hk => ?_⟩, fun i z hz hk => ?_, fun c' hc' => ?_, fun a ha => ?_⟩
  · show (_ :: _).length = (_ :: _).length
    simp [Fr.len]
  · cases i with
    | zero =>
      have hz' : y = z := by simpa [cFC] using hz
      have hl' : od = some d := by simpa using hl
      subst hz'; exact hd d hl'
    | succ i =>
      have hz' : (C.names.map (fun x => if x == y then (Str.ofString "") else x))[i]? = some z := by simpa [cFC] using hz
      refine absurd ((comp_kind F y scope [(x, c)] L z).trans hk) (P.tl z ?_)
      show z ∈ cx.names.map _
      rw [F.names]
      exact List.mem_of_getElem? hz'
  · have hk' := (comp_kind F y scope [(x, c)] L z).trans hk
    obtain ⟨rfl, hzy⟩ := comp_cell P hk'
    cases i with
    | zero => exact absurd (show z = y by simpa [cFC] using hz.symm) hzy
    | succ i =>
      have hz' : (C.names.map (fun x => if x == y then (Str.ofString "") else x))[i]? = some z := by simpa [cFC] using hz
      rw [List.getElem?_map] at hz'
      cases hn : C.names[i]? with
      | none => rw [hn] at hz'; cases hz'
      | some z0 =>
        rw [hn] at hz'
        have hz0 : z0 = z := by
          have : (if z0 == y then (Str.ofString "") else z0) = z := by simpa using hz'
          split at this
          · rw [← this, P.non] at hk'; cases hk'
          · exact this
        subst hz0
        obtain ⟨c0, v, hc0, hcell, hv⟩ := Fr.cell i z0 hn (by rw [← F.kind]; exact P.xk)
        rw [hc] at hc0; cases hc0
        exact ⟨c, v, by show List.lookup z0 [(z0, c)] = _; simp, hcell, fun d hl => hv d (by simpa using hl)⟩
  · have : c' = (x, c) := by simpa [cFC, compEnvC] using hc'
    subst this
    exact Fr.cells _ (mem_of_lookup hc)
  · have ha' : a = L ∨ a = c := by simpa [cFC, FC.L, compEnvC] using ha
    rcases ha' with rfl | rfl
    · exact aL
    · exact Fr.apart _ (List.mem_cons_of_mem _ (List.mem_map_of_mem (mem_of_lookup hc)))
end Mine
end

section
set_option maxRecDepth 100000
open PySem PySem.W PyProof.Rows
namespace Mine
variable {B : Base} {SP : Spec} {K : Frag} {mg mb : Str → Option Value} {n : Nat} {cx : Cx} {C : FC} {A : Around}

/-- where a comprehension's loop stands -/
structure CInv (B : Base) (C : FC) (loc : List (Option D)) (ps1 : Ps) (h1 : Heap) (it Lc : Addr) (k : Nat) (acc : Addr) (st : List O) (ps : Ps) (s : Shared) : Prop where
  ok : Ok B C ⟨loc, st⟩ ps s
  kept : Kept [] ps1 h1 ps s.heap
  acc : ps[k]? = some (acc, acc)
  lc : ∃ m, s.heap.Ns Lc m
  ap : ∀ a, (a = it ∨ a = Lc) → (∀ p ∈ ps, p.1 ≠ a ∧ p.2 ≠ a) ∧ B.h₀.get? a = none ∧ h1.get? a = none ∧ a ∉ C.L
  ne : it ≠ Lc

theorem Kept.but {L : List Addr} {ps1 ps : Ps} {h1 h h' : Heap} {a : Addr} (k : Kept L ps1 h1 ps h) (ha : h1.get? a = none) (x : ∀ b o, b ≠ a → h.get? b = some o → h'.get? b = some o) : Kept L ps1 h1 ps h' :=
  ⟨fun b o e => by
    obtain ⟨o', e'⟩ := Option.isSome_iff_exists.mp (k.live b o e)
    rw [x b o' (fun q => by rw [q, ha] at e; cases e) e']; rfl, k.ext, fun b o e n p => x b o (fun q => by rw [q, ha] at e; cases e) (k.keep b o e n p)⟩

/-- one address of nobody turned -/
theorem Ok.but {σ : St} {ps : Ps} {s : Shared} (H : Ok B C σ ps s) {a : Addr} {h' : Heap} {t : Nat} (x : ∀ b o, b ≠ a → s.heap.get? b = some o → h'.get? b = some o) (hs : ∀ o, s.heap.get? a = some o → ¬ isSeq o)
    (ap : (∀ p ∈ ps, p.1 ≠ a ∧ p.2 ≠ a) ∧ B.h₀.get? a = none) (hL : a ∉ C.L) : Ok B C σ ps { s with heap := h', toks := t } :=
  ⟨H.rep.extW (L := [a]) (fun b o e n => x b o (by simpa using n) e) (noSeqs_it hs) (fun b hb => by simp at hb; subst hb; exact ap),
   H.frm.keepW (kw_but ps x) H.rep.owns (noSeqs_it hs) (fun b hb hm => hL (by simp at hm; exact hm ▸ hb)), H.gens, H.os⟩

theorem ns_noseq {h : Heap} {L : Addr} {m : Str → Option Value} (hm : h.Ns L m) : ∀ o, h.get? L = some o → ¬ isSeq o := fun o e ⟨vs, n, hs⟩ => by
  obtain ⟨o', es, ep, e', hd, _⟩ := hm
  rw [e] at e'; cases e'; rw [hs] at hd; cases hd

theorem CInv.but {loc ps1 h1 it Lc k acc st ps} {s : Shared} (I : CInv B C loc ps1 h1 it Lc k acc st ps s) {a : Addr} (ha : a = it ∨ a = Lc) {h' : Heap} {t : Nat} (x : ∀ b o, b ≠ a → s.heap.get? b = some o → h'.get? b = some o) (hs : ∀ o, s.heap.get? a = some o → ¬ isSeq o) (hl : ∃ m, h'.Ns Lc m) :
    CInv B C loc ps1 h1 it Lc k acc st ps { s with heap := h', toks := t } :=
  ⟨I.ok.but x hs ⟨(I.ap a ha).1, (I.ap a ha).2.1⟩ (I.ap a ha).2.2.2, I.kept.but (I.ap a ha).2.2.1 x, I.acc, hl, I.ap, I.ne⟩

/-- the objects of the world were kept -/
theorem CInv.on {loc ps1 h1 it Lc k acc st ps} {s : Shared} (I : CInv B C loc ps1 h1 it Lc k acc st ps s) (lit : (s.heap.get? it).isSome = true) {st' : List O} {ps' : Ps} {s' : Shared} (R : Rep B ps' s'.heap st') (hg : s'.gens = #[]) (ho : s'.os = B.os) (kp : Kept [] ps s.heap ps' s'.heap) :
    CInv B C loc ps1 h1 it Lc k acc st' ps' s' := by
  obtain ⟨qs, rfl, hq⟩ := kp.ext
  obtain ⟨m, hm⟩ := I.lc
  have llc : (s.heap.get? Lc).isSome = true := by obtain ⟨o', es, ep, e', _⟩ := hm; rw [e']; rfl
  refine ⟨⟨R, I.ok.frm.keep kp I.ok.rep.owns (noSeqs_nil _) (by simp), hg, ho⟩, I.kept.trans kp, by rw [List.getElem?_append_left (List.getElem?_eq_some_iff.mp I.acc).1]; exact I.acc, ⟨m, ?_⟩, fun a ha => ⟨fun p hp => ?_, (I.ap a ha).2⟩, I.ne⟩
  · obtain ⟨o', es, ep, e', r⟩ := hm
    exact ⟨o', es, ep, kp.keep _ _ e' (by simp) fun p hp => ⟨((I.ap Lc (.inr rfl)).1 p hp).1.symm, ((I.ap Lc (.inr rfl)).1 p hp).2.symm⟩, r⟩
  · rcases List.mem_append.mp hp with hp | hp
    · exact (I.ap a ha).1 p hp
    · have l : (s.heap.get? a).isSome = true := by rcases ha with rfl | rfl <;> assumption
      refine ⟨fun q => ?_, fun q => ?_⟩
      · rw [← q, (hq p hp).1] at l; cases l
      · rw [← q, (hq p hp).2] at l; cases l

theorem tests_ok {ifs : List PySem.Expr} {t : ME} {cx' : Cx} {C' : FC} (hm : (match ifs with | [] => isTrueE t | c :: r => r.isEmpty && mt t cx' (.inl c)) = true)
    (it : ∀ c, ifs = [c] → SndT B SP C' A t c) {σ : St} {k : Bool → St → Prop} {ps : Ps} {s : Shared} {Q : Bool → Shared → Prop} (he : E SP t σ fun d σ' => ∃ b, d = .bool b ∧ k b σ') (O : Ok B C' σ ps s)
    (q : ∀ b σ' ps' s', k b σ' → Ok B C' σ' ps' s' → Kept [] ps s.heap ps' s'.heap → Q b s') :
    WP B A (forIn ifs true fun c r => if r = true then do let ok ← PySem.isTrue c C'.env (eval c C'.env); pure (ForInStep.yield ok) else pure (ForInStep.yield r)) Q s := by
  rcases ifs with _ | ⟨c, r⟩
  · obtain rfl := isTrueE_is hm
    obtain ⟨b, hb, kb⟩ := he
    cases hb
    exact wpAny_pure (q true σ ps s kb O (.refl ..))
  · replace hm := and_is hm; obtain ⟨h1, hm⟩ := hm
    obtain rfl := isEmpty_is h1
    have := it c rfl σ k ps s (fun b s' => Q b s') he O q
    rw [List.forIn_cons]
    refine wpAny_bind ?_
    rw [if_pos rfl]
    exact wpAny_bind (wpAny_mono this (fun b s' hb => wpAny_pure (by
      show WP B A (forIn [] b _) Q s'
      exact wpAny_pure hb)) fun _ _ x => x)

theorem comp_loop {y : Str} {py : Pos} {iter elt : PySem.Expr} {ifs : List PySem.Expr} {scope : PySem.Scope} {pos : Pos} {t e : ME} (F : Fit B SP K mg mb n cx C A) {x : Str} {pre : List (Str × NameKind)} (P : CompF cx C y scope x pre) {c : Addr} (hc : C.env.cells.lookup x = some c)
    (hm : (match ifs with | [] => isTrueE t | c :: r => r.isEmpty && mt t (cx.comp y scope) (.inl c)) = true) (hme : mt e (cx.comp y scope) (.inl elt) = true) (iht : Snd B SP K mg mb t) (ihe : Snd B SP K mg mb e)
    {loc : List (Option D)} {ps1 : Ps} {h1 : Heap} {it Lc : Addr} {k : Nat} {acc : Addr} {ok : List O → Prop} {all : List D} {IT : Nat → Ps → Heap → Prop} (W : It B A it ok all IT) {R : Result → Shared → Prop} {kk : List O → Prop}
    (fin : ∀ st ps s', kk st → CInv B C loc ps1 h1 it Lc k acc st ps s' → R (.ok .next) s') (hlen : all.length ≤ 1000)
    {st : List O} {ps : Ps} {s : Shared} (hi : IT 0 ps s.heap) (I : CInv B C loc ps1 h1 it Lc k acc st ps s) (he : compn ok (E SP t) (E SP e) loc k kk all st) :
    codeAny (model B.prog B.w) A (.compLoop (.ListComp elt [⟨.Name y py, iter, ifs, 0⟩] scope pos) 0 (.ref it) (.ref acc) (compEnvC scope [(x, c)] Lc C.env)) R s := by
  have F' := comp_fit F y P.knd [(x, c)] Lc
  have kl : (compEnvC scope [(x, c)] Lc C.env).kindOf y = some .local := (comp_kind F y scope [(x, c)] Lc y).symm.trans P.y'
  refine codeAny_compLoop_tests (fun m s => ∃ j st ps, m = all.length - j ∧ j ≤ all.length ∧ IT j ps s.heap ∧ CInv B C loc ps1 h1 it Lc k acc st ps s ∧ compn ok (E SP t) (E SP e) loc k kk (all.drop j) st) ?_ all.length ⟨0, st, ps, rfl, Nat.zero_le _, hi, I, he⟩
  rintro m s ⟨j, st, ps, rfl, hj, hi, I, he⟩
  have apI : ∀ p ∈ ps, it ≠ p.1 ∧ it ≠ p.2 := fun p hp => ⟨((I.ap it (.inl rfl)).1 p hp).1.symm, ((I.ap it (.inl rfl)).1 p hp).2.symm⟩
  have wk : ∀ {α : Type} {w : Sem α} {Q : α → Shared → Prop} {s : Shared} {E' : Value → Shared → Prop}, WP B A w Q s → wpAny (model B.prog B.w) A w Q E' s := fun h => wpAny_mono h (fun _ _ z => z) fun _ _ z => z.elim
  cases hd : all[j]? with
  | none =>
    have hdr : all.drop j = [] := List.drop_eq_nil_of_le (List.getElem?_eq_none_iff.mp hd)
    rw [hdr] at he
    refine wk (W.stop j ps s st hi hd I.ok.rep he.1 apI _ fun h' t x => ?_)
    obtain ⟨o, lo, ns⟩ := W.live j ps s.heap hi
    obtain ⟨m, hm⟩ := I.lc
    refine fin st ps _ he.2 (I.but (.inl rfl) x (fun o' e' => by rw [lo] at e'; cases e'; exact ns) ⟨m, ?_⟩)
    obtain ⟨o', es, ep, e', r⟩ := hm
    exact ⟨o', es, ep, x _ _ I.ne.symm e', r⟩
  | some d =>
    have hlt : j < all.length := (List.getElem?_eq_some_iff.mp hd).1
    have hdr : all.drop j = d :: all.drop (j + 1) := by
      rw [List.drop_eq_getElem_cons hlt, (List.getElem?_eq_some_iff.mp hd).2]
    rw [hdr] at he
    refine wk (W.next j d ps s st hi hd I.ok.rep he.1 apI _ fun v h' tk rv hi' xx => ?_)
    obtain ⟨o, lo, ns⟩ := W.live j ps s.heap hi
    obtain ⟨m, hmL⟩ := I.lc
    have hm' : h'.Ns Lc m := by
      obtain ⟨o', es, ep, e', r⟩ := hmL
      exact ⟨o', es, ep, xx _ _ I.ne.symm e', r⟩
    have I1 := I.but (t := tk) (.inl rfl) xx (fun o' e' => by rw [lo] at e'; cases e'; exact ns) ⟨m, hm'⟩
    refine wk (wpAny_assign_Name (wpAny_storeName_local (m := m) kl hm' (fun h2 hn2 sb2 => ?_) (by rw [show (compEnvC scope [(x, c)] Lc C.env).scope.kind = .function from F'.fkind]; rfl)))
    have x2 : ∀ b o, b ≠ Lc → h'.get? b = some o → h2.get? b = some o := fun b o n e => by rw [sb2.2 b n]; exact e
    have I2 := I1.but (t := tk + 1) (.inr rfl) x2 (ns_noseq hm') ⟨_, hn2⟩
    have kw2 := kw_but ps x2
    have rv2 : Rv ps h2 d v := rv.monoW kw2 I1.ok.rep.owns (noSeqs_it (ns_noseq hm'))
    have hi2 : IT (j + 1) ps h2 := W.keep _ _ _ _ _ _ hi' kw2 I1.ok.rep.owns (noSeqs_it (ns_noseq hm')) (by simpa using I.ne) apI
    have FR : Frm B (cFC C y scope [(x, c)] Lc) ps h2 (some d :: loc) :=
      comp_frm F P hc I2.ok.frm hn2 ⟨(I.ap Lc (.inr rfl)).1, (I.ap Lc (.inr rfl)).2.1⟩ fun d' e' => by
        cases e'; exact ⟨v, by simp, rv2⟩
    have O2 : Ok B (cFC C y scope [(x, c)] Lc) ⟨some d :: loc, st⟩ ps { s with heap := h2, toks := tk + 1 } := ⟨I2.ok.rep, FR, I2.ok.gens, I2.ok.os⟩
    have he2 := he.2
    have he2' : E SP t ⟨some d :: loc, st⟩ (fun dd σ1 => ∃ b, dd = .bool b ∧ Br b (E SP e ⟨some d :: loc, σ1.st⟩ fun x σ2 => ∃ acc, σ2.st[k]? = some (.lst acc) ∧ acc.length < line ∧ compn ok (E SP t) (E SP e) loc k kk (all.drop (j + 1)) (σ2.st.set k (.lst (acc ++ [x])))) (compn ok (E SP t) (E SP e) loc k kk (all.drop (j + 1)) σ1.st)) := by
      have e1 : (fun (dd : D) (σ1 : St) => match dd with
          | .bool c => Br c (E SP e ⟨some d :: loc, σ1.st⟩ fun x σ2 => ∃ acc, σ2.st[k]? = some (.lst acc) ∧ acc.length < line ∧ compn ok (E SP t) (E SP e) loc k kk (all.drop (j + 1)) (σ2.st.set k (.lst (acc ++ [x])))) (compn ok (E SP t) (E SP e) loc k kk (all.drop (j + 1)) σ1.st)
          | _ => False) = (fun dd σ1 => ∃ b, dd = .bool b ∧ Br b (E SP e ⟨some d :: loc, σ1.st⟩ fun x σ2 => ∃ acc, σ2.st[k]? = some (.lst acc) ∧ acc.length < line ∧ compn ok (E SP t) (E SP e) loc k kk (all.drop (j + 1)) (σ2.st.set k (.lst (acc ++ [x])))) (compn ok (E SP t) (E SP e) loc k kk (all.drop (j + 1)) σ1.st)) := by
        funext dd σ1
        cases dd <;> simp
      rw [← e1]; exact he2
    refine wk (tests_ok (C' := cFC C y scope [(x, c)] Lc) hm (fun c' hc' => ((iht n _ _ A F').1 c' (by subst hc'; exact hm)).2) he2' O2 fun b σ3 ps3 s3 kb O3 k3 => ?_)
    obtain ⟨o2, lo2, _⟩ := W.live (j + 1) ps h2 hi2
    have I3 := I2.on (by show (h2.get? it).isSome = true; rw [lo2]; rfl) O3.rep O3.gens O3.os k3
    have hi3 : IT (j + 1) ps3 s3.heap := W.keep _ _ _ _ _ _ hi2 k3.w I2.ok.rep.owns (noSeqs_nil _) (by simp) apI
    obtain ⟨kb1, kb2⟩ := kb
    split
    · rename_i hb
      subst hb
      have rv3 : Rv ps3 s3.heap d v := rv2.mono k3 I2.ok.rep.owns (noSeqs_nil _)
      obtain ⟨m3, hm3, hv3⟩ : ∃ m3, s3.heap.Ns Lc m3 ∧ m3 y = some v := by
        obtain ⟨o', es, ep, e', r⟩ := hn2
        refine ⟨_, ⟨o', es, ep, k3.keep _ _ e' (by simp) fun p hp => ⟨((I2.ap Lc (.inr rfl)).1 p hp).1.symm, ((I2.ap Lc (.inr rfl)).1 p hp).2.symm⟩, r⟩, by simp⟩
      have FR3 : Frm B (cFC C y scope [(x, c)] Lc) ps3 s3.heap (some d :: loc) :=
        comp_frm F P hc I3.ok.frm hm3 ⟨(I3.ap Lc (.inr rfl)).1, (I3.ap Lc (.inr rfl)).2.1⟩ fun d' e' => by
          cases e'; exact ⟨v, hv3, rv3⟩
      have O3' : Ok B (cFC C y scope [(x, c)] Lc) ⟨some d :: loc, σ3.st⟩ ps3 s3 := ⟨O3.rep, FR3, O3.gens, O3.os⟩
      refine wk (((ihe n _ _ A F').1 elt hme).1 _ _ ps3 s3 _ (kb1 rfl) O3' fun dx σ4 ps4 s4 vx h4 O4 k4 rx => ?_)
      obtain ⟨o3, lo3, _⟩ := W.live (j + 1) ps3 s3.heap hi3
      have I4 := I3.on (by rw [lo3]; rfl) O4.rep O4.gens O4.os k4
      have apI3 : ∀ p ∈ ps3, it ≠ p.1 ∧ it ≠ p.2 := fun p hp => ⟨((I3.ap it (.inl rfl)).1 p hp).1.symm, ((I3.ap it (.inl rfl)).1 p hp).2.symm⟩
      have hi4 : IT (j + 1) ps4 s4.heap := W.keep _ _ _ _ _ _ hi3 k4.w I3.ok.rep.owns (noSeqs_nil _) (by simp) apI3
      obtain ⟨xs, hxs, hxl, h4⟩ := h4
      refine wk (smP_ok (σ := ⟨loc, σ4.st⟩) (m := .append) (x := .obj k) (l := [dx]) (K := fun _ st' => compn ok (E SP t) (E SP e) loc k kk (all.drop (j + 1)) st') ⟨xs, hxs, hxl, h4⟩ I4.ok F.ra.ar F.wd.M (.obj I4.acc) (.cons rx .nil) fun d5 st5 s5 v5 h5 O5 k5 r5 => ?_)
      obtain ⟨o4, lo4, _⟩ := W.live (j + 1) ps4 s4.heap hi4
      have apI4 : ∀ p ∈ ps4, it ≠ p.1 ∧ it ≠ p.2 := fun p hp => ⟨((I4.ap it (.inl rfl)).1 p hp).1.symm, ((I4.ap it (.inl rfl)).1 p hp).2.symm⟩
      have I5 := I4.on (by rw [lo4]; rfl) O5.rep O5.gens O5.os k5
      have hi5 : IT (j + 1) ps4 s5.heap := W.keep _ _ _ _ _ _ hi4 k5.w I4.ok.rep.owns (noSeqs_nil _) (by simp) apI4
      exact ⟨_, by omega, j + 1, st5, ps4, rfl, hlt, hi5, I5, h5⟩
    · rename_i hb
      have hb' : b = false := by simpa using hb
      exact ⟨_, by omega, j + 1, σ3.st, ps3, rfl, hlt, hi3, I3, kb2 hb'⟩
end Mine
end

section
set_option maxRecDepth 100000
open PySem PySem.W PyProof.Rows
namespace Mine
variable {B : Base} {SP : Spec} {K : Frag} {mg mb : Str → Option Value} {n : Nat} {cx : Cx} {C : FC} {A : Around}

theorem fold_plain {i : PySem.Expr} (h : noSet i = true) (env : Env) (x : Value) : foldedSetIterable i env x = pure x := by
  cases i <;> first | rfl | cases h

/-- the call range(n) -/
theorem range_ok {x : Str} {p pos : Pos} {arg : PySem.Expr} {a : ME} (F : Fit B SP K mg mb n cx C A) (hk : cx.kind x = some .globalImplicit) (hx : x = Str.ofString "range") (hst : noStar arg = true) (ha : mt a cx (.inl arg) = true) (ia : Snd B SP K mg mb a)
    {σ : St} {k : D → St → Prop} {ps : Ps} {s : Shared} {Q : Value → Shared → Prop} (he : E SP a σ fun d σ1 => match d with | .int m => (0 ≤ m ∧ m ≤ 1000) ∧ k (.int m) σ1 | _ => False) (O : Ok B C σ ps s)
    (q : ∀ (m : Nat) σ' ps' s' r u v t, k (.int m) σ' → m ≤ 1000 → Ok B C σ' ps' s' → Kept [] ps s.heap ps' s'.heap → IsRange s'.heap r 0 m 1 u v t → Q (.ref r) s') : WP B A (eval (.Call (.Name x p) [arg] [] pos) C.env) Q s := by
  rw [F.kind] at hk
  subst hx
  have va := ((ia n cx C A F).1 arg ha).1
  have hl : [arg].all noStar = true := by simp [hst]
  have hd : (Str.ofString "range" == ("__debug__" : Str)) = false := by decide
  refine Call_Name rfl ?_
  refine Calls.Name_function_global F.fkind hk (Calls.loadGlobal_builtin (mg := mg) (mb := mb) (by rw [F.glo]; exact F.wd.g.keeps O.rep.base) F.wd.rg.1 (by rw [F.bui]; exact F.wd.b.keeps O.rep.base) F.wd.rg.2 ?_) hd
  refine PyProof.Rows.callWith_type (noStar_any _ _ _ hl) (args_ok hl ?_)
  refine wpAny_items_cons (va σ _ ps s _ he O fun d σ1 ps1 s1 v he1 O1 k1 rv => wpAny_pure ?_) (noStar_each hst [] _)
  split at he1
  · rename_i m
    obtain ⟨⟨h0, h1⟩, he1⟩ := he1
    cases rv with | int _ tt =>
    obtain ⟨m', rfl⟩ := Int.eq_ofNat_of_zero_le h0
    refine call_range_1 ?_
    have x1 : ∀ b o, s1.heap.get? b = some o → (s1.heap.push { cls := Value.type "range", data := Data.fields #[Value.int 0 s1.toks, Value.int m' tt, Value.int 1 (s1.toks + 1)] }).get? b = some o := fun b o e => Heap.get?_push_of_some _ e
    exact q m' σ1 ps1 { s1 with heap := s1.heap.push { cls := Value.type "range", data := Data.fields #[Value.int 0 s1.toks, Value.int m' tt, Value.int 1 (s1.toks + 1)] }, toks := s1.toks + 1 + 1 } _ _ _ _ he1 (by omega) (O1.ext x1) (k1.trans ((ExtL.nil x1).kept ps1)) (Heap.get?_push_size _ rfl)
  · exact he1.elim

/-- how the iterator of a comprehension comes to stand -/
structure IterIn (B : Base) (C : FC) (A : Around) (σ : St) (ps : Ps) (s0 : Heap) (ok : List O → Prop) (all : List D) (it : Addr) (IT : Nat → Ps → Heap → Prop) (s : Shared) : Prop where
  O : Ok B C σ ps s
  W : It B A it ok all IT
  at0 : IT 0 ps s.heap
  fresh : s0.get? it = none ∧ B.h₀.get? it = none ∧ (∀ p ∈ ps, p.1 ≠ it ∧ p.2 ≠ it) ∧ it ∉ C.L

theorem iter_new {σ : St} {ps : Ps} {s : Shared} (O : Ok B C σ ps s) (o : Obj) : Ok B C σ ps { s with heap := s.heap.push o } ∧ B.h₀.get? s.heap.objs.size = none ∧ (∀ p ∈ ps, p.1 ≠ s.heap.objs.size ∧ p.2 ≠ s.heap.objs.size) ∧ s.heap.objs.size ∉ C.L := by
  have fr := size_none s.heap
  refine ⟨O.ext fun _ _ e => Heap.get?_push_of_some _ e, ?_, fun p hp => ⟨fun q => ?_, fun q => ?_⟩, fun hm => ?_⟩
  · cases e : B.h₀.get? s.heap.objs.size with
    | none => rfl
    | some o => rw [O.rep.base _ _ e] at fr; cases fr
  · have l := (O.rep.live hp).1; rw [q, fr] at l; cases l
  · have l := (O.rep.live hp).2; rw [q, fr] at l; cases l
  · have l := O.frm.live _ hm; rw [fr] at l; cases l

theorem mt_comp_gen {rng : Bool} {itm t e : ME} {cx : Cx} {elt : PySem.Expr} {gens : List Comprehension} {scope : PySem.Scope} {pos : Pos} : mt (.comp rng itm t e) cx (.inl (.ListComp elt gens scope pos)) = onGen gens (fun y _ iter ifs => compOk cx y scope &&
        (match rng with
          | true => onCallN iter fun x as _ => onOne as fun n => cx.kind x == some .globalImplicit && x == (Str.ofString "range") && noStar n && mt itm cx (.inl n)
          | false => noSet iter && mt itm cx (.inl iter)) &&
        (match ifs with
          | [] => isTrueE t
          | c :: r => r.isEmpty && mt t (cx.comp y scope) (.inl c)) && mt e (cx.comp y scope) (.inl elt)) := rfl
theorem mt_comp_gens {rng : Bool} {itm t e : ME} {cx : Cx} {elt : PySem.Expr} {gens : List Comprehension} {scope : PySem.Scope} {pos : Pos} (h : mt (.comp rng itm t e) cx (.inl (.ListComp elt gens scope pos)) = true) : ∃ y py iter ifs, gens = [⟨.Name y py, iter, ifs, 0⟩] := by
  rw [mt_comp_gen] at h
  obtain ⟨y, p, iter, ifs, e, _⟩ := onGen_is h
  exact ⟨y, p, iter, ifs, e⟩
theorem comp_all {rng : Bool} {itm t e : ME} {y : Str} {py : Pos} {iter elt : PySem.Expr} {ifs : List PySem.Expr} {scope : PySem.Scope} {pos cpos : Pos} (F : Fit B SP K mg mb n cx C A)
    (h : mt (.comp rng itm t e) cx (.inl (.ListComp elt [⟨.Name y py, iter, ifs, 0⟩] scope pos)) = true) (ii : Snd B SP K mg mb itm) (iht : Snd B SP K mg mb t) (ihe : Snd B SP K mg mb e)
    {σ : St} {k : D → St → Prop} {ps : Ps} {s : Shared} {Q : Value → Shared → Prop} {use : Option (Value → Sem Unit)} (he : E SP (.comp rng itm t e) σ k) (H : Ok B C σ ps s)
    (fin : ∀ σ' ps' s' Lc a kk, k (.obj kk) σ' → Ok B C σ' ps' s' → Kept [] ps s.heap ps' s'.heap → ps'[kk]? = some (a, a) → (∃ m, s'.heap.Ns Lc m) → (∀ p ∈ ps', p.1 ≠ Lc ∧ p.2 ≠ Lc) → B.h₀.get? Lc = none → s.heap.get? Lc = none → Lc ∉ C.L →
      compPost (model B.prog B.w) A (fun _ _ => False) use Q (.ref a) Lc (.ok .next) s') :
    WP B A (comprehension (.ListComp elt [⟨.Name y py, iter, ifs, 0⟩] scope pos) scope C.env cpos (newList []) false (eval iter C.env) use) Q s := by
  rw [mt_comp_gen, onGen_mk] at h
  simp only [Bool.and_eq_true] at h
  obtain ⟨⟨⟨hc, hi⟩, hif⟩, hel⟩ := h
  obtain ⟨x, pre, P⟩ := compF_of (C := C) hc
  obtain ⟨c, hcx⟩ : ∃ c, C.env.cells.lookup x = some c := by
    have hx := P.xk
    rw [F.kind] at hx
    have hin := P.xin
    rw [F.names] at hin
    obtain ⟨i, hi⟩ := List.mem_iff_getElem?.mp hin
    obtain ⟨c, _, hc, _⟩ := H.frm.cell i x hi hx
    exact ⟨c, hc⟩
  have step : ∀ (all : List D) (ok : List O → Prop) (it : Addr) (IT : Nat → Ps → Heap → Prop) (σ1 : St) (ps1 : Ps) (s1 : Shared), IterIn B C A σ1 ps1 s.heap ok all it IT s1 → Kept [] ps s.heap ps1 s1.heap → all.length ≤ 1000 →
      (compn ok (E SP t) (E SP e) σ1.loc σ1.st.length (fun st' => k (.obj σ1.st.length) ⟨σ1.loc, st'⟩) all (σ1.st ++ [.lst []])) →
      WP B A (newList []) (fun acc s₃ => WP B A (newFunctionEnv scope C.env.globals [(x, c)] [] C.env.qual none .none (some C.env)) (fun cenv s₄ =>
        codeAny (model B.prog B.w) A (.compStart (.ListComp elt [⟨.Name y py, iter, ifs, 0⟩] scope pos) 0 (.ref it) acc { cenv with scope := relabel scope C.env }) (compPost (model B.prog B.w) A (fun _ _ => False) use Q acc cenv.locals) s₄) s₃) s1 := by
    intro all ok it IT σ1 ps1 s1 N k1 hl hcomp
    refine wpAny_newList ?_ (by rw [sizeLine_eq]; decide)
    obtain ⟨O2, k2⟩ := N.O.new (t := s1.toks) (p := (s1.heap.objs.size, s1.heap.objs.size)) (o := .lst []) (h' := s1.heap.push { cls := .type "list", data := .seq #[] }) (fun _ _ e => Heap.get?_push_of_some _ e) (size_none _) (size_none _)
      ⟨rfl, _, _, Heap.get?_push_size _ rfl, .nil⟩
    have hp : (ps1 ++ [(s1.heap.objs.size, s1.heap.objs.size)])[σ1.st.length]? = some (s1.heap.objs.size, s1.heap.objs.size) := by
      rw [← N.O.rep.len, List.getElem?_append_right (Nat.le_refl _)]; simp
    have itlt : (s1.heap.get? it).isSome = true := by obtain ⟨o, e, _⟩ := N.W.live _ _ _ N.at0; rw [e]; rfl
    have apI1 : ∀ p ∈ ps1, it ≠ p.1 ∧ it ≠ p.2 := fun p hp => ⟨(N.fresh.2.2.1 p hp).1.symm, (N.fresh.2.2.1 p hp).2.symm⟩
    have apI2 : ∀ p ∈ ps1 ++ [(s1.heap.objs.size, s1.heap.objs.size)], p.1 ≠ it ∧ p.2 ≠ it := fun p hp => by
      rcases List.mem_append.mp hp with hp | hp
      · exact N.fresh.2.2.1 p hp
      · simp at hp; subst hp
        have : s1.heap.objs.size ≠ it := fun q => by rw [← q, size_none] at itlt; cases itlt
        exact ⟨this, this⟩
    have i2 := N.W.keep _ _ _ _ _ _ N.at0 k2.w N.O.rep.owns (noSeqs_nil _) (by simp) apI1
    refine wpAny_newFunctionEnv P.nocell (by intro y hy; simp at hy) (fun h3 hn3 hs3 => ?_) P.knd
    dsimp only at *
    have lsz : (s1.heap.push { cls := .type "list", data := .seq #[] }).objs.size = s1.heap.objs.size + 1 := by rw [Heap.size_push]
    have n2 : (s1.heap.push { cls := .type "list", data := .seq #[] }).get? (s1.heap.push { cls := .type "list", data := .seq #[] }).objs.size = none := size_none _
    have x3 : ∀ b o, (s1.heap.push { cls := .type "list", data := .seq #[] }).get? b = some o → h3.get? b = some o := fun b o e => by
      rw [hs3.2 b (fun q => by rw [q, n2] at e; cases e)]
      exact Heap.get?_push_of_some _ e
    obtain ⟨_, b1, b2, b3⟩ := iter_new O2 emptyDict
    have hs0 : s.heap.get? (s1.heap.push { cls := .type "list", data := .seq #[] }).objs.size = none := by
      cases e : s.heap.get? (s1.heap.push { cls := .type "list", data := .seq #[] }).objs.size with
      | none => rfl
      | some o => have := (k1.trans k2).live _ _ e; rw [n2] at this; cases this
    have O3 := O2.ext (s' := { s1 with heap := h3, toks := s1.toks + ([] : List (Str × Value)).length }) x3
    have I : CInv B C σ1.loc ps s.heap it (s1.heap.push { cls := .type "list", data := .seq #[] }).objs.size σ1.st.length s1.heap.objs.size (σ1.st ++ [.lst []]) (ps1 ++ [(s1.heap.objs.size, s1.heap.objs.size)]) { s1 with heap := h3, toks := s1.toks + ([] : List (Str × Value)).length } := by
      refine ⟨O3, (k1.trans k2).trans ((ExtL.nil x3).kept _), hp, ⟨_, hn3⟩, fun a ha => ?_, fun q => ?_⟩
      · rcases ha with rfl | rfl
        · exact ⟨apI2, N.fresh.2.1, N.fresh.1, N.fresh.2.2.2⟩
        · exact ⟨b2, b1, hs0, b3⟩
      · have : ((s1.heap.push { cls := .type "list", data := .seq #[] }).get? it).isSome = true := by
          obtain ⟨o, e⟩ := Option.isSome_iff_exists.mp itlt
          rw [Heap.get?_push_of_some _ e]; rfl
        rw [q, n2] at this; cases this
    have i3 : IT 0 (ps1 ++ [(s1.heap.objs.size, s1.heap.objs.size)]) h3 := N.W.keep _ _ _ _ _ _ i2 ((ExtL.nil x3).kept _).w O2.rep.owns (noSeqs_nil _) (by simp) (fun p hp => ⟨(apI2 p hp).1.symm, (apI2 p hp).2.symm⟩)
    have loop := comp_loop (py := py) (iter := iter) (pos := pos) F P hcx hif hel iht ihe N.W (R := compPost (model B.prog B.w) A (fun _ _ => False) use Q (.ref s1.heap.objs.size) (s1.heap.push { cls := .type "list", data := .seq #[] }).objs.size)
      (fun st ps' s' hk I' => fin ⟨σ1.loc, st⟩ ps' s' _ _ _ hk I'.ok I'.kept I'.acc I'.lc (I'.ap _ (.inr rfl)).1 b1 hs0 b3) hl i3 I hcomp
    exact codeAny_compStart_list loop (wpAny_mono (N.W.self 0 _ _ i3 _ loop) (fun _ _ z => z) fun _ _ z => z.elim)
  have hnames : ∀ z : Str × NameKind, z ∈ scope.names → z.2 = .local → scope.names.lookup z.1 = some .local := P.locs
  cases rng
  · simp only [Bool.and_eq_true] at hi
    refine wpAny_comprehension_free (use := use) rfl (fold_plain hi.1 _) (closure_one P.nms P.prf hcx) P.knd hnames ?_
    refine ((ii n cx C A F).1 iter hi.2).1 σ _ ps s _ he H fun d σ1 ps1 s1 v he1 O1 k1 rv => ?_
    dsimp only at he1
    obtain ⟨ds, hit, hl, he1⟩ := he1
    have nf : s.heap.get? s1.heap.objs.size = none := by
      cases e : s.heap.get? s1.heap.objs.size with
      | none => rfl
      | some o => have := k1.live _ _ e; rw [size_none] at this; cases this
    cases d with
    | lst ds' =>
      have : ds' = ds := hit
      subst this
      obtain ⟨a, vs, n', hv, e', ne, r⟩ : ∃ a vs n', v = .ref a ∧ s1.heap.get? a = some { cls := .type "list", data := .seq vs n' } ∧ (∀ p ∈ ps1, p.1 ≠ a) ∧ Rvs ps1 s1.heap ds' vs.toList := by
        cases rv with | lst e' ne r => exact ⟨_, _, _, rfl, e', ne, r⟩
      subst hv
      refine wpAny_pyIter_list (items := vs) ⟨_, e', rfl, _, rfl⟩ ?_
      obtain ⟨O2, b1, b2, b3⟩ := iter_new O1 { cls := Value.type "list_iterator", data := Data.fields #[Value.ref a, Value.int 0 0] }
      exact step ds' (fun _ => True) _ _ σ1 ps1 { s1 with heap := s1.heap.push { cls := Value.type "list_iterator", data := Data.fields #[Value.ref a, Value.int 0 0] } }
        ⟨O2, it_lst F.ra.handled, ⟨⟨_, Heap.get?_push_size _ rfl, rfl, rfl⟩, rv.push O1.rep _⟩, nf, b1, b2, b3⟩ (k1.trans ((ExtL.push _ _).kept ps1)) hl (by
          have e1 : (fun st => itemsC st (D.lst ds') ds') = fun _ => True := by funext st; simp [itemsC]
          rw [e1] at he1; exact he1)
    | obj i =>
      have hit' : σ1.st[i]? = some (.lst ds) := hit
      cases rv with | obj hp =>
      obtain ⟨p', hp', _, vs, n', e', r⟩ := O1.rep.at' hit'
      rw [hp] at hp'; cases hp'
      refine wpAny_pyIter_list (items := vs) ⟨_, e', rfl, _, rfl⟩ ?_
      rename_i p _
      obtain ⟨O2, b1, b2, b3⟩ := iter_new O1 { cls := Value.type "list_iterator", data := Data.fields #[Value.ref p.1, Value.int 0 0] }
      exact step ds (fun st => st[i]? = some (.lst ds)) _ _ σ1 ps1 { s1 with heap := s1.heap.push { cls := Value.type "list_iterator", data := Data.fields #[Value.ref p.1, Value.int 0 0] } }
        ⟨O2, it_obj F.ra.handled, ⟨p, hp, ⟨_, Heap.get?_push_size _ rfl, rfl, rfl⟩⟩, nf, b1, b2, b3⟩ (k1.trans ((ExtL.push _ _).kept ps1)) hl he1
    | _ => exact hit.elim
  · dsimp only at hi
    · replace hi := onCallN_is hi; obtain ⟨x0, p0, as0, pos0, rfl, hi⟩ := hi
      replace hi := onOne_is hi; obtain ⟨n0, rfl, hi⟩ := hi
      simp only [Bool.and_eq_true, beq_iff_eq] at hi
      obtain ⟨⟨⟨hk, hx⟩, hst⟩, ha⟩ := hi
      refine wpAny_comprehension_free (use := use) rfl (fun _ => rfl) (closure_one P.nms P.prf hcx) P.knd hnames ?_
      refine range_ok (k := fun d σ1 => match d with | .int m => compn (fun _ => True) (E SP t) (E SP e) σ1.loc σ1.st.length (fun st' => k (.obj σ1.st.length) ⟨σ1.loc, st'⟩) ((List.range m.toNat).map fun (j : Nat) => .int j) (σ1.st ++ [.lst []]) | _ => False) F hk hx hst ha ii he H fun m σ1 ps1 s1 r u v tt he1 hm O1 k1 hr => ?_
      dsimp only at he1
      have nf : s.heap.get? s1.heap.objs.size = none := by
        cases e : s.heap.get? s1.heap.objs.size with
        | none => rfl
        | some o => have := k1.live _ _ e; rw [size_none] at this; cases this
      have hsz : Builtin.Range.rangeSize 0 (m : Int) 1 = m := by
        unfold Builtin.Range.rangeSize
        simp only [show (1 : Int) > 0 from by decide, if_true]
        split <;> omega
      refine wpAny_pyIter_range hr (small_one (by decide) (by decide) (by omega) (by omega)) ?_
      rw [hsz]
      obtain ⟨O2, b1, b2, b3⟩ := iter_new O1 { cls := Value.type "range_iterator", data := Data.fields #[rawInt 0, rawInt (m : Int), rawInt 1] }
      exact step ((List.range m).map fun (j : Nat) => .int j) (fun _ => True) _ _ σ1 ps1 { s1 with heap := s1.heap.push { cls := Value.type "range_iterator", data := Data.fields #[rawInt 0, rawInt (m : Int), rawInt 1] } }
        ⟨O2, it_range (n := m) F.ra.handled, by
          show IsRangeIter _ _ ((0 : Nat) : Int) ((m : Int) - ((0 : Nat) : Int)) 1
          simpa using Heap.get?_push_size s1.heap (o := { cls := Value.type "range_iterator", data := Data.fields #[rawInt 0, rawInt (m : Int), rawInt 1] }) rfl, nf, b1, b2, b3⟩ (k1.trans ((ExtL.push _ _).kept ps1)) (by simpa using hm) he1
end Mine
end

section
set_option maxRecDepth 100000
open PySem PySem.W PyProof.Rows
namespace Mine
variable {B : Base} {SP : Spec} {K : Frag} {mg mb : Str → Option Value} {n : Nat} {cx : Cx} {C : FC} {A : Around}

theorem snd_comp {rng : Bool} {itm t e : ME} {ast : PySem.Expr} (F : Fit B SP K mg mb n cx C A) (ii : Snd B SP K mg mb itm) (iht : Snd B SP K mg mb t) (ihe : Snd B SP K mg mb e)
    (h : mt (.comp rng itm t e) cx (.inl ast) = true) : SndV B SP C A (.comp rng itm t e) ast ∧ SndT B SP C A (.comp rng itm t e) ast := by
  have h' := h
  · replace h' := onListComp_is h'; obtain ⟨elt, gs, scope, pos, rfl, h'⟩ := h'
    replace h' := onGen_is h'; obtain ⟨y, py, iter, ifs, rfl, h'⟩ := h'
    refine snd_const (fun σ k ps s Q he H q => ?_) fun _ => rfl
    rw [eval_ListComp]
    refine comp_all (use := none) F h ii iht ihe he H fun σ' ps' s' Lc a kk hk O' k' hp hns ap hb hs0 hL => ?_
    obtain ⟨m, hm⟩ := hns
    refine ⟨m, hm, fun h2 sb => ?_⟩
    have x2 : ∀ b o, b ≠ Lc → s'.heap.get? b = some o → h2.get? b = some o := fun b o n e => by rw [sb.2 b n]; exact e
    exact q _ σ' ps' { s' with heap := h2 } _ hk (O'.but (t := s'.toks) x2 (ns_noseq hm) ⟨ap, hb⟩ hL) (k'.but hs0 x2) (.obj hp)

theorem mt_inr {e : ME} {cx : Cx} {l : List PySem.Expr} (h : mt e cx (.inr l) = true) : e = .nil ∨ ∃ a b, e = .cons a b := by
  cases e <;> first | exact .inl rfl | exact .inr ⟨_, _, rfl⟩ | exact nomatch (show false = true from h)

/-- every small form does what it says -/
theorem snd_all : ∀ e : ME, Snd B SP K mg mb e := by
  intro e
  induction e with
  | loc i => exact fun n cx C A F => ⟨fun ast h => snd_loc F h, fun l h => by rcases mt_inr h with h | ⟨_, _, h⟩ <;> cases h⟩
  | none => exact fun n cx C A F => ⟨fun ast h => snd_none h, fun l h => by rcases mt_inr h with h | ⟨_, _, h⟩ <;> cases h⟩
  | bool b => exact fun n cx C A F => ⟨fun ast h => snd_bool h, fun l h => by rcases mt_inr h with h | ⟨_, _, h⟩ <;> cases h⟩
  | int i => exact fun n cx C A F => ⟨fun ast h => snd_int h, fun l h => by rcases mt_inr h with h | ⟨_, _, h⟩ <;> cases h⟩
  | str s => exact fun n cx C A F => ⟨fun ast h => snd_str h, fun l h => by rcases mt_inr h with h | ⟨_, _, h⟩ <;> cases h⟩
  | fn a => exact fun n cx C A F => ⟨fun ast h => snd_fn F h, fun l h => by rcases mt_inr h with h | ⟨_, _, h⟩ <;> cases h⟩
  | nil => exact fun n cx C A F => ⟨fun ast h => (Bool.noConfusion (show false = true from h)), fun l h => snd_nil h⟩
  | cons a b ia ib => exact fun n cx C A F => ⟨fun ast h => (Bool.noConfusion (show false = true from h)), fun l h => snd_cons F ia ib h⟩
  | bin op a b ia ib => exact fun n cx C A F => ⟨fun ast h => snd_bin F ia ib h, fun l h => by rcases mt_inr h with h | ⟨_, _, h⟩ <;> cases h⟩
  | cmp op a b ia ib => exact fun n cx C A F => ⟨fun ast h => snd_cmp F ia ib h, fun l h => by rcases mt_inr h with h | ⟨_, _, h⟩ <;> cases h⟩
  | and a b ia ib => exact fun n cx C A F => ⟨fun ast h => snd_and F ia ib h, fun l h => by rcases mt_inr h with h | ⟨_, _, h⟩ <;> cases h⟩
  | or a b ia ib => exact fun n cx C A F => ⟨fun ast h => snd_or F ia ib h, fun l h => by rcases mt_inr h with h | ⟨_, _, h⟩ <;> cases h⟩
  | not a ia => exact fun n cx C A F => ⟨fun ast h => snd_not F ia h, fun l h => by rcases mt_inr h with h | ⟨_, _, h⟩ <;> cases h⟩
  | ife t a b it ia ib => exact fun n cx C A F => ⟨fun ast h => snd_ife F it ia ib h, fun l h => by rcases mt_inr h with h | ⟨_, _, h⟩ <;> cases h⟩
  | tup es ie => exact fun n cx C A F => ⟨fun ast h => snd_tup F ie h, fun l h => by rcases mt_inr h with h | ⟨_, _, h⟩ <;> cases h⟩
  | lst es ie => exact fun n cx C A F => ⟨fun ast h => snd_lst F ie h, fun l h => by rcases mt_inr h with h | ⟨_, _, h⟩ <;> cases h⟩
  | lstM es ie => exact fun n cx C A F => ⟨fun ast h => snd_lstM F ie h, fun l h => by rcases mt_inr h with h | ⟨_, _, h⟩ <;> cases h⟩
  | dct kvs => exact fun n cx C A F => ⟨fun ast h => snd_dct F h, fun l h => by rcases mt_inr h with h | ⟨_, _, h⟩ <;> cases h⟩
  | call f args ie => exact fun n cx C A F => ⟨fun ast h => snd_call F ie h, fun l h => by rcases mt_inr h with h | ⟨_, _, h⟩ <;> cases h⟩
  | callv dl fe args ife ie => exact fun n cx C A F => ⟨fun ast h => snd_callv F ife ie h, fun l h => by rcases mt_inr h with h | ⟨_, _, h⟩ <;> cases h⟩
  | meth o c m f args io ie => exact fun n cx C A F => ⟨fun ast h => snd_meth F io ie h, fun l h => by rcases mt_inr h with h | ⟨_, _, h⟩ <;> cases h⟩
  | new c init args ie => exact fun n cx C A F => ⟨fun ast h => snd_new F ie h, fun l h => by rcases mt_inr h with h | ⟨_, _, h⟩ <;> cases h⟩
  | bi b a ia => exact fun n cx C A F => ⟨fun ast h => snd_bi F ia h, fun l h => by rcases mt_inr h with h | ⟨_, _, h⟩ <;> cases h⟩
  | sm m o args io ie => exact fun n cx C A F => ⟨fun ast h => snd_sm F io ie h, fun l h => by rcases mt_inr h with h | ⟨_, _, h⟩ <;> cases h⟩
  | idx a i ia ii => exact fun n cx C A F => ⟨fun ast h => snd_idx F ia ii h, fun l h => by rcases mt_inr h with h | ⟨_, _, h⟩ <;> cases h⟩
  | slc a lo hi ia il iu => exact fun n cx C A F => ⟨fun ast h => snd_slc F ia il iu h, fun l h => by rcases mt_inr h with h | ⟨_, _, h⟩ <;> cases h⟩
  | att o c m io => exact fun n cx C A F => ⟨fun ast h => snd_att F io h, fun l h => by rcases mt_inr h with h | ⟨_, _, h⟩ <;> cases h⟩
  | comp rng itm t e ii iht ihe => exact fun n cx C A F => ⟨fun ast h => snd_comp F ii iht ihe h, fun l h => by rcases mt_inr h with h | ⟨_, _, h⟩ <;> cases h⟩
end Mine
end

section
set_option maxRecDepth 100000
open PySem PySem.W PyProof.Rows
namespace Mine
variable {B : Base} {SP : Spec} {K : Frag} {mg mb : Str → Option Value} {n : Nat} {cx : Cx} {C : FC} {A : Around}

theorem Kept.ofL {a : Addr} {h h' : Heap} {L : List Addr} (ps : Ps) (sb : Heap.SameBut a h h') (l : (h'.get? a).isSome = true) (ha : a ∈ L) : Kept L ps h ps h' :=
  ((ExtL.same sb fun _ _ => l).weaken fun b hb => by simp at hb; exact hb ▸ ha).kept ps

theorem nodup_at {α : Type} {x : α} : ∀ {l : List α} {i j : Nat}, l.Nodup → l[i]? = some x → l[j]? = some x → i = j
  | [], i, j, _, h, _ => by simp at h
  | a :: r, 0, 0, _, _, _ => rfl
  | a :: r, 0, j + 1, nd, h, h' => by
    have e : a = x := by simpa using h
    have m : x ∈ r := List.mem_of_getElem? (by simpa using h')
    exact absurd (e ▸ m) (List.nodup_cons.mp nd).1
  | a :: r, i + 1, 0, nd, h, h' => by
    have e : a = x := by simpa using h'
    have m : x ∈ r := List.mem_of_getElem? (by simpa using h)
    exact absurd (e ▸ m) (List.nodup_cons.mp nd).1
  | a :: r, i + 1, j + 1, nd, h, h' => by
    have := nodup_at (i := i) (j := j) (List.nodup_cons.mp nd).2 (by simpa using h) (by simpa using h')
    rw [this]
theorem apart_at {α : Type} {f : α → Addr} {x y : α} : ∀ {l : List α}, l.Pairwise (fun a b => f a ≠ f b) → x ∈ l → y ∈ l → x ≠ y → f x ≠ f y
  | [], _, h, _, _ => by simp at h
  | a :: r, p, hx, hy, ne => by
    have p' := List.pairwise_cons.mp p
    rcases List.mem_cons.mp hx with rfl | hx <;> rcases List.mem_cons.mp hy with rfl | hy
    · exact absurd rfl ne
    · exact p'.1 _ hy
    · exact (p'.1 _ ‹_›).symm
    · exact apart_at p'.2 hx hy ne

/-- a name of the frame is given a value -/
theorem put_ok (G : C.Good) {i : Nat} {x : Str} (hn : C.names[i]? = some x) (hk : C.env.kindOf x = some .local ∨ C.env.kindOf x = some .cell) {σ : St} {ps : Ps} {s : Shared} (O : Ok B C σ ps s) {d : D} {v : Value} (rv : Rv ps s.heap d v) {Q : Unit → Shared → Prop}
    (q : ∀ h' t, Ok B C (σ.put i d) ps { s with heap := h', toks := t } → Kept C.L ps s.heap ps h' → Q () { s with heap := h', toks := t }) : WP B A (storeName C.env x v) Q s := by
  have nd : ∀ j : Nat, C.names[j]? = some x → j = i := fun j hj => nodup_at G.nodup hj hn
  have ow := O.rep.owns
  have nsq := O.frm.noSeqs
  rcases hk with hk | hk
  · obtain ⟨m, hm, hv⟩ := O.frm.ns
    refine wpAny_storeName_local (m := m) hk hm (fun h' hn' sb => ?_) (by rw [G.kind]; rfl)
    have hl : (h'.get? C.env.locals).isSome = true := by obtain ⟨o', es, ep, e', _⟩ := hn'; rw [e']; rfl
    have kp : Kept C.L ps s.heap ps h' := Kept.ofL ps sb hl (List.mem_cons_self)
    have other : ∀ a o, a ≠ C.env.locals → s.heap.get? a = some o → h'.get? a = some o := fun a o ne e => by rw [sb.2 a ne]; exact e
    refine q h' (s.toks + 1) ⟨O.rep.ext ((ExtL.same sb fun _ _ => hl).weaken (L' := C.L) fun b hb => by simp at hb; subst hb; exact List.mem_cons_self) nsq O.frm.apart, ⟨?_, ⟨_, hn', fun j z d' hz hd hkz => ?_⟩, fun j z hz hkz => ?_, fun c hc => ?_, O.frm.apart⟩, O.gens, O.os⟩ kp
    · show (List.set _ _ _).length = _
      rw [List.length_set]; exact O.frm.len
    · have hd' : (σ.loc.set i (some d))[j]? = some (some d') := hd
      by_cases hij : i = j
      · subst hij
        rw [hn] at hz; cases hz
        rw [List.getElem?_set_self (by have := (List.getElem?_eq_some_iff.mp hn).1; rw [← O.frm.len] at this; exact this)] at hd'
        cases hd'
        exact ⟨v, by simp, rv.mono kp ow nsq⟩
      · rw [List.getElem?_set_ne hij] at hd'
        obtain ⟨u, hu, ru⟩ := hv j z d' hz hd' hkz
        have hzx : z ≠ x := fun e => by subst e; exact hij (nd j hz).symm
        exact ⟨u, by simp [hzx, hu], ru.mono kp ow nsq⟩
    · obtain ⟨c, v0, hc, ⟨o, e, hd⟩, hvv⟩ := O.frm.cell j z hz hkz
      refine ⟨c, v0, hc, ⟨o, other c o (G.lapart _ (mem_of_lookup hc)) e, hd⟩, fun d' hd' => ?_⟩
      have hd'' : (σ.loc.set i (some d))[j]? = some (some d') := hd'
      have hij : i ≠ j := fun e => by subst e; rw [hn] at hz; cases hz; rw [hk] at hkz; cases hkz
      rw [List.getElem?_set_ne hij] at hd''
      obtain ⟨u, hu, ru⟩ := hvv d' hd''
      exact ⟨u, hu, ru.mono kp ow nsq⟩
    · obtain ⟨v0, o, e, hd⟩ := O.frm.cells c hc
      exact ⟨v0, o, other _ o (G.lapart _ hc) e, hd⟩
  · obtain ⟨c, v0, hc, hcell, hvv⟩ := O.frm.cell i x hn hk
    refine wpAny_storeName_cell G.kind hk hc hcell fun h' hc' sb => ?_
    have hl : (h'.get? c).isSome = true := by obtain ⟨o, e, _⟩ := hc'; rw [e]; rfl
    have hcm : (x, c) ∈ C.env.cells := mem_of_lookup hc
    have hcL : c ∈ C.L := List.mem_cons_of_mem _ (List.mem_map_of_mem hcm)
    have kp : Kept C.L ps s.heap ps h' := Kept.ofL ps sb hl hcL
    have other : ∀ a o, a ≠ c → s.heap.get? a = some o → h'.get? a = some o := fun a o ne e => by rw [sb.2 a ne]; exact e
    refine q h' s.toks ⟨O.rep.ext ((ExtL.same sb fun _ _ => hl).weaken (L' := C.L) fun b hb => by simp at hb; subst hb; exact hcL) nsq O.frm.apart, ⟨?_, ?_, fun j z hz hkz => ?_, fun p hp => ?_, O.frm.apart⟩, O.gens, O.os⟩ kp
    · show (List.set _ _ _).length = _
      rw [List.length_set]; exact O.frm.len
    · obtain ⟨m, ⟨o', es, ep, e', r⟩, hv⟩ := O.frm.ns
      refine ⟨m, ⟨o', es, ep, other _ _ (fun q => G.lapart _ hcm q.symm) e', r⟩, fun j z d' hz hd hkz => ?_⟩
      have hd' : (σ.loc.set i (some d))[j]? = some (some d') := hd
      have hij : i ≠ j := fun e => by subst e; rw [hn] at hz; cases hz; rw [hk] at hkz; cases hkz
      rw [List.getElem?_set_ne hij] at hd'
      obtain ⟨u, hu, ru⟩ := hv j z d' hz hd' hkz
      exact ⟨u, hu, ru.mono kp ow nsq⟩
    · obtain ⟨c2, v2, hc2, ⟨o2, e2, hd2⟩, hv2⟩ := O.frm.cell j z hz hkz
      by_cases hij : i = j
      · subst hij
        rw [hn] at hz; cases hz
        rw [hc] at hc2; cases hc2
        refine ⟨c, some v, hc, hc', fun d' hd' => ?_⟩
        have hd'' : (σ.loc.set i (some d))[i]? = some (some d') := hd'
        rw [List.getElem?_set_self (by have := (List.getElem?_eq_some_iff.mp hn).1; rw [← O.frm.len] at this; exact this)] at hd''
        cases hd''
        exact ⟨v, rfl, rv.mono kp ow nsq⟩
      · have hzx : z ≠ x := fun e => by subst e; exact hij (nd j hz).symm
        have hcc : c2 ≠ c := fun e => by
          subst e
          have h1 := mem_of_lookup hc2
          exact apart_at (f := fun q : Str × Addr => q.2) G.capart h1 hcm (fun e => hzx (congrArg Prod.fst e)) rfl
        refine ⟨c2, v2, hc2, ⟨o2, other _ _ hcc e2, hd2⟩, fun d' hd' => ?_⟩
        have hd'' : (σ.loc.set i (some d))[j]? = some (some d') := hd'
        rw [List.getElem?_set_ne hij] at hd''
        obtain ⟨u, hu, ru⟩ := hv2 d' hd''
        exact ⟨u, hu, ru.mono kp ow nsq⟩
    · obtain ⟨v2, o2, e2, hd2⟩ := O.frm.cells p hp
      by_cases hpc : p.2 = c
      · obtain ⟨o, e, hd⟩ := hc'
        exact ⟨some v, o, by rw [hpc]; exact e, hd⟩
      · exact ⟨v2, o2, other _ _ hpc e2, hd2⟩
end Mine
end

section
set_option maxRecDepth 100000
open PySem PySem.W PyProof.Rows
namespace Mine
variable {B : Base} {SP : Spec} {K : Frag} {mg mb : Str → Option Value} {n : Nat} {cx : Cx} {C : FC} {A : Around}

theorem load_ok (hf : C.env.scope.kind = .function) {i : Nat} {x : Str} (hn : C.names[i]? = some x) (hk : C.env.kindOf x = some .local ∨ C.env.kindOf x = some .cell) {σ : St} {ps : Ps} {s : Shared} (O : Ok B C σ ps s) {d : D} (hl : lget σ.loc i = some d) {Q : Value → Shared → Prop}
    (q : ∀ v, Rv ps s.heap d v → Q v s) : WP B A (loadName C.env x) Q s := by
  have hl' := lget_some hl
  rcases hk with hk | hk
  · obtain ⟨m, hm, hv⟩ := O.frm.ns
    obtain ⟨v, e1, rv⟩ := hv i x d hn hl' hk
    exact wpAny_loadName_local hf hk hm e1 (q v rv)
  · obtain ⟨c, v, hc, hcell, hv⟩ := O.frm.cell i x hn hk
    obtain ⟨u, rfl, rv⟩ := hv d hl'
    exact wpAny_loadName_cell hf hk hc hcell (q u rv)

/-- a list of stores to names -/
noncomputable def NamesOk (cx : Cx) : List Nat → List Str → Prop
  | [], [] => True
  | i :: is, x :: xs => (cx.names[i]? = some x ∧ (cx.kind x = some .local ∨ cx.kind x = some .cell)) ∧ NamesOk cx is xs
  | _, _ => False
theorem NamesOk.app : ∀ {is : List Nat} {xs : List Str} {js ys}, NamesOk cx is xs → NamesOk cx js ys → NamesOk cx (is ++ js) (xs ++ ys)
  | [], [], _, _, _, b => b
  | _ :: _, _ :: _, _, _, a, b => ⟨a.1, NamesOk.app a.2 b⟩
  | [], _ :: _, _, _, a, _ => a.elim
  | _ :: _, [], _, _, a, _ => a.elim
theorem NamesOk.rev : ∀ {is : List Nat} {xs : List Str}, NamesOk cx is xs → NamesOk cx is.reverse xs.reverse
  | [], [], _ => trivial
  | i :: is, x :: xs, a => by
    rw [List.reverse_cons, List.reverse_cons]
    exact NamesOk.app (NamesOk.rev a.2) ⟨a.1, trivial⟩
  | [], _ :: _, a => a.elim
  | _ :: _, [], a => a.elim
noncomputable def StoresTo (env : Env) : List (Value → Sem Unit) → List Str → Prop
  | [], [] => True
  | f :: fs, x :: xs => (∀ {B : Base} {A : Around} (v : Value) (Q : Unit → Shared → Prop) (s : Shared), WP B A (storeName env x v) Q s → WP B A (f v) Q s) ∧ StoresTo env fs xs
  | _, _ => False

theorem puts_ok (F : Fit B SP K mg mb n cx C A) (G : C.Good) {is : List Nat} : ∀ {xs : List Str} {fs : List (Value → Sem Unit)} {l : List D} {vs : List Value} {σ σ' : St} {ps : Ps} {s : Shared} {Q : Unit → Shared → Prop}, NamesOk cx is xs → StoresTo C.env fs xs → Rvs ps s.heap l vs → putAll σ is l = some σ' → Ok B C σ ps s →
    (∀ s', Ok B C σ' ps s' → Kept C.L ps s.heap ps s'.heap → Q () s') → WP B A (assignInOrder fs vs) Q s := by
  induction is with
  | nil =>
    intro xs fs l vs σ σ' ps s Q hn hs hr hp O q
    cases xs with
    | cons => exact hn.elim
    | nil =>
      cases fs with
      | cons => exact hs.elim
      | nil =>
        cases l with
        | cons => cases hp
        | nil => cases hp; exact wpAny_pure (q s O (.refl ..))
  | cons i is ih =>
    intro xs fs l vs σ σ' ps s Q hn hs hr hp O q
    cases xs with
    | nil => exact hn.elim
    | cons x xs =>
      cases fs with
      | nil => exact hs.elim
      | cons f fs =>
        cases l with
        | nil => cases hp
        | cons d l =>
          cases hr with | cons rv r =>
          have hn1 := hn.1
          rw [F.names, F.kind] at hn1
          refine wpAny_bind (wpAny_holding (hs.1 _ _ s (put_ok G hn1.1 hn1.2 O rv fun h' t O' k' => ?_)))
          exact ih hn.2 hs.2 (r.mono k' O.rep.owns O.frm.noSeqs) hp O' fun s' O2 k2 => q s' O2 (k'.trans k2)

theorem names_each {is : List Nat} : ∀ {ts : List PySem.Expr}, namesAre cx is ts = true → ∃ xs, NamesOk cx is xs ∧ StoresTo C.env ((assignEach ts C.env).map (·.2)) xs ∧ (assignEach ts C.env).findIdx? (fun x => x.1) = none ∧ ts.length = is.length ∧ (assignEach ts C.env).length = ts.length := by
  induction is with
  | nil =>
    intro ts h
    cases ts with
    | nil => exact ⟨[], trivial, trivial, rfl, rfl, rfl⟩
    | cons => cases h
  | cons i is ih =>
    intro ts h
    cases ts with
    | nil => cases h
    | cons e r =>
      simp only [namesAre, Bool.and_eq_true] at h
      obtain ⟨xs, h1, h2, h3, h4, h5⟩ := ih h.2
      have h0 := h.1
      unfold nameIs at h0
      split at h0
      · rename_i x p
        simp only [Bool.and_eq_true, beq_iff_eq, Bool.or_eq_true] at h0
        refine ⟨x :: xs, ⟨h0, h1⟩, ⟨fun v Q s w => wpAny_assign_Name w, h2⟩, ?_, by simp [h4], by show (_ :: _).length = _; simp [h5]⟩
        show List.findIdx? _ ((false, _) :: assignEach r C.env) = none
        rw [List.findIdx?_cons, h3]; rfl
      · cases h0

theorem names_filter {f : PySem.Expr → Option Str} (hf : ∀ x p y, f (.Name x p) = some y → y = x) : ∀ {is : List Nat} {ts : List PySem.Expr}, namesAre cx is ts = true → (ts.filterMap f).length = ts.length → NamesOk cx is (ts.filterMap f)
  | [], [], _, _ => trivial
  | [], _ :: _, h, _ => by cases h
  | _ :: _, [], h, _ => by cases h
  | i :: is, e :: r, h, hl => by
    simp only [namesAre, Bool.and_eq_true] at h
    have h0 := h.1
    unfold nameIs at h0
    split at h0
    · rename_i x p
      simp only [Bool.and_eq_true, beq_iff_eq, Bool.or_eq_true] at h0
      have hle : (r.filterMap f).length ≤ r.length := List.length_filterMap_le ..
      cases he : f (.Name x p) with
      | none =>
        rw [List.filterMap_cons_none he] at hl
        simp at hl; omega
      | some y =>
        rw [List.filterMap_cons_some he] at hl ⊢
        have := hf x p y he
        subst this
        exact ⟨h0, names_filter hf h.2 (by simpa using hl)⟩
    · cases h0

theorem swapped_of (F : Fit B SP K mg mb n cx C A) {ts vs : List PySem.Expr} {k k' : Nat} {p p' : Pos} {names : List Str} (h : swapNames cx ts vs = some names) : swappedStores [.Tuple ts k p] (.Tuple vs k' p') C.env = pure (some names) ∧ ∀ is, namesAre cx is ts = true → NamesOk cx is names := by
  unfold swapNames at h
  have hbk : C.env.blockKind = .function := by unfold Env.blockKind; rw [F.fkind]; rfl
  have hkk : cx.kind = C.env.kindOf := funext F.kind
  split at h
  · cases h
  · rename_i h1
    split at h
    · cases h
    · rename_i h2
      dsimp only at h
      split at h
      · cases h
      · rename_i h3
        split at h
        · cases h
        · rename_i h4
          split at h
          · cases h
          · rename_i h5
            have hnm := Option.some.inj h
            refine ⟨?_, fun is his => ?_⟩
            · unfold swappedStores
              dsimp only
              rw [hbk]
              simp only [Bool.not_eq_true] at h1
              rw [hkk] at h3 hnm
              refine (if_neg (by rw [h1]; decide)).trans ?_
              refine (if_neg h2).trans ?_
              refine (if_neg h3).trans ?_
              refine (if_neg h4).trans ?_
              refine (if_neg h5).trans ?_
              exact congrArg (fun z => (pure (some z) : Sem (Option (List Str)))) hnm
            · rw [← hnm]
              refine names_filter (fun x p y hy => ?_) his ?_
              · dsimp only at hy
                split at hy
                · exact (Option.some.inj hy).symm
                · cases hy
              · simp only [Bool.or_eq_true, bne_iff_ne, ne_eq, not_or, Decidable.not_not] at h3
                exact h3.1

theorem augP_ok {op : BOp} {x y : D} {k : D → Prop} (h : augP op x y k) {σ : St} {ps : Ps} {s : Shared} (O : Ok B C σ ps s) {v u : Value} (rx : Rv ps s.heap x v) (ry : Rv ps s.heap y u) {Q : Value → Shared → Prop} (q : Post B C σ ps s k Q)
    {o : Operator} (ho : bopOf o = some op) : WP B A (inplaceOp o v u) Q s := by
  cases op with
  | add =>
    have ho' : o = .Add := by cases o <;> first | rfl | exact absurd ho (by simp [bopOf])
    subst ho'
    cases rx with
    | int a t =>
      replace h := onI_is h; obtain ⟨b, rfl, h⟩ := h
      cases ry; exact AutoIntOps.iadd_0 (q.tok O h _ (.int _ _))
    | str a t =>
      replace h := onT_is h; obtain ⟨b, rfl, h⟩ := h
      cases ry
      refine PyProof.Rows.iadd_str (fun t' tk => ?_) (by rw [S_len, S_len, ← line_is]; exact h.1)
      rw [S_app]; exact q.tok O h.2 _ (.str _ _)
    | _ => exact h.elim
  | _ => exact h.elim

theorem setP_ok {σ : St} {d x y : D} {k : St → Prop} (h : setP σ d x y k) {ps : Ps} {s : Shared} (O : Ok B C σ ps s) {v xv yv : Value} (rv : Rv ps s.heap d v) (rx : Rv ps s.heap x xv) (ry : Rv ps s.heap y yv) {Q : Unit → Shared → Prop}
    (q : ∀ σ' s', k σ' → Ok B C σ' ps s' → Kept [] ps s.heap ps s'.heap → Q () s') : WP B A (setItem xv yv v) Q s := by
  replace h := onO_is h; obtain ⟨i, rfl, h⟩ := h
  cases ry with
  | int k t =>
    obtain ⟨xs, hx, ⟨h0, h1, h2⟩, h⟩ := h
    cases rx with | obj hp =>
    obtain ⟨p, hp', r⟩ := O.rep.at' hx
    rw [hp] at hp'; cases hp'
    obtain ⟨hh2, vs, n', e, r⟩ := r
    have hsz := r.length
    simp only [Array.length_toList] at hsz
    refine ki_setAt e h0 (by omega) (by omega) ?_
    obtain ⟨O', k'⟩ := O.setList (t := s.toks) (f := fun x => x.setIfInBounds _ v) hp hh2 e (by rw [Array.toList_setIfInBounds]; exact r.set _ rv)
    exact q _ _ h O' k'
  | str n t =>
    obtain ⟨kvs, hx, hl, h⟩ := h
    cases rx with | obj hp =>
    obtain ⟨p, hp', r⟩ := O.rep.at' hx
    rw [hp] at hp'; cases hp'
    obtain ⟨hh2, q1, hd, hr⟩ := r
    have nd : (q1.map (·.1)).Nodup := by obtain ⟨_, _, _, _, _, _, _, _, z⟩ := hd; exact z
    refine wpAny_setItem_pairs (is_str _ _) hd (fun h' hmm hs => ?_) (by have := hr.length; rw [sizeLine_eq]; omega)
    have x := ext1 hs fun o _ => (by obtain ⟨o', _, _, e', _⟩ := hmm; rw [e']; rfl)
    obtain ⟨O', k'⟩ := O.setObj (t := s.toks + 1) hp x (o := .dct (kput _ d kvs)) ⟨hh2, _, hmm, ((hr.put rv nd).mono (Kept.owned (List.mem_of_getElem? hp) x []) O.rep.owns (noSeqs_nil _))⟩
    exact q _ _ h O' k'
  | _ => exact h.elim
end Mine
end

section
set_option maxRecDepth 100000
open PySem PySem.W PyProof.Rows
namespace Mine
variable {B : Base} {SP : Spec} {K : Frag} {mg mb : Str → Option Value} {n : Nat} {cx : Cx} {C : FC} {A : Around}

noncomputable def RFl (ps : Ps) (h : Heap) : Fl → Flow → Prop
  | .next, .next => True
  | .ret d, .ret v => Rv ps h d v
  | _, _ => False
noncomputable def PostX (B : Base) (C : FC) (σ : St) (ps : Ps) (s : Shared) (k : Fl → St → Prop) (Q : Flow → Shared → Prop) : Prop :=
  ∀ fl f σ' ps' s', k fl σ' → Ok B C σ' ps' s' → Kept C.L ps s.heap ps' s'.heap → RFl ps' s'.heap fl f → Q f s'
noncomputable def SndX (B : Base) (SP : Spec) (C : FC) (A : Around) (m : MS) (w : Sem Flow) : Prop :=
  ∀ (σ : St) (k : Fl → St → Prop) (ps : Ps) (s : Shared) (Q : Flow → Shared → Prop), X SP m σ k → Ok B C σ ps s → PostX B C σ ps s k Q → WP B A w Q s
noncomputable def SndS (B : Base) (SP : Spec) (K : Frag) (mg mb : Str → Option Value) (m : MS) : Prop :=
  ∀ (n : Nat) (cx : Cx) (C : FC) (A : Around), Fit B SP K mg mb n cx C A → C.Good →
    (∀ st, mtS m cx (.inl st) = true → SndX B SP C A m (exec st C.env)) ∧ (∀ l, mtS m cx (.inr l) = true → SndX B SP C A m (execs l C.env))

theorem Kept.up {ps : Ps} {h : Heap} {ps' : Ps} {h' : Heap} (k : Kept [] ps h ps' h') (L : List Addr) : Kept L ps h ps' h' := k.weaken (by simp)
theorem ev (F : Fit B SP K mg mb n cx C A) {e : ME} {ast : PySem.Expr} (h : mt e cx (.inl ast) = true) : SndV B SP C A e ast := ((snd_all e n cx C A F).1 ast h).1
theorem evT (F : Fit B SP K mg mb n cx C A) {e : ME} {ast : PySem.Expr} (h : mt e cx (.inl ast) = true) : SndT B SP C A e ast := ((snd_all e n cx C A F).1 ast h).2

theorem name_of {i : Nat} {e : PySem.Expr} (h : nameIs cx i e = true) : ∃ x p, e = .Name x p ∧ cx.names[i]? = some x ∧ (cx.kind x = some .local ∨ cx.kind x = some .cell) := by
  unfold nameIs at h
  split at h
  · rename_i x p
    simp only [Bool.and_eq_true, beq_iff_eq, Bool.or_eq_true] at h
    exact ⟨x, p, rfl, h.1, h.2⟩
  · cases h

theorem swaps_no {v : PySem.Expr} (h : noComp v = true) (t : Option PySem.Expr) (line : Nat) (env : Env) : swapsWith v t line env = pure false := by
  cases v <;> first | rfl | cases h

theorem x_asg (F : Fit B SP K mg mb n cx C A) (G : C.Good) {i : Nat} {e : ME} {st : Stmt} (h : mtS (.asg i e) cx (.inl st) = true) : SndX B SP C A (.asg i e) (exec st C.env) := by
  · replace h := onAsg_is h; obtain ⟨tg, v, pos, rfl, h⟩ := h
    replace h := onName_is h; obtain ⟨x, p, rfl, h⟩ := h
    simp only [Bool.and_eq_true, Bool.or_eq_true] at h
    obtain ⟨⟨hn, hv⟩, he⟩ := h
    obtain ⟨x', p', hx, hn, hk⟩ := name_of hn
    cases hx
    rw [F.names] at hn
    rw [F.kind] at hk
    intro σ k ps s Q hX O q
    rcases hv with hv | hv
    · exact wpAny_Assign_Name (ev F he σ _ ps s _ hX O fun d σ1 ps1 s1 v he1 O1 k1 rv => put_ok G hn hk O1 rv fun h' t O' k' => q .next .next _ ps1 _ he1 O' ((k1.up _).trans k') trivial) (swaps_no hv _ _ _)
    · have he' := he
      unfold compSole at hv
      split at hv
      · rename_i elt gens scope vp
        simp only [Bool.and_eq_true, beq_iff_eq, Bool.not_eq_true'] at hv
        have hsw : swapsWith (.ListComp elt gens scope vp) (some (.Name x p)) pos.line C.env = pure true := by
          show (pure (C.env.blockKind == .function && C.env.kindOf x == some .local && p.line == vp.line && !(scope.names.any fun (n, k) => n == x && (k == .local || k == .cell))) : Sem Bool) = pure true
          have hbk : C.env.blockKind = .function := by unfold Env.blockKind; rw [F.fkind]; rfl
          have h1 := hv.1.1
          rw [F.kind] at h1
          rw [hbk, h1, hv.1.2, hv.2]
          simp
        rw [exec_Assign_Name_used _ _ _ _ hsw]
        have hcm : ∃ rng itm t e', e = .comp rng itm t e' := by
          cases e with
          | comp rng itm t e' => exact ⟨_, _, _, _, rfl⟩
          | _ => exact nomatch (show false = true from he)
        obtain ⟨rng, itm, t, e', rfl⟩ := hcm
        · obtain ⟨y, py, iter, ifs, rfl⟩ := mt_comp_gens he'
          refine wpAny_bind (wpAny_standAt (wpAny_bind ?_))
          show WP B A (do let _ ← comprehension (.ListComp elt [⟨.Name y py, iter, ifs, 0⟩] scope vp) scope C.env _ (newList []) false (eval iter C.env) (some (assign (.Name x p) C.env))) _ s
          refine wpAny_bind (wpAny_mono (comp_all (use := some (assign (.Name x p) C.env)) (Q := fun _ s' => Q .next s') F he (snd_all _) (snd_all _) (snd_all _) hX O fun σ' ps' s' Lc a kk hk' O' k' hp hns ap hb hs0 hL => ?_) (fun _ s' hq => wpAny_pure (wpAny_pure hq)) fun _ _ x => x)
          obtain ⟨m, hm⟩ := hns
          show WP B A (assign (.Name x p) C.env (.ref a)) _ s'
          refine wpAny_assign_Name (put_ok G hn hk O' (.obj hp) fun h' t O2 k2 => ?_)
          have hm' : h'.Ns Lc m := by
            obtain ⟨o', es, ep, e', r⟩ := hm
            exact ⟨o', es, ep, k2.keep _ _ e' hL fun p hp => ⟨(ap p hp).1.symm, (ap p hp).2.symm⟩, r⟩
          refine ⟨m, hm', fun h2 sb => ?_⟩
          have x2 : ∀ b o, b ≠ Lc → h'.get? b = some o → h2.get? b = some o := fun b o n e => by rw [sb.2 b n]; exact e
          exact q .next .next _ ps' _ hk' (O2.but (t := t) x2 (ns_noseq hm') ⟨ap, hb⟩ hL) (((k'.up _).trans k2).but hs0 x2) trivial
      · cases hv

theorem unpack_rows {ds : List D} {v : Value} {ps : Ps} {h : Heap} (r : Rv ps h (.tup ds) v) : ∃ a vs n, v = .ref a ∧ h.get? a = some { cls := .type "tuple", data := .seq vs n } ∧ Rvs ps h ds vs.toList := by
  cases r with | tup e r => exact ⟨_, _, _, rfl, e, r⟩

theorem putAll_len {is : List Nat} : ∀ {l : List D} {σ σ' : St}, putAll σ is l = some σ' → is.length = l.length := by
  induction is with
  | nil => intro l σ σ' h; cases l with | nil => rfl | cons => cases h
  | cons i is ih => intro l σ σ' h; cases l with | nil => cases h | cons d l => simp [ih (show putAll (σ.put i d) is l = some σ' from h)]

theorem x_asgT (F : Fit B SP K mg mb n cx C A) (G : C.Good) {is : List Nat} {e : ME} {st : Stmt} (h : mtS (.asgT is e) cx (.inl st) = true) : SndX B SP C A (.asgT is e) (exec st C.env) := by
  · replace h := onAsg_is h; obtain ⟨tg, v, pos, rfl, h⟩ := h
    replace h := onTuple_is h; obtain ⟨ts, tk, tp, rfl, h⟩ := h
    simp only [Bool.and_eq_true] at h
    obtain ⟨⟨⟨hn, hc⟩, ht⟩, he⟩ := h
    obtain ⟨xs, h1, h2, h3, h4, h5⟩ := names_each (C := C) hn
    intro σ k ps s Q hX O q
    refine Assign_Tuple (ev F he σ _ ps s _ hX O fun d σ1 ps1 s1 v he1 O1 k1 rv => ?_) (show swapsWith v (some (.Tuple ts tk tp)) pos.line C.env = pure false from swaps_no hc _ _ _) (by cases v <;> first | rfl | cases ht)
    split at he1
    · rename_i l
      split at he1
      · rename_i σ2 hp
        obtain ⟨a, vs, n', rfl, e', r⟩ := unpack_rows rv
        rw [arm_assign_Tuple]
        refine wpAny_bind (wpAny_standAt (PyProof.Rows.unpack_tuple F.ra.handled ⟨_, e', rfl, _, rfl⟩ ?_ h3 fun h' x => ?_))
        · have l1 := putAll_len hp
          have l2 : l.length = vs.size := by rw [r.length, Array.length_toList]
          rw [h5, h4, l1, l2]
        · have x' : ∀ b o, s1.heap.get? b = some o → h'.get? b = some o := fun b o e => x b o (fun q => by rw [q, size_none] at e; cases e) e
          have O1' := O1.ext (s' := { s1 with heap := h' }) x'
          exact puts_ok F G h1 h2 (r.mono ((ExtL.nil x').kept ps1) O1.rep.owns (noSeqs_nil _)) hp O1' fun s' O2 k2 => q .next .next _ ps1 _ he1 O2 (((k1.up _).trans (((ExtL.nil x').kept ps1).up _)).trans k2) trivial
      · exact he1.elim
    · exact he1.elim

theorem stores_rev : ∀ {env : Env} {names : List Str}, StoresTo env (names.map fun n => bindName env n) names
  | _, [] => trivial
  | env, x :: xs => ⟨fun v Q s w => wpAny_bindName w, stores_rev⟩

theorem x_swp (F : Fit B SP K mg mb n cx C A) (G : C.Good) {is : List Nat} {e : ME} {st : Stmt} (h : mtS (.swp is e) cx (.inl st) = true) : SndX B SP C A (.swp is e) (exec st C.env) := by
  · replace h := onAsg_is h; obtain ⟨tg, v, pos, rfl, h⟩ := h
    replace h := onTuple_is h; obtain ⟨ts, tk, tp, rfl, h⟩ := h
    replace h := onTuple_is h; obtain ⟨vs, vk, vp, rfl, h⟩ := h
    simp only [Bool.and_eq_true, decide_eq_true_eq] at h
    obtain ⟨⟨⟨hn, hsw⟩, h50⟩, he⟩ := h
    obtain ⟨names, hnm⟩ := Option.isSome_iff_exists.mp hsw
    obtain ⟨hw, hno⟩ := swapped_of F (k := tk) (k' := vk) (p := tp) (p' := vp) hnm
    have hno := hno is hn
    intro σ k ps s Q hX O q
    refine Assign_Tuple_swapped (names := names) (ev F he σ _ ps s _ hX O fun d σ1 ps1 s1 v he1 O1 k1 rv => ?_) rfl hw
    split at he1
    · rename_i l
      split at he1
      · rename_i σ2 hp
        obtain ⟨a, vs', n', rfl, e', r⟩ := unpack_rows rv
        have hsz : names.length = vs'.size := by
          have l1 := putAll_len hp
          have l2 : l.length = vs'.size := by rw [r.length, Array.length_toList]
          have l3 : ∀ {is : List Nat} {xs : List Str}, NamesOk cx is xs → is.length = xs.length := by
            intro is
            induction is with
            | nil => intro xs h; cases xs with | nil => rfl | cons => exact h.elim
            | cons i is ih => intro xs h; cases xs with | nil => exact h.elim | cons => simp [ih h.2]
          have := l3 hno
          rw [List.length_reverse, List.length_reverse] at l1
          rw [← this, l1, l2]
        rw [hsz]
        refine PyProof.Rows.unpackItems_tuple F.ra.handled ⟨_, e', rfl, _, rfl⟩ fun h' x => ?_
        have x' : ∀ b o, s1.heap.get? b = some o → h'.get? b = some o := fun b o e => x b o (fun q => by rw [q, size_none] at e; cases e) e
        have O1' := O1.ext (s' := { s1 with heap := h' }) x'
        exact puts_ok F G hno.rev stores_rev (r.mono ((ExtL.nil x').kept ps1) O1.rep.owns (noSeqs_nil _)).rev hp O1' fun s' O2 k2 => q .next .next _ ps1 _ he1 O2 (((k1.up _).trans (((ExtL.nil x').kept ps1).up _)).trans k2) trivial
      · exact he1.elim
    · exact he1.elim

theorem x_asgA (F : Fit B SP K mg mb n cx C A) {o e : ME} {c : Addr} {m : Nat} {st : Stmt} (h : mtS (.asgA o c m e) cx (.inl st) = true) : SndX B SP C A (.asgA o c m e) (exec st C.env) := by
  · replace h := onAsg_is h; obtain ⟨tg, v, pos, rfl, h⟩ := h
    replace h := onAttribute_is h; obtain ⟨oe, name, ap, rfl, h⟩ := h
    simp only [Bool.and_eq_true, beq_iff_eq] at h
    obtain ⟨⟨⟨⟨hn, ha⟩, hc⟩, ho⟩, he⟩ := h
    obtain ⟨AF, h12⟩ := F.attrs c m ha
    subst hn
    intro σ k ps s Q hX O q
    refine plainObj_wpAny_Assign_Attribute (ev F he σ _ ps s _ hX O fun d σ1 ps1 s1 v he1 O1 k1 rv => ev F ho σ1 _ ps1 s1 _ he1 O1 fun x σ2 ps2 s2 xv he2 O2 k2 rx => ?_) (swaps_no hc _ _ _)
    split at he2
    · obtain ⟨kvs, hx, hl, he2⟩ := he2
      cases rx with | obj hp =>
      refine setAttr_ok F.wd.X AF h12 O2 hp hx hl (rv.mono k2 O1.rep.owns (noSeqs_nil _)) fun s' O' k' => q .next .next _ ps2 s' he2 O' (((k1.trans k2).trans k').up _) trivial
    · exact he2.elim

theorem x_asgI (F : Fit B SP K mg mb n cx C A) {o i e : ME} {st : Stmt} (h : mtS (.asgI o i e) cx (.inl st) = true) : SndX B SP C A (.asgI o i e) (exec st C.env) := by
  · replace h := onAsg_is h; obtain ⟨tg, v, pos, rfl, h⟩ := h
    replace h := onSubscript_is h; obtain ⟨oe, ie, ap, rfl, h⟩ := h
    simp only [Bool.and_eq_true] at h
    obtain ⟨⟨⟨hc, ho⟩, hi⟩, he⟩ := h
    intro σ k ps s Q hX O q
    refine wpAny_Assign_Subscript (ev F he σ _ ps s _ hX O fun d σ1 ps1 s1 v he1 O1 k1 rv => ev F ho σ1 _ ps1 s1 _ he1 O1 fun x σ2 ps2 s2 xv he2 O2 k2 rx => ev F hi σ2 _ ps2 s2 _ he2 O2 fun y σ3 ps3 s3 yv he3 O3 k3 ry => ?_) (swaps_no hc _ _ _)
    exact setP_ok he3 O3 ((rv.mono k2 O1.rep.owns (noSeqs_nil _)).mono k3 O2.rep.owns (noSeqs_nil _)) (rx.mono k3 O2.rep.owns (noSeqs_nil _)) ry fun σ' s' kk O' k' => q .next .next _ ps3 s' kk O' ((((k1.trans k2).trans k3).trans k').up _) trivial

theorem x_aug (F : Fit B SP K mg mb n cx C A) (G : C.Good) {i : Nat} {op : BOp} {e : ME} {st : Stmt} (h : mtS (.aug i op e) cx (.inl st) = true) : SndX B SP C A (.aug i op e) (exec st C.env) := by
  · replace h := onSAugAssign_is h; obtain ⟨tg, o, v, pos, rfl, h⟩ := h
    replace h := onName_is h; obtain ⟨x, p, rfl, h⟩ := h
    simp only [Bool.and_eq_true, beq_iff_eq] at h
    obtain ⟨⟨hn, ho⟩, he⟩ := h
    obtain ⟨x', p', hx, hn, hk⟩ := name_of hn
    cases hx
    rw [F.names] at hn
    rw [F.kind] at hk
    intro σ k ps s Q hX O q
    obtain ⟨old, hl, hX⟩ : ∃ old, lget σ.loc i = some old ∧ E SP e σ (fun v σ1 => augP op old v fun z => k .next (σ1.put i z)) := onSome_is hX
    refine wpAny_AugAssign_Name (load_ok F.fkind hn hk O hl fun ov rov => ev F he σ _ ps s _ hX O fun d σ1 ps1 s1 v he1 O1 k1 rv => ?_)
    exact augP_ok he1 O1 (rov.mono k1 O.rep.owns (noSeqs_nil _)) rv (fun z r s2 kz O2 k2 rz => put_ok G hn hk O2 rz fun h' t O' k' => q .next .next _ ps1 _ kz O' (((k1.trans k2).up _).trans k') trivial) ho

theorem x_augA (F : Fit B SP K mg mb n cx C A) {o e : ME} {c : Addr} {m : Nat} {op : BOp} {st : Stmt} (h : mtS (.augA o c m op e) cx (.inl st) = true) : SndX B SP C A (.augA o c m op e) (exec st C.env) := by
  · replace h := onSAugAssign_is h; obtain ⟨tg, o', v, pos, rfl, h⟩ := h
    replace h := onAttribute_is h; obtain ⟨oe, name, ap, rfl, h⟩ := h
    simp only [Bool.and_eq_true, beq_iff_eq] at h
    obtain ⟨⟨⟨⟨hn, ha⟩, hop⟩, ho⟩, he⟩ := h
    obtain ⟨AF, h12⟩ := F.attrs c m ha
    subst hn
    intro σ k ps s Q hX O q
    refine wpAny_AugAssign_AttributeAny (ev F ho σ _ ps s _ hX O fun x σ1 ps1 s1 xv he1 O1 k1 rx => ?_)
    split at he1
    · obtain ⟨kvs, hx, old, hd, he1⟩ := he1
      cases rx with | obj hp =>
      refine getAttr_ok F.wd.X AF h12 O1 hp hx hd fun r rr => ?_
      refine ev F he σ1 _ ps1 { s1 with toks := s1.toks + 1 } _ he1 (O1.tok _) fun d σ2 ps2 s2 v he2 O2 k2 rv => ?_
      refine augP_ok he2 O2 (rr.mono k2 O1.rep.owns (noSeqs_nil _)) rv (fun z r s3 kz O3 k3 rz => ?_) hop
      obtain ⟨kws, hx2, hl, kz⟩ := kz
      obtain ⟨qs, rfl, _⟩ := k2.ext
      have hp2 := (List.getElem?_append_left (l₂ := qs) (List.getElem?_eq_some_iff.mp hp).1).trans hp
      refine setAttr_ok F.wd.X AF h12 O3 hp2 hx2 hl rz fun s' O' k' => q .next .next _ _ s' kz O' ((((k1.trans k2).trans k3).trans k').up _) trivial
    · exact he1.elim
end Mine
end

section
set_option maxRecDepth 100000
open PySem PySem.W PyProof.Rows
namespace Mine
variable {B : Base} {SP : Spec} {K : Frag} {mg mb : Str → Option Value} {n : Nat} {cx : Cx} {C : FC} {A : Around}

theorem wkE {α : Type} {w : Sem α} {Q : α → Shared → Prop} {s : Shared} {E' : Value → Shared → Prop} (h : WP B A w Q s) : wpAny (model B.prog B.w) A w Q E' s := wpAny_mono h (fun _ _ z => z) fun _ _ z => z.elim

theorem tstE {e : ME} {σ : St} {f : Bool → St → Prop} (h : E SP e σ fun x σ1 => match x with | .bool c => f c σ1 | _ => False) : E SP e σ fun d σ' => ∃ b, d = .bool b ∧ f b σ' := by
  have e1 : (fun (x : D) (σ1 : St) => match x with | .bool c => f c σ1 | _ => False) = (fun d σ' => ∃ b, d = .bool b ∧ f b σ') := by
    funext x σ1
    cases x <;> simp
  rw [← e1]; exact h

theorem x_ife (F : Fit B SP K mg mb n cx C A) (G : C.Good) {t : ME} {a b : MS} (ia : SndS B SP K mg mb a) (ib : SndS B SP K mg mb b) {st : Stmt} (h : mtS (.ife t a b) cx (.inl st) = true) : SndX B SP C A (.ife t a b) (exec st C.env) := by
  · replace h := onSIf_is h; obtain ⟨t', a', b', pos, rfl, h⟩ := h
    simp only [Bool.and_eq_true] at h
    obtain ⟨⟨ht, ha⟩, hb⟩ := h
    have xa := (ia n cx C A F G).2 a' ha
    have xb := (ib n cx C A F G).2 b' hb
    intro σ k ps s Q hX O q
    refine wpAny_If (evT F ht σ _ ps s _ (tstE hX) O fun c σ1 ps1 s1 ⟨h1, h2⟩ O1 k1 => ?_)
    cases c
    · rw [if_neg (by decide)]
      exact xb σ1 k ps1 s1 Q (h2 rfl) O1 fun fl f σ' ps' s' kk O' k' rf => q fl f σ' ps' s' kk O' ((k1.up _).trans k') rf
    · rw [if_pos rfl]
      exact xa σ1 k ps1 s1 Q (h1 rfl) O1 fun fl f σ' ps' s' kk O' k' rf => q fl f σ' ps' s' kk O' ((k1.up _).trans k') rf

theorem x_ret (F : Fit B SP K mg mb n cx C A) {e : ME} {st : Stmt} (h : mtS (.ret e) cx (.inl st) = true) : SndX B SP C A (.ret e) (exec st C.env) := by
  · replace h := onSReturn_is h; obtain ⟨v, pos, rfl, h⟩ := h
    cases v with | none => cases h | some v =>
    intro σ k ps s Q hX O q
    exact wpAny_Return_some (ev F h σ _ ps s _ hX O fun d σ1 ps1 s1 v he1 O1 k1 rv => q (.ret d) (.ret v) σ1 ps1 s1 he1 O1 (k1.up _) rv)

theorem x_exp (F : Fit B SP K mg mb n cx C A) {e : ME} {st : Stmt} (h : mtS (.exp e) cx (.inl st) = true) : SndX B SP C A (.exp e) (exec st C.env) := by
  · replace h := onSExpr_is h; obtain ⟨v, pos, rfl, h⟩ := h
    simp only [Bool.and_eq_true] at h
    intro σ k ps s Q hX O q
    refine wpAny_Expr_any (ev F h.2 σ _ ps s _ hX O fun d σ1 ps1 s1 v he1 O1 k1 rv => q .next .next σ1 ps1 s1 he1 O1 (k1.up _) trivial) ?_ (swaps_no h.1 _ _ _)
    unfold interactive
    rw [F.fkind]; rfl

theorem x_whl (F : Fit B SP K mg mb n cx C A) (G : C.Good) {t : ME} {b : MS} (ib : SndS B SP K mg mb b) {st : Stmt} (h : mtS (.whl t b) cx (.inl st) = true) : SndX B SP C A (.whl t b) (exec st C.env) := by
  · replace h := onSWhile_is h; obtain ⟨t', b', els, pos, rfl, h⟩ := h
    replace h := and_is h; obtain ⟨h1, h⟩ := h
    obtain rfl := isEmpty_is h1
    simp only [Bool.and_eq_true] at h
    have xb := (ib n cx C A F G).2 b' h.2
    intro σ k ps s Q hX O q
    obtain ⟨N, hX⟩ := hX
    refine wpAny_While (codeAny_whileLoop (fun m s' => ∃ σ' ps', Ok B C σ' ps' s' ∧ Kept C.L ps s.heap ps' s'.heap ∧ whn (E SP t) (X SP b) k m σ') ?_ N ⟨σ, ps, O, .refl .., hX⟩)
    rintro m s0 ⟨σ0, ps0, O0, k0, h0⟩
    cases m with
    | zero => exact h0.elim
    | succ m =>
      refine wkE (evT F h.1 σ0 _ ps0 s0 _ (tstE h0) O0 fun c σ1 ps1 s1 ⟨h1, h2⟩ O1 k1 => ?_)
      cases c
      · rw [if_neg (by decide)]
        exact wpAny_execs_nil (q .next .next σ1 ps1 s1 (h2 rfl) O1 (k0.trans (k1.up _)) trivial)
      · rw [if_pos rfl]
        refine wkE (xb σ1 _ ps1 s1 _ (h1 rfl) O1 fun fl f σ2 ps2 s2 kk O2 k2 rf => ?_)
        cases fl with
        | next =>
          cases f with
          | next => exact ⟨m, Nat.lt_succ_self _, σ2, ps2, O2, (k0.trans (k1.up _)).trans k2, kk⟩
          | _ => exact rf.elim
        | ret d =>
          cases f with
          | ret v => exact q (.ret d) (.ret v) σ2 ps2 s2 kk O2 ((k0.trans (k1.up _)).trans k2) rf
          | _ => exact rf.elim

theorem for_loop (F : Fit B SP K mg mb n cx C A) (G : C.Good) {i : Nat} {x : Str} {p : Pos} {b : MS} {body : List Stmt} (hn : C.names[i]? = some x) (hk : C.env.kindOf x = some .local ∨ C.env.kindOf x = some .cell) (xb : SndX B SP C A b (execs body C.env))
    {it : Addr} {all : List D} {IT : Nat → Ps → Heap → Prop} (W : It B A it (fun _ => True) all IT) {σ : St} {ps : Ps} {s : Shared} {h1 : Heap} {ps1 : Ps} {k : Fl → St → Prop} {R : Result → Shared → Prop} (O : Ok B C σ ps s) (k0 : Kept C.L ps1 h1 ps s.heap) (hi : IT 0 ps s.heap)
    (fr : h1.get? it = none ∧ B.h₀.get? it = none ∧ (∀ p ∈ ps, p.1 ≠ it ∧ p.2 ≠ it) ∧ it ∉ C.L)
    (q : ∀ fl f σ' ps' s', k fl σ' → Ok B C σ' ps' s' → Kept C.L ps1 h1 ps' s'.heap → RFl ps' s'.heap fl f → R (.ok f) s') (hX : forn (X SP b) i k all σ) :
    codeAny (model B.prog B.w) A (.forLoop (.Name x p) (.ref it) body [] C.env) R s := by
  refine codeAny_forLoop (fun m s' => ∃ j σ' ps', m = all.length - j ∧ IT j ps' s'.heap ∧ Ok B C σ' ps' s' ∧ Kept C.L ps1 h1 ps' s'.heap ∧ (∀ p ∈ ps', p.1 ≠ it ∧ p.2 ≠ it) ∧ forn (X SP b) i k (all.drop j) σ') ?_ all.length ⟨0, σ, ps, rfl, hi, O, k0, fr.2.2.1, hX⟩
  rintro m s0 ⟨j, σ0, ps0, rfl, hi, O0, k0, ap, h0⟩
  have ap' : ∀ p ∈ ps0, it ≠ p.1 ∧ it ≠ p.2 := fun p hp => ⟨(ap p hp).1.symm, (ap p hp).2.symm⟩
  obtain ⟨o, lo, ns⟩ := W.live j ps0 s0.heap hi
  have ns' : ∀ o', s0.heap.get? it = some o' → ¬ isSeq o' := fun o' e' => by rw [lo] at e'; cases e'; exact ns
  cases hd : all[j]? with
  | none =>
    have hdr : all.drop j = [] := List.drop_eq_nil_of_le (List.getElem?_eq_none_iff.mp hd)
    rw [hdr] at h0
    refine wkE (W.stop j ps0 s0 σ0.st hi hd O0.rep trivial ap' _ fun h' t xx => ?_)
    exact wpAny_execs_nil (q .next .next σ0 ps0 _ h0 (O0.but xx ns' ⟨ap, fr.2.1⟩ fr.2.2.2) (k0.but fr.1 xx) trivial)
  | some d =>
    have hlt : j < all.length := (List.getElem?_eq_some_iff.mp hd).1
    have hdr : all.drop j = d :: all.drop (j + 1) := by
      rw [List.drop_eq_getElem_cons hlt, (List.getElem?_eq_some_iff.mp hd).2]
    rw [hdr] at h0
    refine wkE (W.next j d ps0 s0 σ0.st hi hd O0.rep trivial ap' _ fun v h' t rv hi' xx => ?_)
    have O1 := O0.but (t := t) xx ns' ⟨ap, fr.2.1⟩ fr.2.2.2
    have k1 := k0.but fr.1 xx
    refine wkE (wpAny_assign_Name (put_ok G hn hk O1 rv fun h2 t2 O2 k2 => ?_))
    have hi2 : IT (j + 1) ps0 h2 := W.keep _ _ _ _ _ _ hi' k2.w O1.rep.owns O1.frm.noSeqs fr.2.2.2 ap'
    refine wkE (xb _ _ ps0 _ _ h0 O2 fun fl f σ3 ps3 s3 kk O3 k3 rf => ?_)
    have hi3 : IT (j + 1) ps3 s3.heap := W.keep _ _ _ _ _ _ hi2 k3.w O2.rep.owns O2.frm.noSeqs fr.2.2.2 ap'
    have ap3 : ∀ p ∈ ps3, p.1 ≠ it ∧ p.2 ≠ it := by
      obtain ⟨qs, rfl, hq⟩ := k3.ext
      obtain ⟨o2, lo2, _⟩ := W.live _ _ _ hi2
      intro p hp
      rcases List.mem_append.mp hp with hp | hp
      · exact ap p hp
      · have h2 := hq p hp
        refine ⟨fun z => ?_, fun z => ?_⟩
        · rw [z] at h2; exact absurd (lo2.symm.trans h2.1) (by simp)
        · rw [z] at h2; exact absurd (lo2.symm.trans h2.2) (by simp)
    cases fl with
    | next =>
      cases f with
      | next => exact ⟨_, by omega, j + 1, σ3, ps3, rfl, hi3, O3, (k1.trans k2).trans k3, ap3, kk⟩
      | _ => exact rf.elim
    | ret d =>
      cases f with
      | ret v => exact q (.ret d) (.ret v) σ3 ps3 s3 kk O3 ((k1.trans k2).trans k3) rf
      | _ => exact rf.elim

theorem x_forr (F : Fit B SP K mg mb n cx C A) (G : C.Good) {i : Nat} {e : ME} {b : MS} (ib : SndS B SP K mg mb b) {st : Stmt} (h : mtS (.forr i e b) cx (.inl st) = true) : SndX B SP C A (.forr i e b) (exec st C.env) := by
  · replace h := onSFor_is h; obtain ⟨tg, itx, body, els, pos, rfl, h⟩ := h
    replace h := and_is h; obtain ⟨h1, h⟩ := h
    obtain rfl := isEmpty_is h1
    simp only [Bool.and_eq_true] at h
    obtain ⟨⟨⟨hn, hs⟩, he⟩, hb⟩ := h
    obtain ⟨x, p, rfl, hn, hk⟩ := name_of hn
    rw [F.names] at hn
    rw [F.kind] at hk
    have xb := (ib n cx C A F G).2 body hb
    intro σ k ps s Q hX O q
    refine wpAny_For (ev F he σ _ ps s _ hX O fun d σ1 ps1 s1 v he1 O1 k1 rv => ?_) (fold_plain hs _)
    obtain ⟨ds, hds, hl, he1⟩ := he1
    have nf : s.heap.get? s1.heap.objs.size = none := by
      cases e : s.heap.get? s1.heap.objs.size with
      | none => rfl
      | some o => have := k1.live _ _ e; rw [size_none] at this; cases this
    cases d with
    | str l =>
      have hds' : l.map (fun c => D.str [c]) = ds := by simpa [items] using hds
      subst hds'
      cases rv with | str _ t =>
      cases ha : (S l).cps.all (fun x => decide (x < 128)) with
      | true =>
        refine wpAny_pyIter_ascii ha ?_
        obtain ⟨O2, b1, b2, b3⟩ := iter_new O1 { cls := Value.type "str_ascii_iterator", data := Data.fields #[Value.str (S l) t, Value.int 0 0] }
        exact for_loop F G hn hk xb (it_ascii F.ra.handled) O2 ((k1.trans ((ExtL.push _ _).kept ps1)).up _) ⟨_, Heap.get?_push_size _ rfl, rfl, rfl⟩ ⟨nf, b1, b2, b3⟩ (fun fl f σ' ps' s' kk O' k' rf => q fl f σ' ps' s' kk O' k' rf) he1
      | false =>
        refine wpAny_pyIter_wide ha ?_
        obtain ⟨O2, b1, b2, b3⟩ := iter_new O1 { cls := Value.type "str_iterator", data := Data.fields #[Value.str (S l) t, Value.int 0 0] }
        exact for_loop F G hn hk xb (it_wide F.ra.handled) O2 ((k1.trans ((ExtL.push _ _).kept ps1)).up _) ⟨_, Heap.get?_push_size _ rfl, rfl, rfl⟩ ⟨nf, b1, b2, b3⟩ (fun fl f σ' ps' s' kk O' k' rf => q fl f σ' ps' s' kk O' k' rf) he1
    | lst ds' =>
      have hds' : ds' = ds := by simpa [items] using hds
      subst hds'
      obtain ⟨a, vs, n', hv, e', ne, r⟩ : ∃ a vs n', v = .ref a ∧ s1.heap.get? a = some { cls := .type "list", data := .seq vs n' } ∧ (∀ p ∈ ps1, p.1 ≠ a) ∧ Rvs ps1 s1.heap ds' vs.toList := by
        cases rv with | lst e' ne r => exact ⟨_, _, _, rfl, e', ne, r⟩
      subst hv
      refine wpAny_pyIter_list (items := vs) ⟨_, e', rfl, _, rfl⟩ ?_
      obtain ⟨O2, b1, b2, b3⟩ := iter_new O1 { cls := Value.type "list_iterator", data := Data.fields #[Value.ref a, Value.int 0 0] }
      exact for_loop F G hn hk xb (it_lst (ds := ds') (a := a) F.ra.handled) O2 ((k1.trans ((ExtL.push _ _).kept ps1)).up _) ⟨⟨_, Heap.get?_push_size _ rfl, rfl, rfl⟩, rv.push O1.rep _⟩ ⟨nf, b1, b2, b3⟩ (fun fl f σ' ps' s' kk O' k' rf => q fl f σ' ps' s' kk O' k' rf) he1
    | _ => exact absurd hds (by simp [items])

theorem x_forRange (F : Fit B SP K mg mb n cx C A) (G : C.Good) {i : Nat} {e : ME} {b : MS} (ib : SndS B SP K mg mb b) {st : Stmt} (h : mtS (.forRange i e b) cx (.inl st) = true) : SndX B SP C A (.forRange i e b) (exec st C.env) := by
  · replace h := onSFor_is h; obtain ⟨tg, itx, body, els, pos, rfl, h⟩ := h
    replace h := and_is h; obtain ⟨h1, h⟩ := h
    obtain rfl := isEmpty_is h1
    replace h := onCallN_is h; obtain ⟨xr, xp, as0, np, rfl, h⟩ := h
    replace h := onOne_is h; obtain ⟨ne, rfl, h⟩ := h
    simp only [Bool.and_eq_true, beq_iff_eq] at h
    obtain ⟨⟨⟨⟨⟨hn, hkr⟩, hxr⟩, hst⟩, he⟩, hb⟩ := h
    obtain ⟨x, p, rfl, hn, hk⟩ := name_of hn
    rw [F.names] at hn
    rw [F.kind] at hk
    have xb := (ib n cx C A F G).2 body hb
    intro σ k ps s Q hX O q
    refine wpAny_For (range_ok (k := fun d σ1 => match d with | .int m => forn (X SP b) i k ((List.range m.toNat).map fun (j : Nat) => .int j) σ1 | _ => False) F hkr hxr hst he (snd_all e) hX O fun m σ1 ps1 s1 r u v tt he1 hm O1 k1 hr => ?_) (fun _ => rfl)
    have nf : s.heap.get? s1.heap.objs.size = none := by
      cases e : s.heap.get? s1.heap.objs.size with
      | none => rfl
      | some o => have := k1.live _ _ e; rw [size_none] at this; cases this
    have hsz : Builtin.Range.rangeSize 0 (m : Int) 1 = m := by
      unfold Builtin.Range.rangeSize
      simp only [show (1 : Int) > 0 from by decide, if_true]
      split <;> omega
    refine wpAny_pyIter_range hr (small_one (by decide) (by decide) (by omega) (by omega)) ?_
    rw [hsz]
    obtain ⟨O2, b1, b2, b3⟩ := iter_new O1 { cls := Value.type "range_iterator", data := Data.fields #[rawInt 0, rawInt (m : Int), rawInt 1] }
    exact for_loop F G hn hk xb (it_range (n := m) F.ra.handled) O2 ((k1.trans ((ExtL.push _ _).kept ps1)).up _) (by
      show IsRangeIter _ _ ((0 : Nat) : Int) ((m : Int) - ((0 : Nat) : Int)) 1
      simpa using Heap.get?_push_size s1.heap (o := { cls := Value.type "range_iterator", data := Data.fields #[rawInt 0, rawInt (m : Int), rawInt 1] }) rfl) ⟨nf, b1, b2, b3⟩ (fun fl f σ' ps' s' kk O' k' rf => q fl f σ' ps' s' kk O' k' rf) he1

theorem x_seq (F : Fit B SP K mg mb n cx C A) (G : C.Good) {a b : MS} (ia : SndS B SP K mg mb a) (ib : SndS B SP K mg mb b) {l : List Stmt} (h : mtS (.seq a b) cx (.inr l) = true) : SndX B SP C A (.seq a b) (execs l C.env) := by
  · replace h := onCons_is h; obtain ⟨s0, r, rfl, h⟩ := h
    simp only [Bool.and_eq_true] at h
    have xa := (ia n cx C A F G).1 s0 h.1
    have xb := (ib n cx C A F G).2 r h.2
    intro σ k ps s Q hX O q
    refine wpAny_execs_cons (xa σ _ ps s _ hX O fun fl f σ1 ps1 s1 kk O1 k1 rf => ?_)
    cases fl with
    | next =>
      cases f with
      | next => exact xb σ1 k ps1 s1 Q kk O1 fun fl f σ' ps' s' kk O' k' rf => q fl f σ' ps' s' kk O' (k1.trans k') rf
      | _ => exact rf.elim
    | ret d =>
      cases f with
      | ret v => exact q (.ret d) (.ret v) σ1 ps1 s1 kk O1 k1 rf
      | _ => exact rf.elim

theorem mtS_inr {m : MS} {cx : Cx} {l : List Stmt} (h : mtS m cx (.inr l) = true) : m = .skip ∨ (∃ a b, m = .seq a b) ∨ m = .dead := by
  cases m <;> first | exact .inl rfl | exact .inr (.inl ⟨_, _, rfl⟩) | exact .inr (.inr rfl) | exact nomatch (show false = true from h)

/-- every small statement does what it says -/
theorem snd_stm : ∀ m : MS, SndS B SP K mg mb m := by
  intro m
  induction m with
  | skip => exact fun n cx C A F G => ⟨fun st h => (Bool.noConfusion (show false = true from h)), fun l h => by
      obtain rfl := isEmpty_is h
      exact fun σ k ps s Q hX O q => wpAny_execs_nil (q .next .next σ ps s hX O (.refl ..) trivial)⟩
  | seq a b ia ib => exact fun n cx C A F G => ⟨fun st h => (Bool.noConfusion (show false = true from h)), fun l h => x_seq F G ia ib h⟩
  | asg i e => exact fun n cx C A F G => ⟨fun st h => x_asg F G h, fun l h => by rcases mtS_inr h with h | ⟨_, _, h⟩ | h <;> cases h⟩
  | asgT is e => exact fun n cx C A F G => ⟨fun st h => x_asgT F G h, fun l h => by rcases mtS_inr h with h | ⟨_, _, h⟩ | h <;> cases h⟩
  | swp is e => exact fun n cx C A F G => ⟨fun st h => x_swp F G h, fun l h => by rcases mtS_inr h with h | ⟨_, _, h⟩ | h <;> cases h⟩
  | asgA o c m e => exact fun n cx C A F G => ⟨fun st h => x_asgA F h, fun l h => by rcases mtS_inr h with h | ⟨_, _, h⟩ | h <;> cases h⟩
  | asgI o i e => exact fun n cx C A F G => ⟨fun st h => x_asgI F h, fun l h => by rcases mtS_inr h with h | ⟨_, _, h⟩ | h <;> cases h⟩
  | aug i op e => exact fun n cx C A F G => ⟨fun st h => x_aug F G h, fun l h => by rcases mtS_inr h with h | ⟨_, _, h⟩ | h <;> cases h⟩
  | augA o c m op e => exact fun n cx C A F G => ⟨fun st h => x_augA F h, fun l h => by rcases mtS_inr h with h | ⟨_, _, h⟩ | h <;> cases h⟩
  | ife t a b ia ib => exact fun n cx C A F G => ⟨fun st h => x_ife F G ia ib h, fun l h => by rcases mtS_inr h with h | ⟨_, _, h⟩ | h <;> cases h⟩
  | whl t b ib => exact fun n cx C A F G => ⟨fun st h => x_whl F G ib h, fun l h => by rcases mtS_inr h with h | ⟨_, _, h⟩ | h <;> cases h⟩
  | forr i e b ib => exact fun n cx C A F G => ⟨fun st h => x_forr F G ib h, fun l h => by rcases mtS_inr h with h | ⟨_, _, h⟩ | h <;> cases h⟩
  | forRange i e b ib => exact fun n cx C A F G => ⟨fun st h => x_forRange F G ib h, fun l h => by rcases mtS_inr h with h | ⟨_, _, h⟩ | h <;> cases h⟩
  | ret e => exact fun n cx C A F G => ⟨fun st h => x_ret F h, fun l h => by rcases mtS_inr h with h | ⟨_, _, h⟩ | h <;> cases h⟩
  | exp e => exact fun n cx C A F G => ⟨fun st h => x_exp F h, fun l h => by rcases mtS_inr h with h | ⟨_, _, h⟩ | h <;> cases h⟩
  | dead => exact fun n cx C A F G => ⟨fun st h σ k ps s Q hX => hX.elim, fun l h σ k ps s Q hX => hX.elim⟩
end Mine
end

section
set_option maxRecDepth 100000
open PySem PySem.W PyProof.Rows
namespace Mine
variable {B : Base} {SP SP2 : Spec} {K : Frag} {mg mb : Str → Option Value} {n : Nat} {cx : Cx} {C : FC} {A : Around}

theorem CallOk.up {f : Addr} {m : Nat} (c : CallOk B SP n f) (h : n ≤ m) : CallOk B SP m f := fun A r => c A (r.le h)

/-- a function of the text -/
structure FnF (K : Frag) (f : Addr) (fd : FuncData) (body : List Stmt) : Prop where
  here : ∃ oc od osl, K.lookup f = some ⟨oc, od, .func fd, osl⟩
  glo : fd.globals = mainGlobals
  bui : fd.builtins = builtinsNs
  clo : fd.closure = []
  bd : fd.body = .stmts body
  code : codeIn K fd.code fd.qualname = true
  co : fd.scope.isCoroutine = false
  gen : fd.scope.isGenerator = false
  kind : fd.scope.kind = .function
  nd : ((cellsFrom 0 fd.scope.names []).map (·.1)).Nodup
  hascell : ∀ x, fd.scope.names.lookup x = some .cell → x ∈ (cellsFrom 0 fd.scope.names []).map (·.1)

theorem cellsFrom_map : ∀ (l : List (Str × NameKind)) (a b : Nat) (p q : List (Str × Addr)), p.map (·.1) = q.map (·.1) → (cellsFrom a l p).map (·.1) = (cellsFrom b l q).map (·.1)
  | [], _, _, _, _, h => h
  | (x, k) :: r, a, b, p, q, h => by
    unfold cellsFrom
    split
    · exact cellsFrom_map r _ _ _ _ (by simp [h])
    · exact cellsFrom_map r _ _ _ _ h
theorem lookup_of_mem {α : Type} {x : Str} : ∀ {l : List (Str × α)}, x ∈ l.map (·.1) → ∃ a, l.lookup x = some a
  | (y, a) :: r, h => by
    rw [List.lookup_cons]
    by_cases e : x = y
    · subst e; exact ⟨a, by simp⟩
    · have e' : (x == y) = false := beq_false_of_ne e
      rw [e']
      exact lookup_of_mem (by simpa [e] using h)
theorem lookup_nodup {α : Type} {x : Str} {a : α} : ∀ {l : List (Str × α)}, (l.map (·.1)).Nodup → (x, a) ∈ l → l.lookup x = some a
  | (y, b) :: r, nd, h => by
    have nd' := List.nodup_cons.mp (show (y :: r.map (·.1)).Nodup from nd)
    rw [List.lookup_cons]
    rcases List.mem_cons.mp h with h | h
    · cases h; simp
    · have : x ≠ y := fun e => nd'.1 (e ▸ List.mem_map_of_mem (f := (·.1)) h)
      rw [beq_false_of_ne this]
      exact lookup_nodup nd'.2 h

theorem bindL_at {kindOf : Str → Option NameKind} : ∀ (l : List (Str × Value)) (m : Str → Option Value) {x : Str}, x ∉ l.map (·.1) → bindL kindOf l m x = m x
  | [], _, _, _ => rfl
  | (y, v) :: r, m, x, h => by
    have h1 : x ≠ y ∧ x ∉ r.map (·.1) := by simpa using h
    unfold bindL
    rw [bindL_at r _ h1.2]
    split
    · simp [h1.1]
    · rfl
theorem bindC_at {kindOf : Str → Option NameKind} : ∀ (l : List (Str × Value)) (m : Str → Option Value) {x : Str}, x ∉ l.map (·.1) → bindC kindOf l m x = m x
  | [], _, _, _ => rfl
  | (y, v) :: r, m, x, h => by
    have h1 : x ≠ y ∧ x ∉ r.map (·.1) := by simpa using h
    unfold bindC
    rw [bindC_at r _ h1.2]
    split
    · rfl
    · simp [h1.1]
theorem bindL_get {kindOf : Str → Option NameKind} {x : Str} (hk : kindOf x = some .local) : ∀ (xs : List Str) (ws : List Value) (m : Str → Option Value) {i : Nat} {v : Value}, xs.Nodup → xs[i]? = some x → ws[i]? = some v → bindL kindOf (xs.zip ws) m x = some v
  | [], _, _, i, _, _, h, _ => by simp at h
  | _ :: _, [], _, i, _, _, _, h => by simp at h
  | y :: xs, w :: ws, m, 0, v, nd, h, h' => by
    have e : y = x := by simpa using h
    have e' : w = v := by simpa using h'
    subst e e'
    show bindL kindOf (xs.zip ws) _ y = _
    rw [bindL_at _ _ (fun hm => (List.nodup_cons.mp nd).1 (by
      obtain ⟨p, hp, rfl⟩ := List.mem_map.mp hm
      exact (List.of_mem_zip hp).1))]
    rw [if_pos hk]; simp
  | y :: xs, w :: ws, m, i + 1, v, nd, h, h' => by
    show bindL kindOf (xs.zip ws) _ x = _
    exact bindL_get hk xs ws _ (List.nodup_cons.mp nd).2 (by simpa using h) (by simpa using h')
theorem bindC_get {kindOf : Str → Option NameKind} {x : Str} (hk : kindOf x = some .cell) : ∀ (xs : List Str) (ws : List Value) (m : Str → Option Value) {i : Nat} {v : Value}, xs.Nodup → xs[i]? = some x → ws[i]? = some v → bindC kindOf (xs.zip ws) m x = some v
  | [], _, _, i, _, _, h, _ => by simp at h
  | _ :: _, [], _, i, _, _, _, h => by simp at h
  | y :: xs, w :: ws, m, 0, v, nd, h, h' => by
    have e : y = x := by simpa using h
    have e' : w = v := by simpa using h'
    subst e e'
    show bindC kindOf (xs.zip ws) _ y = _
    rw [bindC_at _ _ (fun hm => (List.nodup_cons.mp nd).1 (by
      obtain ⟨p, hp, rfl⟩ := List.mem_map.mp hm
      exact (List.of_mem_zip hp).1))]
    rw [if_neg (by rw [hk]; decide)]; simp
  | y :: xs, w :: ws, m, i + 1, v, nd, h, h' => by
    show bindC kindOf (xs.zip ws) _ x = _
    exact bindC_get hk xs ws _ (List.nodup_cons.mp nd).2 (by simpa using h) (by simpa using h')

theorem RA.deep {env : Env} (r : RA (n + 1) A) : RA n (A.deeper env) ∧ ((A.deeper env).units + 100 * n + 420 < cLine ∧ (A.deeper env).depth + 10 * n + 15 < recursionLimit) := by
  have h1 := r.units
  have h2 := r.depth
  have e1 : (A.deeper env).units = A.units + 3 := rfl
  have e2 : (A.deeper env).depth = A.depth + 1 := rfl
  exact ⟨⟨r.handled, r.guards, by omega, by omega⟩, by omega, by omega⟩

theorem call_cellsB {prog : Program} {w : World} {s : Shared} {R : Result → Shared → Prop} {a : Addr} {o : Obj} {fd : FuncData} {body : List Stmt} {args : Args} {binds : List (Str × Value)}
    (hroom : A.depth < recursionLimit) (ho : s.heap.get? a = some o) (hdata : o.data = .func fd) (hlim : s.heap.NoLimit) (hcd : s.heap.CodeRec fd.code fd.qualname)
    (hbody : fd.body = .stmts body) (hbind : BindsTo s fd args binds) (hclo : fd.closure = [])
    (hkind : ∀ x ∈ binds, fd.scope.names.lookup x.1 = some .local ∨ (fd.scope.names.lookup x.1 = some .cell ∧ ((cellsFrom (s.heap.objs.size + 1) fd.scope.names []).lookup x.1).isSome = true))
    (h : ∀ s₁, InCallC s (callEnvC fd s.heap.objs.size a).locals (bindL (callEnvC fd s.heap.objs.size a).kindOf binds fun _ => none) (callEnvC fd s.heap.objs.size a).cells
        (bindC (callEnvC fd s.heap.objs.size a).kindOf binds fun _ => none) s₁ →
      wpAny (model prog w) (A.deeper (callEnvC fd s.heap.objs.size a)) (execs body (callEnvC fd s.heap.objs.size a)) (fun f s' => R (.ok (.ret (match f with | .ret v => v | _ => .none))) s') (fun _ _ => False) s₁)
    (hco : fd.scope.isCoroutine = false) (hgen : fd.scope.isGenerator = false) (hk : fd.scope.kind = .function) :
    codeAny (model prog w) A (.call (.ref a) args) R s := by
  refine codeAny_call_function hroom ho hdata hco hgen hbody hcd ?_
  refine hbind _ _ _ _ ?_
  rw [hclo]
  refine wpAny_newFunctionEnv_cells hk hkind fun env he s' x => ?_
  subst he
  exact ⟨hlim.keeps x.toInCall.keep, codeAny_func (wpAny_mono (h s' x) (fun _ _ z => z) fun _ _ z => z.elim)⟩

theorem entry (W : Wd B K mg mb) {f : Addr} {fd : FuncData} {body : List Stmt} (FF : FnF K f fd body) {m : MS} (hcx : ∀ L A', RA n A' → (A'.units + 100 * n + 420 < cLine ∧ A'.depth + 10 * n + 15 < recursionLimit) → Fit B SP K mg mb n cx ⟨callEnvC fd L f, cx.names⟩ A') (hm : mtS m cx (.inr body) = true)
    {ps0 rest : List Str} (hnames : cx.names = ps0 ++ rest) (hnd : cx.names.Nodup) (hkn : ∀ x ∈ ps0, fd.scope.names.lookup x = some .local ∨ fd.scope.names.lookup x = some .cell)
    (hsp : ∀ ds st k, SP2 f ds st k → ∃ es, (ds ++ es).length = ps0.length ∧ (∀ ps h vs, Rvs ps h ds vs → ∃ us, Rvs ps h es us ∧ ∀ s : Shared, K.In s.heap → BindsTo s fd ⟨vs, []⟩ (ps0.zip (vs ++ us))) ∧
      X SP m ⟨(ds ++ es).map some ++ List.replicate rest.length none, st⟩ (fun fl σ => match fl with | .next => k .none σ.st | .ret d => k d σ.st)) : CallOk B SP2 (n + 1) f := by
  intro A rA ds vs st k ps s R hR hg ho rvs hk q
  obtain ⟨es, hlen, hb, hX⟩ := hsp ds st k hk
  obtain ⟨us, rus, hbind⟩ := hb ps s.heap vs rvs
  have rall := rvs.app rus
  have XI : K.In s.heap := W.X.keeps hR.base
  obtain ⟨oc, od, osl, hl⟩ := FF.here
  have hlw : (vs ++ us).length = ps0.length := by rw [← rall.length]; exact hlen
  have zmap : (ps0.zip (vs ++ us)).map (·.1) = ps0 := by
    rw [List.map_fst_zip (by omega)]
  have ndp : ps0.Nodup := by rw [hnames] at hnd; exact (List.nodup_append.mp hnd).1
  have cnd : ∀ b, ((cellsFrom b fd.scope.names []).map (·.1)).Nodup := fun b => by rw [cellsFrom_map _ b 0 [] [] rfl]; exact FF.nd
  have chas : ∀ b x, fd.scope.names.lookup x = some .cell → ∃ c, (cellsFrom b fd.scope.names []).lookup x = some c := fun b x hx => lookup_of_mem (by rw [cellsFrom_map _ b 0 [] [] rfl]; exact FF.hascell x hx)
  refine call_cellsB (binds := ps0.zip (vs ++ us)) (by have := rA.depth; omega) (XI _ _ hl) rfl (W.nolimit.keeps hR.base) (codeRec_of XI FF.code) FF.bd (hbind s XI) FF.clo (fun x hx => ?_) (fun s₁ IC => ?_) FF.co FF.gen FF.kind
  · have hx1 : x.1 ∈ ps0 := zmap ▸ List.mem_map_of_mem (f := (·.1)) hx
    rcases hkn _ hx1 with h | h
    · exact .inl h
    · obtain ⟨c, hc⟩ := chas (s.heap.objs.size + 1) _ h
      exact .inr ⟨h, by rw [hc]; rfl⟩
  · obtain ⟨h1, tk, rfl, keep⟩ := IC.done
    obtain ⟨rd, rs⟩ := rA.deep (env := callEnvC fd s.heap.objs.size f)
    have F := hcx s.heap.objs.size _ rd rs
    have kp : ∀ ps, Kept [] ps s.heap ps h1 := fun ps => (ExtL.nil keep).kept ps
    have above : ∀ a ∈ FC.L ⟨callEnvC fd s.heap.objs.size f, cx.names⟩, s.heap.objs.size ≤ a := fun a ha => by
      rcases List.mem_cons.mp ha with rfl | ha
      · exact Nat.le_refl _
      · obtain ⟨c, hc, rfl⟩ := List.mem_map.mp ha
        exact Nat.le_of_lt (IC.above c.1 c.2 hc)
    have fr : ∀ a ∈ FC.L ⟨callEnvC fd s.heap.objs.size f, cx.names⟩, s.heap.get? a = none := fun a ha => by
      cases e : s.heap.get? a with
      | none => rfl
      | some o => exact absurd (Heap.lt_size e) (Nat.not_lt.mpr (above a ha))
    have G : FC.Good ⟨callEnvC fd s.heap.objs.size f, cx.names⟩ := ⟨FF.kind, hnd, fun c hc => Nat.ne_of_gt (IC.above c.1 c.2 hc), IC.apart⟩
    have hps : ∀ (i : Nat) (x : Str) (d : D), cx.names[i]? = some x → ((ds ++ es).map some ++ List.replicate rest.length none)[i]? = some (some d) → ps0[i]? = some x ∧ ∃ v, (vs ++ us)[i]? = some v ∧ Rv ps h1 d v := fun i x d hx hd => by
      have hi : i < (ds ++ es).length := by
        rcases Nat.lt_or_ge i (ds ++ es).length with h | h
        · exact h
        · rw [List.getElem?_append_right (by simpa using h)] at hd
          have := List.mem_of_getElem? hd
          rw [List.mem_replicate] at this
          cases this.2
      rw [List.getElem?_append_left (by simpa using hi), List.getElem?_map] at hd
      have hd' : (ds ++ es)[i]? = some d := by
        cases e : (ds ++ es)[i]? with
        | none => rw [e] at hd; cases hd
        | some d0 => rw [e] at hd; simpa using hd
      obtain ⟨v, hv, rv⟩ := (rall.mono (kp ps) hR.owns (noSeqs_nil _)).get hd'
      rw [hnames, List.getElem?_append_left (by rw [← hlen]; exact hi)] at hx
      exact ⟨hx, v, hv, rv⟩
    have FRM : Frm B ⟨callEnvC fd s.heap.objs.size f, cx.names⟩ ps h1 ((ds ++ es).map some ++ List.replicate rest.length none) := by
      refine ⟨?_, ⟨_, IC.toInCall.ns, fun i x d hx hd hk => ?_⟩, fun i x hx hk => ?_, fun c hc => ?_, fun a ha => ?_⟩
      · rw [List.length_append, List.length_map, List.length_replicate, hlen, ← List.length_append, ← hnames]
      · obtain ⟨h1, v, hv, rv⟩ := hps i x d hx hd
        exact ⟨v, bindL_get hk ps0 _ _ ndp h1 hv, rv⟩
      · obtain ⟨c, hc⟩ := chas (s.heap.objs.size + 1) x hk
        refine ⟨c, _, hc, IC.cell x c hc, fun d hd => ?_⟩
        obtain ⟨h1, v, hv, rv⟩ := hps i x d hx hd
        exact ⟨v, bindC_get hk ps0 _ _ ndp h1 hv, rv⟩
      · exact ⟨_, IC.cell c.1 c.2 (lookup_nodup (cnd _) hc)⟩
      · refine ⟨fun p hp => ⟨fun e => ?_, fun e => ?_⟩, ?_⟩
        · have := (hR.live hp).1; rw [e, fr a ha] at this; cases this
        · have := (hR.live hp).2; rw [e, fr a ha] at this; cases this
        · cases e : B.h₀.get? a with
          | none => rfl
          | some o => have := hR.base _ _ e; rw [fr a ha] at this; cases this
    have O1 : Ok B ⟨callEnvC fd s.heap.objs.size f, cx.names⟩ ⟨(ds ++ es).map some ++ List.replicate rest.length none, st⟩ ps { s with heap := h1, toks := tk } := ⟨hR.ext (.nil keep) (noSeqs_nil _) (by simp), FRM, hg, ho⟩
    refine (snd_stm m n cx _ _ F G).2 body hm _ _ ps _ _ hX O1 fun fl fw σ' ps' s' kk O' k' rf => ?_
    have kfin : Kept [] ps s.heap ps' s'.heap := (((kp ps).up _).trans k').drop fun a ha => .inr (fr a ha)
    cases fl with
    | next => exact q .none σ'.st ps' s' _ kk O'.rep O'.gens O'.os kfin (by cases fw <;> first | exact .none | exact rf.elim)
    | ret d =>
      cases fw with
      | ret v => exact q d σ'.st ps' s' v kk O'.rep O'.gens O'.os kfin rf
      | _ => exact rf.elim
end Mine
end

section
set_option maxRecDepth 100000
open PySem PySem.W PyProof.Rows
noncomputable section
namespace Mine
noncomputable def b0_based_number : MS := (.seq (.asg 4 (.sm .find (.str [48, 49, 50, 51, 52, 53, 54, 55, 56, 57, 97, 98, 99, 100, 101, 102]) (.cons (.sm .lower (.loc 3) .nil) .nil))) (.seq (.ife (.or (.cmp .lt (.loc 4) (.int 0)) (.cmp .ge (.loc 4) (.loc 1))) (.seq (.ret .none) .skip) .skip) (.seq (.asg 2 (.bin .add (.bin .mul (.loc 2) (.loc 1)) (.loc 4))) .skip)))
noncomputable def m_based_number : MS := (.seq (.ife (.cmp .eq (.loc 0) (.str [])) (.seq (.ret .none) .skip) .skip) (.seq (.asg 2 (.int 0)) (.seq (.forr 3 (.loc 0) b0_based_number) (.seq (.ret (.loc 2)) .skip))))
noncomputable def n_based_number : List Str := [Str.ofString "digits", Str.ofString "base", Str.ofString "number", Str.ofString "sign", Str.ofString "digit"]
noncomputable def m_number_word : MS := (.seq (.ife (.cmp .eq (.slc (.loc 0) .none (.int 2)) (.str [48, 120])) (.seq (.ret (.call 80 (.cons (.slc (.loc 0) (.int 2) .none) (.cons (.int 16) .nil)))) .skip) .skip) (.seq (.ret (.call 80 (.cons (.loc 0) (.cons (.int 10) .nil)))) .skip))
noncomputable def n_number_word : List Str := [Str.ofString "word"]
noncomputable def m_is_word_sign : MS := (.seq (.ret (.cmp .isin (.loc 0) (.str [97, 98, 99, 100, 101, 102, 103, 104, 105, 106, 107, 108, 109, 110, 111, 112, 113, 114, 115, 116, 117, 118, 119, 120, 121, 122, 65, 66, 67, 68, 69, 70, 71, 72, 73, 74, 75, 76, 77, 78, 79, 80, 81, 82, 83, 84, 85, 86, 87, 88, 89, 90, 48, 49, 50, 51, 52, 53, 54, 55, 56, 57, 95, 46, 58, 42, 43, 45, 47]))) .skip)
noncomputable def n_is_word_sign : List Str := [Str.ofString "sign"]
noncomputable def t0_run_end : ME := (.and (.cmp .lt (.loc 1) (.bi .len (.loc 0))) (.call 94 (.cons (.idx (.loc 0) (.loc 1)) .nil)))
noncomputable def b1_run_end : MS := (.seq (.aug 1 .add (.int 1)) .skip)
noncomputable def m_run_end : MS := (.seq (.whl t0_run_end b1_run_end) (.seq (.ret (.loc 1)) .skip))
noncomputable def n_run_end : List Str := [Str.ofString "text", Str.ofString "at"]
noncomputable def t0_string_end : ME := (.and (.cmp .lt (.loc 4) (.bi .len (.loc 0))) (.cmp .ne (.idx (.loc 0) (.loc 4)) (.str [10])))
noncomputable def b1_string_end : MS := (.seq (.ife (.cmp .eq (.idx (.loc 0) (.loc 4)) (.str [34])) (.seq (.ret (.bin .add (.loc 4) (.int 1))) .skip) .skip) (.seq (.aug 4 .add (.int 1)) .skip))
noncomputable def m_string_end : MS := (.seq (.asg 4 (.bin .add (.loc 1) (.int 1))) (.seq (.whl t0_string_end b1_string_end) (.seq .dead .skip)))
noncomputable def n_string_end : List Str := [Str.ofString "text", Str.ofString "at", Str.ofString "row", Str.ofString "column", Str.ofString "behind"]
noncomputable def m_put_run : MS := (.seq (.ife (.and (.cmp .eq (.idx (.loc 1) (.int 0)) (.str [58])) (.cmp .ne (.slc (.loc 1) .none (.int 2)) (.str [58, 58]))) (.seq (.exp (.sm .append (.loc 0) (.cons (.tup (.cons (.str [115, 105, 103, 110]) (.cons (.str [58]) (.cons (.loc 2) (.cons (.loc 3) .nil))))) .nil))) (.seq (.asg 1 (.slc (.loc 1) (.int 1) .none)) (.seq (.aug 3 .add (.int 1)) .skip))) .skip) (.seq (.asg 4 (.and (.cmp .eq (.slc (.loc 1) (.int (-1)) .none) (.str [58])) (.cmp .ne (.slc (.loc 1) (.int (-2)) .none) (.str [58, 58])))) (.seq (.ife (.loc 4) (.seq (.asg 1 (.slc (.loc 1) .none (.int (-1)))) .skip) .skip) (.seq (.ife (.or (.cmp .eq (.loc 1) (.str [46])) (.cmp .eq (.loc 1) (.str [47]))) (.seq (.exp (.sm .append (.loc 0) (.cons (.tup (.cons (.str [115, 105, 103, 110]) (.cons (.loc 1) (.cons (.loc 2) (.cons (.loc 3) .nil))))) .nil))) .skip) (.seq (.ife (.cmp .ne (.loc 1) (.str [])) (.seq (.exp (.sm .append (.loc 0) (.cons (.tup (.cons (.str [119, 111, 114, 100]) (.cons (.loc 1) (.cons (.loc 2) (.cons (.loc 3) .nil))))) .nil))) .skip) .skip) .skip)) (.seq (.ife (.loc 4) (.seq (.exp (.sm .append (.loc 0) (.cons (.tup (.cons (.str [115, 105, 103, 110]) (.cons (.str [58]) (.cons (.loc 2) (.cons (.bin .add (.loc 3) (.bi .len (.loc 1))) .nil))))) .nil))) .skip) .skip) .skip)))))
noncomputable def n_put_run : List Str := [Str.ofString "tokens", Str.ofString "run", Str.ofString "row", Str.ofString "column", Str.ofString "is_cut"]
noncomputable def t0_read_tokens : ME := (.cmp .lt (.loc 2) (.bi .len (.loc 0)))
noncomputable def t1_read_tokens : ME := (.and (.cmp .lt (.loc 7) (.bi .len (.loc 0))) (.cmp .ne (.idx (.loc 0) (.loc 7)) (.str [10])))
noncomputable def b2_read_tokens : MS := (.seq (.aug 7 .add (.int 1)) .skip)
noncomputable def b3_read_tokens : MS := (.seq (.asg 5 (.idx (.loc 0) (.loc 2))) (.seq (.asg 6 (.bin .add (.bin .sub (.loc 2) (.loc 4)) (.int 1))) (.seq (.asg 7 (.bin .add (.loc 2) (.int 1))) (.seq (.ife (.cmp .eq (.loc 5) (.str [10])) (.seq (.exp (.sm .append (.loc 1) (.cons (.tup (.cons (.str [101, 110, 100]) (.cons (.loc 5) (.cons (.loc 3) (.cons (.loc 6) .nil))))) .nil))) (.seq (.aug 3 .add (.int 1)) (.seq (.asg 4 (.loc 7)) .skip))) (.seq (.ife (.cmp .eq (.loc 5) (.str [59])) (.seq (.exp (.sm .append (.loc 1) (.cons (.tup (.cons (.str [101, 110, 100]) (.cons (.loc 5) (.cons (.loc 3) (.cons (.loc 6) .nil))))) .nil))) .skip) (.seq (.ife (.cmp .eq (.loc 5) (.str [35])) (.seq (.whl t1_read_tokens b2_read_tokens) .skip) (.seq (.ife (.and (.cmp .eq (.loc 5) (.str [92])) (.cmp .eq (.slc (.loc 0) (.loc 7) (.bin .add (.loc 7) (.int 1))) (.str [10]))) (.seq (.aug 7 .add (.int 1)) (.seq (.aug 3 .add (.int 1)) (.seq (.asg 4 (.loc 7)) .skip))) (.seq (.ife (.cmp .eq (.loc 5) (.str [34])) (.seq (.asg 7 (.call 108 (.cons (.loc 0) (.cons (.loc 2) (.cons (.loc 3) (.cons (.loc 6) .nil)))))) (.seq (.exp (.sm .append (.loc 1) (.cons (.tup (.cons (.str [115, 116, 114, 105, 110, 103]) (.cons (.slc (.loc 0) (.bin .add (.loc 2) (.int 1)) (.bin .sub (.loc 7) (.int 1))) (.cons (.loc 3) (.cons (.loc 6) .nil))))) .nil))) .skip)) (.seq (.ife (.call 94 (.cons (.loc 5) .nil)) (.seq (.asg 7 (.call 101 (.cons (.loc 0) (.cons (.loc 2) .nil)))) (.seq (.exp (.call 115 (.cons (.loc 1) (.cons (.slc (.loc 0) (.loc 2) (.loc 7)) (.cons (.loc 3) (.cons (.loc 6) .nil)))))) .skip)) (.seq (.ife (.cmp .isin (.slc (.loc 0) (.loc 2) (.bin .add (.loc 2) (.int 2))) (.tup (.cons (.str [61, 61]) (.cons (.str [33, 61]) (.cons (.str [60, 61]) (.cons (.str [62, 61]) (.cons (.str [60, 60]) (.cons (.str [62, 62]) .nil)))))))) (.seq (.asg 7 (.bin .add (.loc 2) (.int 2))) (.seq (.exp (.sm .append (.loc 1) (.cons (.tup (.cons (.str [115, 105, 103, 110]) (.cons (.slc (.loc 0) (.loc 2) (.loc 7)) (.cons (.loc 3) (.cons (.loc 6) .nil))))) .nil))) .skip)) (.seq (.ife (.cmp .isin (.loc 5) (.str [123, 125, 40, 41, 91, 93, 44, 61, 60, 62, 38, 124, 94, 33, 64, 36])) (.seq (.exp (.sm .append (.loc 1) (.cons (.tup (.cons (.str [115, 105, 103, 110]) (.cons (.loc 5) (.cons (.loc 3) (.cons (.loc 6) .nil))))) .nil))) .skip) (.seq (.ife (.cmp .notin (.loc 5) (.str [32, 9, 13])) (.seq .dead .skip) .skip) .skip)) .skip)) .skip)) .skip)) .skip)) .skip)) .skip)) .skip)) (.seq (.asg 2 (.loc 7)) .skip)))))
noncomputable def m_read_tokens : MS := (.seq (.asg 1 (.lstM .nil)) (.seq (.asg 2 (.int 0)) (.seq (.asg 3 (.int 1)) (.seq (.asg 4 (.int 0)) (.seq (.whl t0_read_tokens b3_read_tokens) (.seq (.exp (.sm .append (.loc 1) (.cons (.tup (.cons (.str [101, 111, 102]) (.cons (.str []) (.cons (.loc 3) (.cons (.bin .add (.bin .sub (.loc 2) (.loc 4)) (.int 1)) .nil))))) .nil))) (.seq (.ret (.loc 1)) .skip)))))))
noncomputable def n_read_tokens : List Str := [Str.ofString "text", Str.ofString "tokens", Str.ofString "at", Str.ofString "row", Str.ofString "begin", Str.ofString "sign", Str.ofString "column", Str.ofString "behind"]
noncomputable def m_Reader_init : MS := (.seq (.asgA (.loc 0) 217 0 (.loc 1)) (.seq (.asgA (.loc 0) 217 1 (.int 0)) (.seq (.asgA (.loc 0) 217 2 (.loc 2)) (.seq (.asgA (.loc 0) 217 3 (.dct [])) (.seq (.asgA (.loc 0) 217 4 (.str [])) (.seq (.asgA (.loc 0) 217 5 (.str [])) .skip))))))
noncomputable def n_Reader_init : List Str := [Str.ofString "self", Str.ofString "tokens", Str.ofString "tongue"]
noncomputable def m_look : MS := (.seq (.asg 2 (.bin .add (.att (.loc 0) 217 1) (.loc 1))) (.seq (.ife (.cmp .ge (.loc 2) (.bi .len (.att (.loc 0) 217 0))) (.seq (.asg 2 (.bin .sub (.bi .len (.att (.loc 0) 217 0)) (.int 1))) .skip) .skip) (.seq (.ret (.idx (.att (.loc 0) 217 0) (.loc 2))) .skip)))
noncomputable def n_look : List Str := [Str.ofString "self", Str.ofString "ahead", Str.ofString "place"]
noncomputable def m_take : MS := (.seq (.asg 1 (.meth (.loc 0) 217 8 158 .nil)) (.seq (.augA (.loc 0) 217 1 .add (.int 1)) (.seq (.ret (.loc 1)) .skip)))
noncomputable def n_take : List Str := [Str.ofString "self", Str.ofString "token"]
noncomputable def m_is_word : MS := (.seq (.asg 2 (.meth (.loc 0) 217 8 158 .nil)) (.seq (.ret (.and (.cmp .eq (.idx (.loc 2) (.int 0)) (.str [119, 111, 114, 100])) (.cmp .eq (.idx (.loc 2) (.int 1)) (.loc 1)))) .skip))
noncomputable def n_is_word : List Str := [Str.ofString "self", Str.ofString "text", Str.ofString "token"]
noncomputable def m_number_here : MS := (.seq (.asg 1 (.meth (.loc 0) 217 8 158 .nil)) (.seq (.asg 2 .none) (.seq (.ife (.cmp .eq (.idx (.loc 1) (.int 0)) (.str [119, 111, 114, 100])) (.seq (.asg 2 (.call 87 (.cons (.idx (.loc 1) (.int 1)) .nil))) .skip) .skip) (.seq (.ife (.cmp .is (.loc 2) .none) (.seq .dead .skip) .skip) (.seq (.exp (.meth (.loc 0) 217 9 165 .nil)) (.seq (.ret (.loc 2)) .skip))))))
noncomputable def n_number_here : List Str := [Str.ofString "reader", Str.ofString "token", Str.ofString "number"]
noncomputable def m_keyword : MS := (.seq (.ife (.not (.meth (.loc 0) 217 10 179 (.cons (.loc 1) .nil))) (.seq .dead .skip) .skip) (.seq (.exp (.meth (.loc 0) 217 9 165 .nil)) .skip))
noncomputable def n_keyword : List Str := [Str.ofString "reader", Str.ofString "word"]
noncomputable def m_number_to : MS := (.seq (.asg 2 (.meth (.loc 0) 217 8 158 .nil)) (.seq (.ife (.cmp .eq (.idx (.loc 2) (.int 0)) (.str [119, 111, 114, 100])) (.seq (.asg 3 (.call 87 (.cons (.idx (.loc 2) (.int 1)) .nil))) (.seq (.ife (.and (.cmp .isnot (.loc 3) .none) (.cmp .gt (.loc 3) (.loc 1))) (.seq .dead .skip) .skip) .skip)) .skip) (.seq (.ret (.call 235 (.cons (.loc 0) .nil))) .skip)))
noncomputable def n_number_to : List Str := [Str.ofString "reader", Str.ofString "top", Str.ofString "token", Str.ofString "n"]
noncomputable def m_read_text : MS := (.seq (.ife (.cmp .notin (.idx (.meth (.loc 0) 217 8 158 .nil) (.int 0)) (.tup (.cons (.str [115, 116, 114, 105, 110, 103]) (.cons (.str [119, 111, 114, 100]) .nil)))) (.seq .dead .skip) .skip) (.seq (.ret (.idx (.meth (.loc 0) 217 9 165 .nil) (.int 1))) .skip))
noncomputable def n_read_text : List Str := [Str.ofString "reader"]
noncomputable def m_size_unit : MS := (.seq (.asg 2 (.slc (.lst (.cons (.str [98, 121, 116, 101, 115]) (.cons (.str [107, 98, 121, 116, 101, 115]) (.cons (.str [109, 98, 121, 116, 101, 115]) (.cons (.str [103, 98, 121, 116, 101, 115]) .nil))))) .none (.loc 1))) (.seq (.ret (.ife (.cmp .isin (.loc 0) (.loc 2)) (.bin .pow (.int 1024) (.sm .index (.loc 2) (.cons (.loc 0) .nil))) (.int 0))) .skip))
noncomputable def n_size_unit : List Str := [Str.ofString "word", Str.ofString "many", Str.ofString "units"]
noncomputable def m_sized : MS := (.seq (.ife (.cmp .ge (.bin .mul (.loc 1) (.loc 2)) (.bin .pow (.int 2) (.int 64))) (.seq .dead .skip) .skip) (.seq (.ret (.bin .mul (.loc 1) (.loc 2))) .skip))
noncomputable def n_sized : List Str := [Str.ofString "reader", Str.ofString "n", Str.ofString "unit"]
noncomputable def m_read_size : MS := (.seq (.asg 2 (.call 256 (.cons (.loc 0) (.cons (.bin .sub (.bin .pow (.int 2) (.int 64)) (.int 1)) .nil)))) (.seq (.asg 3 (.meth (.loc 0) 217 8 158 .nil)) (.seq (.asg 4 (.ife (.cmp .eq (.idx (.loc 3) (.int 0)) (.str [119, 111, 114, 100])) (.call 270 (.cons (.idx (.loc 3) (.int 1)) (.cons (.loc 1) .nil))) (.int 0))) (.seq (.ife (.cmp .eq (.loc 4) (.int 0)) (.seq .dead .skip) .skip) (.seq (.asg 5 (.call 277 (.cons (.loc 0) (.cons (.loc 2) (.cons (.loc 4) .nil))))) (.seq (.exp (.meth (.loc 0) 217 9 165 .nil)) (.seq (.ret (.loc 5)) .skip)))))))
noncomputable def n_read_size : List Str := [Str.ofString "reader", Str.ofString "many", Str.ofString "n", Str.ofString "token", Str.ofString "unit", Str.ofString "octets"]
noncomputable def m_read_over : MS := (.seq (.asg 1 (.meth (.loc 0) 217 10 179 (.cons (.str [111, 118, 101, 114]) .nil))) (.seq (.ife (.or (.loc 1) (.meth (.loc 0) 217 10 179 (.cons (.str [117, 110, 116, 105, 108]) .nil))) (.seq (.exp (.meth (.loc 0) 217 9 165 .nil)) .skip) .skip) (.seq (.ret (.loc 1)) .skip)))
noncomputable def n_read_over : List Str := [Str.ofString "reader", Str.ofString "is_over"]
noncomputable def m_read_object : MS := (.seq (.exp (.meth (.loc 0) 217 9 165 .nil)) (.seq (.ret (.tup (.cons (.str [111, 98, 106, 101, 99, 116]) (.cons (.loc 1) (.cons (.call 263 (.cons (.loc 0) .nil)) .nil))))) .skip))
noncomputable def n_read_object : List Str := [Str.ofString "reader", Str.ofString "kind"]
noncomputable def m_read_counter_body : MS := (.seq (.ife (.not (.meth (.loc 0) 217 10 179 (.cons (.str [112, 97, 99, 107, 101, 116, 115]) .nil))) (.seq (.ret (.tup (.cons (.int 0) (.cons (.int 0) .nil)))) .skip) .skip) (.seq (.exp (.meth (.loc 0) 217 9 165 .nil)) (.seq (.asg 1 (.call 256 (.cons (.loc 0) (.cons (.bin .sub (.bin .pow (.int 2) (.int 64)) (.int 1)) .nil)))) (.seq (.exp (.call 242 (.cons (.loc 0) (.cons (.str [98, 121, 116, 101, 115]) .nil)))) (.seq (.ret (.tup (.cons (.loc 1) (.cons (.call 256 (.cons (.loc 0) (.cons (.bin .sub (.bin .pow (.int 2) (.int 64)) (.int 1)) .nil))) .nil)))) .skip)))))
noncomputable def n_read_counter_body : List Str := [Str.ofString "reader", Str.ofString "packets"]
noncomputable def m_read_counter : MS := (.seq (.exp (.meth (.loc 0) 217 9 165 .nil)) (.seq (.ife (.meth (.loc 0) 217 10 179 (.cons (.str [110, 97, 109, 101]) .nil)) (.seq (.ret (.call 299 (.cons (.loc 0) (.cons (.str [99, 111, 117, 110, 116, 101, 114]) .nil)))) .skip) .skip) (.seq (.asgT [1, 2] (.call 306 (.cons (.loc 0) .nil))) (.seq (.ret (.tup (.cons (.str [99, 111, 117, 110, 116, 101, 114]) (.cons (.loc 1) (.cons (.loc 2) .nil))))) .skip))))
noncomputable def n_read_counter : List Str := [Str.ofString "reader", Str.ofString "packets", Str.ofString "octets"]
noncomputable def m_read_quota_body : MS := (.seq (.asg 1 (.call 292 (.cons (.loc 0) .nil))) (.seq (.asg 2 (.call 285 (.cons (.loc 0) .nil))) (.seq (.ife (.not (.meth (.loc 0) 217 10 179 (.cons (.str [117, 115, 101, 100]) .nil))) (.seq (.ret (.tup (.cons (.loc 1) (.cons (.loc 2) (.cons (.int 0) .nil))))) .skip) .skip) (.seq (.exp (.meth (.loc 0) 217 9 165 .nil)) (.seq (.ret (.tup (.cons (.loc 1) (.cons (.loc 2) (.cons (.call 285 (.cons (.loc 0) .nil)) .nil))))) .skip)))))
noncomputable def n_read_quota_body : List Str := [Str.ofString "reader", Str.ofString "is_over", Str.ofString "octets"]
noncomputable def m_read_quota : MS := (.seq (.exp (.meth (.loc 0) 217 9 165 .nil)) (.seq (.ife (.meth (.loc 0) 217 10 179 (.cons (.str [110, 97, 109, 101]) .nil)) (.seq (.ret (.call 299 (.cons (.loc 0) (.cons (.str [113, 117, 111, 116, 97]) .nil)))) .skip) .skip) (.seq (.asgT [1, 2, 3] (.call 320 (.cons (.loc 0) .nil))) (.seq (.ret (.tup (.cons (.str [113, 117, 111, 116, 97]) (.cons (.loc 1) (.cons (.loc 2) (.cons (.loc 3) .nil)))))) .skip))))
noncomputable def n_read_quota : List Str := [Str.ofString "reader", Str.ofString "is_over", Str.ofString "octets", Str.ofString "used"]
noncomputable def m_cut_word : MS := (.seq (.asg 1 (.meth (.loc 0) 217 8 158 .nil)) (.seq (.ife (.cmp .ne (.idx (.loc 1) (.int 0)) (.str [119, 111, 114, 100])) (.seq (.ret (.tup (.cons (.str []) (.cons .none .nil)))) .skip) .skip) (.seq (.asg 2 (.sm .find (.idx (.loc 1) (.int 1)) (.cons (.str [47]) .nil))) (.seq (.ife (.cmp .lt (.loc 2) (.int 0)) (.seq (.ret (.tup (.cons (.idx (.loc 1) (.int 1)) (.cons .none .nil)))) .skip) .skip) (.seq (.ret (.tup (.cons (.slc (.idx (.loc 1) (.int 1)) .none (.loc 2)) (.cons (.slc (.idx (.loc 1) (.int 1)) (.bin .add (.loc 2) (.int 1)) .none) .nil)))) .skip)))))
noncomputable def n_cut_word : List Str := [Str.ofString "reader", Str.ofString "token", Str.ofString "at"]
noncomputable def m_is_stroke : MS := (.seq (.ret (.and (.cmp .isin (.idx (.loc 0) (.int 0)) (.tup (.cons (.str [115, 105, 103, 110]) (.cons (.str [119, 111, 114, 100]) .nil)))) (.cmp .eq (.slc (.idx (.loc 0) (.int 1)) .none (.int 1)) (.str [47])))) .skip)
noncomputable def n_is_stroke : List Str := [Str.ofString "token"]
noncomputable def m_read_unit : MS := (.seq (.ife (.and (.cmp .is (.loc 1) .none) (.call 341 (.cons (.meth (.loc 0) 217 8 158 (.cons (.int 1) .nil)) .nil))) (.seq (.exp (.meth (.loc 0) 217 9 165 .nil)) (.seq (.asg 1 (.slc (.idx (.meth (.loc 0) 217 8 158 .nil) (.int 1)) (.int 1) .none)) .skip)) .skip) (.seq (.ife (.and (.cmp .eq (.loc 1) (.str [])) (.cmp .eq (.idx (.meth (.loc 0) 217 8 158 (.cons (.int 1) .nil)) (.int 0)) (.str [119, 111, 114, 100]))) (.seq (.exp (.meth (.loc 0) 217 9 165 .nil)) (.seq (.asg 1 (.idx (.meth (.loc 0) 217 8 158 .nil) (.int 1))) .skip)) .skip) (.seq (.ife (.cmp .notin (.loc 1) (.tup (.cons (.str [115, 101, 99, 111, 110, 100]) (.cons (.str [109, 105, 110, 117, 116, 101]) (.cons (.str [104, 111, 117, 114]) (.cons (.str [100, 97, 121]) (.cons (.str [119, 101, 101, 107]) .nil))))))) (.seq .dead .skip) .skip) (.seq (.exp (.meth (.loc 0) 217 9 165 .nil)) (.seq (.ret (.loc 1)) .skip)))))
noncomputable def n_read_unit : List Str := [Str.ofString "reader", Str.ofString "tail"]
noncomputable def m_read_rate : MS := (.seq (.asgT [1, 2] (.call 334 (.cons (.loc 0) .nil))) (.seq (.asg 3 (.call 87 (.cons (.loc 1) .nil))) (.seq (.ife (.cmp .is (.loc 3) .none) (.seq .dead .skip) .skip) (.seq (.ife (.cmp .ge (.loc 3) (.bin .pow (.int 2) (.int 64))) (.seq .dead .skip) .skip) (.seq (.asg 4 (.int 0)) (.seq (.ife (.and (.cmp .is (.loc 2) .none) (.not (.call 341 (.cons (.meth (.loc 0) 217 8 158 (.cons (.int 1) .nil)) .nil)))) (.seq (.exp (.meth (.loc 0) 217 9 165 .nil)) (.seq (.asgT [1, 2] (.call 334 (.cons (.loc 0) .nil))) (.seq (.asg 4 (.call 270 (.cons (.loc 1) (.cons (.int 3) .nil)))) (.seq (.ife (.cmp .eq (.loc 4) (.int 0)) (.seq .dead .skip) .skip) (.seq (.asg 3 (.call 277 (.cons (.loc 0) (.cons (.loc 3) (.cons (.loc 4) .nil))))) .skip))))) .skip) (.seq (.asg 5 (.call 348 (.cons (.loc 0) (.cons (.loc 2) .nil)))) (.seq (.ret (.tup (.cons (.loc 3) (.cons (.loc 5) (.cons (.cmp .gt (.loc 4) (.int 0)) .nil))))) .skip))))))))
noncomputable def n_read_rate : List Str := [Str.ofString "reader", Str.ofString "head", Str.ofString "tail", Str.ofString "rate", Str.ofString "size", Str.ofString "unit"]
noncomputable def m_read_limit_body : MS := (.seq (.exp (.call 242 (.cons (.loc 0) (.cons (.str [114, 97, 116, 101]) .nil)))) (.seq (.asg 1 (.call 292 (.cons (.loc 0) .nil))) (.seq (.asgT [2, 3, 4] (.call 355 (.cons (.loc 0) .nil))) (.seq (.ife (.not (.meth (.loc 0) 217 10 179 (.cons (.str [98, 117, 114, 115, 116]) .nil))) (.seq (.ret (.tup (.cons (.loc 1) (.cons (.loc 2) (.cons (.loc 3) (.cons (.ife (.loc 4) (.int 0) (.int 5)) (.cons (.loc 4) .nil))))))) .skip) .skip) (.seq (.exp (.meth (.loc 0) 217 9 165 .nil)) (.seq (.ife (.loc 4) (.seq (.ret (.tup (.cons (.loc 1) (.cons (.loc 2) (.cons (.loc 3) (.cons (.call 285 (.cons (.loc 0) (.cons (.int 3) .nil))) (.cons (.loc 4) .nil))))))) .skip) .skip) (.seq (.asg 5 (.call 256 (.cons (.loc 0) (.cons (.bin .sub (.bin .pow (.int 2) (.int 32)) (.int 1)) .nil)))) (.seq (.exp (.call 242 (.cons (.loc 0) (.cons (.str [112, 97, 99, 107, 101, 116, 115]) .nil)))) (.seq (.ret (.tup (.cons (.loc 1) (.cons (.loc 2) (.cons (.loc 3) (.cons (.loc 5) (.cons (.loc 4) .nil))))))) .skip)))))))))
noncomputable def n_read_limit_body : List Str := [Str.ofString "reader", Str.ofString "is_over", Str.ofString "rate", Str.ofString "unit", Str.ofString "is_octets", Str.ofString "burst"]
noncomputable def m_read_limit : MS := (.seq (.exp (.meth (.loc 0) 217 9 165 .nil)) (.seq (.ife (.meth (.loc 0) 217 10 179 (.cons (.str [110, 97, 109, 101]) .nil)) (.seq (.ret (.call 299 (.cons (.loc 0) (.cons (.str [108, 105, 109, 105, 116]) .nil)))) .skip) .skip) (.seq (.asgT [1, 2, 3, 4, 5] (.call 362 (.cons (.loc 0) .nil))) (.seq (.ret (.tup (.cons (.str [108, 105, 109, 105, 116]) (.cons (.loc 1) (.cons (.loc 2) (.cons (.loc 3) (.cons (.loc 4) (.cons (.loc 5) .nil)))))))) .skip))))
noncomputable def n_read_limit : List Str := [Str.ofString "reader", Str.ofString "is_over", Str.ofString "rate", Str.ofString "unit", Str.ofString "burst", Str.ofString "is_octets"]
noncomputable def m_meter_words : MS := (.seq (.ret (.dct [([99, 111, 117, 110, 116, 101, 114], 313), ([113, 117, 111, 116, 97], 327), ([108, 105, 109, 105, 116], 369)])) .skip)
noncomputable def n_meter_words : List Str := []
noncomputable def t0_read_log : ME := (.and (.or (.meth (.loc 0) 217 10 179 (.cons (.str [112, 114, 101, 102, 105, 120]) .nil)) (.meth (.loc 0) 217 10 179 (.cons (.str [108, 101, 118, 101, 108]) .nil))) (.cmp .notin (.idx (.meth (.loc 0) 217 8 158 .nil) (.int 1)) (.loc 1)))
noncomputable def b1_read_log : MS := (.seq (.asg 2 (.idx (.meth (.loc 0) 217 9 165 .nil) (.int 1))) (.seq (.ife (.cmp .eq (.loc 2) (.str [112, 114, 101, 102, 105, 120])) (.seq (.ife (.cmp .gt (.bi .len (.idx (.meth (.loc 0) 217 8 158 .nil) (.int 1))) (.int 127)) (.seq .dead .skip) .skip) (.seq (.asgI (.loc 1) (.loc 2) (.call 263 (.cons (.loc 0) .nil))) .skip)) (.seq (.ife (.cmp .notin (.idx (.meth (.loc 0) 217 8 158 .nil) (.int 1)) (.tup (.cons (.str [101, 109, 101, 114, 103]) (.cons (.str [97, 108, 101, 114, 116]) (.cons (.str [99, 114, 105, 116]) (.cons (.str [101, 114, 114]) (.cons (.str [119, 97, 114, 110]) (.cons (.str [110, 111, 116, 105, 99, 101]) (.cons (.str [105, 110, 102, 111]) (.cons (.str [100, 101, 98, 117, 103]) .nil)))))))))) (.seq .dead .skip) .skip) (.seq (.asgI (.loc 1) (.loc 2) (.idx (.meth (.loc 0) 217 9 165 .nil) (.int 1))) .skip))) .skip))
noncomputable def m_read_log : MS := (.seq (.exp (.meth (.loc 0) 217 9 165 .nil)) (.seq (.asg 1 (.dct [])) (.seq (.whl t0_read_log b1_read_log) (.seq (.ret (.tup (.cons (.str [108, 111, 103]) (.cons (.sm .get (.loc 1) (.cons (.str [112, 114, 101, 102, 105, 120]) (.cons (.str []) .nil))) (.cons (.sm .get (.loc 1) (.cons (.str [108, 101, 118, 101, 108]) (.cons (.str [119, 97, 114, 110]) .nil))) .nil))))) .skip))))
noncomputable def n_read_log : List Str := [Str.ofString "reader", Str.ofString "told", Str.ofString "word"]
noncomputable def m_read_notrack : MS := (.seq (.exp (.meth (.loc 0) 217 9 165 .nil)) (.seq (.ret (.tup (.cons (.str [110, 111, 116, 114, 97, 99, 107]) .nil))) .skip))
noncomputable def n_read_notrack : List Str := [Str.ofString "reader"]
noncomputable def m_Tongue_init : MS := (.seq (.asgA (.loc 0) 407 6 (.loc 1)) (.seq (.asgA (.loc 0) 407 7 (.loc 2)) .skip))
noncomputable def n_Tongue_init : List Str := [Str.ofString "self", Str.ofString "fields", Str.ofString "types"]
noncomputable def m_quoted : MS := (.seq (.ife (.or (.cmp .isin (.str [34]) (.loc 0)) (.cmp .isin (.str [10]) (.loc 0))) (.seq .dead .skip) .skip) (.seq (.ret (.bin .add (.bin .add (.str [34]) (.loc 0)) (.str [34]))) .skip))
noncomputable def n_quoted : List Str := [Str.ofString "text"]
noncomputable def t0_print_units : ME := (.and (.cmp .lt (.bin .add (.loc 3) (.int 1)) (.loc 1)) (.and (.cmp .ne (.loc 0) (.int 0)) (.cmp .eq (.bin .mod (.loc 0) (.int 1024)) (.int 0))))
noncomputable def b1_print_units : MS := (.seq (.asg 0 (.bin .fdiv (.loc 0) (.int 1024))) (.seq (.aug 3 .add (.int 1)) .skip))
noncomputable def m_print_units : MS := (.seq (.asg 2 (.tup (.cons (.str [98, 121, 116, 101, 115]) (.cons (.str [107, 98, 121, 116, 101, 115]) (.cons (.str [109, 98, 121, 116, 101, 115]) (.cons (.str [103, 98, 121, 116, 101, 115]) .nil)))))) (.seq (.asg 3 (.int 0)) (.seq (.whl t0_print_units b1_print_units) (.seq (.ret (.bin .add (.bin .add (.bi .str (.loc 0)) (.str [32])) (.idx (.loc 2) (.loc 3)))) .skip))))
noncomputable def n_print_units : List Str := [Str.ofString "octets", Str.ofString "many", Str.ofString "units", Str.ofString "rank"]
noncomputable def m_print_size : MS := (.seq (.ret (.call 425 (.cons (.loc 0) (.cons (.int 4) .nil)))) .skip)
noncomputable def n_print_size : List Str := [Str.ofString "octets"]
noncomputable def m_print_counter : MS := (.seq (.ret (.bin .add (.bin .add (.bin .add (.str [99, 111, 117, 110, 116, 101, 114, 32, 112, 97, 99, 107, 101, 116, 115, 32]) (.bi .str (.idx (.loc 1) (.int 1)))) (.str [32, 98, 121, 116, 101, 115, 32])) (.bi .str (.idx (.loc 1) (.int 2))))) .skip)
noncomputable def n_print_counter : List Str := [Str.ofString "tongue", Str.ofString "statement"]
noncomputable def m_print_quota : MS := (.seq (.asg 2 (.str [113, 117, 111, 116, 97, 32])) (.seq (.ife (.idx (.loc 1) (.int 1)) (.seq (.aug 2 .add (.str [111, 118, 101, 114, 32])) .skip) .skip) (.seq (.aug 2 .add (.call 432 (.cons (.idx (.loc 1) (.int 2)) .nil))) (.seq (.ife (.cmp .ne (.idx (.loc 1) (.int 3)) (.int 0)) (.seq (.aug 2 .add (.bin .add (.str [32, 117, 115, 101, 100, 32]) (.call 432 (.cons (.idx (.loc 1) (.int 3)) .nil)))) .skip) .skip) (.seq (.ret (.loc 2)) .skip)))))
noncomputable def n_print_quota : List Str := [Str.ofString "tongue", Str.ofString "statement", Str.ofString "text"]
noncomputable def m_print_limit : MS := (.seq (.asgT [2, 3, 4, 5, 6] (.slc (.loc 1) (.int 1) .none)) (.seq (.asg 7 (.str [108, 105, 109, 105, 116, 32, 114, 97, 116, 101, 32])) (.seq (.ife (.loc 2) (.seq (.aug 7 .add (.str [111, 118, 101, 114, 32])) .skip) .skip) (.seq (.ife (.not (.loc 6)) (.seq (.ret (.bin .add (.bin .add (.bin .add (.bin .add (.bin .add (.bin .add (.loc 7) (.bi .str (.loc 3))) (.str [47])) (.loc 4)) (.str [32, 98, 117, 114, 115, 116, 32])) (.bi .str (.loc 5))) (.str [32, 112, 97, 99, 107, 101, 116, 115]))) .skip) .skip) (.seq (.aug 7 .add (.bin .add (.bin .add (.call 425 (.cons (.loc 3) (.cons (.int 3) .nil))) (.str [47])) (.loc 4))) (.seq (.ife (.cmp .ne (.loc 5) (.int 0)) (.seq (.aug 7 .add (.bin .add (.str [32, 98, 117, 114, 115, 116, 32]) (.call 425 (.cons (.loc 5) (.cons (.int 3) .nil))))) .skip) .skip) (.seq (.ret (.loc 7)) .skip)))))))
noncomputable def n_print_limit : List Str := [Str.ofString "tongue", Str.ofString "statement", Str.ofString "is_over", Str.ofString "rate", Str.ofString "unit", Str.ofString "burst", Str.ofString "is_octets", Str.ofString "text"]
noncomputable def m_print_object : MS := (.seq (.ret (.bin .add (.bin .add (.idx (.loc 1) (.int 1)) (.str [32, 110, 97, 109, 101, 32])) (.call 418 (.cons (.idx (.loc 1) (.int 2)) .nil)))) .skip)
noncomputable def n_print_object : List Str := [Str.ofString "tongue", Str.ofString "statement"]
noncomputable def m_meter_printers : MS := (.seq (.ret (.dct [([99, 111, 117, 110, 116, 101, 114], 439), ([113, 117, 111, 116, 97], 446), ([108, 105, 109, 105, 116], 453), ([111, 98, 106, 101, 99, 116], 460)])) .skip)
noncomputable def n_meter_printers : List Str := []
noncomputable def m_print_log : MS := (.seq (.asg 2 (.str [108, 111, 103])) (.seq (.ife (.cmp .ne (.idx (.loc 1) (.int 1)) (.str [])) (.seq (.aug 2 .add (.bin .add (.str [32, 112, 114, 101, 102, 105, 120, 32]) (.call 418 (.cons (.idx (.loc 1) (.int 1)) .nil)))) .skip) .skip) (.seq (.ife (.cmp .ne (.idx (.loc 1) (.int 2)) (.str [119, 97, 114, 110])) (.seq (.aug 2 .add (.bin .add (.str [32, 108, 101, 118, 101, 108, 32]) (.idx (.loc 1) (.int 2)))) .skip) .skip) (.seq (.ret (.loc 2)) .skip))))
noncomputable def n_print_log : List Str := [Str.ofString "tongue", Str.ofString "statement", Str.ofString "text"]
noncomputable def m_print_notrack : MS := (.seq (.ret (.str [110, 111, 116, 114, 97, 99, 107])) .skip)
noncomputable def n_print_notrack : List Str := [Str.ofString "tongue", Str.ofString "statement"]
noncomputable def m_print_statement : MS := (.seq (.ife (.cmp .notin (.idx (.loc 2) (.int 0)) (.loc 1)) (.seq .dead .skip) .skip) (.seq (.ret (.callv [439, 446, 453, 460, 474, 481] (.idx (.loc 1) (.idx (.loc 2) (.int 0))) (.cons (.loc 0) (.cons (.loc 2) .nil)))) .skip))
noncomputable def n_print_statement : List Str := [Str.ofString "tongue", Str.ofString "printers", Str.ofString "statement"]
noncomputable def m__law_draw : MS := (.seq (.asg 2 (.bin .mod (.idx (.loc 0) (.int 0)) (.loc 1))) (.seq (.asgI (.loc 0) (.int 0) (.bin .fdiv (.idx (.loc 0) (.int 0)) (.loc 1))) (.seq (.ret (.loc 2)) .skip)))
noncomputable def n__law_draw : List Str := [Str.ofString "pen", Str.ofString "many", Str.ofString "drawn"]
noncomputable def t0__law_number : ME := (.or (.cmp .gt (.loc 1) (.int 0)) (.cmp .eq (.loc 3) (.str [])))
noncomputable def b1__law_number : MS := (.seq (.swp [3, 1] (.tup (.cons (.bin .add (.idx (.str [48, 49, 50, 51, 52, 53, 54, 55, 56, 57, 97, 98, 99, 100, 101, 102]) (.bin .mod (.loc 1) (.int 16))) (.loc 3)) (.cons (.bin .fdiv (.loc 1) (.int 16)) .nil)))) .skip)
noncomputable def m__law_number : MS := (.seq (.asg 2 (.call 495 (.cons (.loc 0) (.cons (.int 4) .nil)))) (.seq (.ife (.cmp .lt (.loc 2) (.int 2)) (.seq (.ret (.bin .add (.idx (.tup (.cons (.str []) (.cons (.str [48, 48]) .nil))) (.loc 2)) (.bi .str (.loc 1)))) .skip) .skip) (.seq (.asg 3 (.str [])) (.seq (.whl t0__law_number b1__law_number) (.seq (.ret (.bin .add (.str [48, 120]) (.ife (.cmp .eq (.loc 2) (.int 2)) (.loc 3) (.sm .upper (.loc 3) .nil)))) .skip)))))
noncomputable def n__law_number : List Str := [Str.ofString "pen", Str.ofString "n", Str.ofString "way", Str.ofString "digits"]
noncomputable def m__law_octets : MS := (.seq (.asg 1 (.tup (.cons (.bin .mul (.int 3) (.bin .pow (.int 2) (.int 20))) (.cons (.int 0) (.cons (.int 1) (.cons (.int 1024) (.cons (.int 1025) (.cons (.bin .pow (.int 2) (.int 30)) (.cons (.bin .sub (.bin .pow (.int 2) (.int 64)) (.int 1)) (.cons (.int 5) .nil)))))))))) (.seq (.asg 2 (.call 495 (.cons (.loc 0) (.cons (.int 9) .nil)))) (.seq (.ret (.ife (.cmp .lt (.loc 2) (.int 8)) (.idx (.loc 1) (.loc 2)) (.call 495 (.cons (.loc 0) (.cons (.bin .pow (.int 2) (.int 64)) .nil))))) .skip)))
noncomputable def n__law_octets : List Str := [Str.ofString "pen", Str.ofString "some", Str.ofString "place"]
noncomputable def t0__law_sized : ME := (.cmp .eq (.bin .mod (.loc 2) (.bin .pow (.int 1024) (.loc 0))) (.int 0))
noncomputable def e1__law_sized : ME := (.loc 0)
noncomputable def m__law_sized : MS := (.seq (.asg 3 (.comp true (.loc 2) t0__law_sized e1__law_sized)) (.seq (.asg 4 (.idx (.loc 3) (.call 495 (.cons (.loc 0) (.cons (.bi .len (.loc 3)) .nil))))) (.seq (.ret (.lst (.cons (.call 502 (.cons (.loc 0) (.cons (.bin .fdiv (.loc 1) (.bin .pow (.int 1024) (.loc 4))) .nil))) (.cons (.idx (.tup (.cons (.str [98, 121, 116, 101, 115]) (.cons (.str [107, 98, 121, 116, 101, 115]) (.cons (.str [109, 98, 121, 116, 101, 115]) (.cons (.str [103, 98, 121, 116, 101, 115]) .nil))))) (.loc 4)) .nil)))) .skip)))
noncomputable def n__law_sized : List Str := [Str.ofString "pen", Str.ofString "octets", Str.ofString "many", Str.ofString "ranks", Str.ofString "rank"]
noncomputable def m__law_quoted : MS := (.seq (.asg 1 (.idx (.tup (.cons (.str [120, 49]) (.cons (.str [97, 95, 98, 45, 50]) (.cons (.str [105, 110]) (.cons (.str [116, 119, 111, 32, 32, 98, 108, 97, 110, 107, 115]) (.cons (.str [108, 111, 103]) (.cons (.str []) .nil))))))) (.call 495 (.cons (.loc 0) (.cons (.int 6) .nil))))) (.seq (.asg 2 (.and (.cmp .eq (.call 495 (.cons (.loc 0) (.cons (.int 2) .nil))) (.int 1)) (.and (.cmp .notin (.str [32]) (.loc 1)) (.cmp .ne (.loc 1) (.str []))))) (.seq (.ret (.tup (.cons (.loc 1) (.cons (.ife (.loc 2) (.loc 1) (.bin .add (.bin .add (.str [34]) (.loc 1)) (.str [34]))) .nil)))) .skip)))
noncomputable def n__law_quoted : List Str := [Str.ofString "pen", Str.ofString "text", Str.ofString "is_word"]
noncomputable def m__law_over : MS := (.seq (.ret (.ife (.loc 1) (.lst (.cons (.str [111, 118, 101, 114]) .nil)) (.slc (.lst (.cons (.str [117, 110, 116, 105, 108]) .nil)) .none (.call 495 (.cons (.loc 0) (.cons (.int 2) .nil)))))) .skip)
noncomputable def n__law_over : List Str := [Str.ofString "pen", Str.ofString "is_over"]
noncomputable def m__law_counter : MS := (.seq (.swp [1, 2] (.tup (.cons (.call 509 (.cons (.loc 0) .nil)) (.cons (.call 509 (.cons (.loc 0) .nil)) .nil)))) (.seq (.asg 3 (.and (.cmp .eq (.call 495 (.cons (.loc 0) (.cons (.int 2) .nil))) (.int 1)) (.and (.cmp .eq (.loc 1) (.int 0)) (.cmp .eq (.loc 2) (.int 0))))) (.seq (.asg 4 (.ife (.loc 3) (.lst .nil) (.lst (.cons (.str [112, 97, 99, 107, 101, 116, 115]) (.cons (.call 502 (.cons (.loc 0) (.cons (.loc 1) .nil))) (.cons (.str [98, 121, 116, 101, 115]) (.cons (.call 502 (.cons (.loc 0) (.cons (.loc 2) .nil))) .nil))))))) (.seq (.ret (.tup (.cons (.tup (.cons (.str [99, 111, 117, 110, 116, 101, 114]) (.cons (.loc 1) (.cons (.loc 2) .nil)))) (.cons (.bin .add (.lst (.cons (.str [99, 111, 117, 110, 116, 101, 114]) .nil)) (.loc 4)) .nil)))) .skip))))
noncomputable def n__law_counter : List Str := [Str.ofString "pen", Str.ofString "packets", Str.ofString "octets", Str.ofString "is_short", Str.ofString "told"]
noncomputable def m__law_quota : MS := (.seq (.swp [1, 2, 3] (.tup (.cons (.cmp .eq (.call 495 (.cons (.loc 0) (.cons (.int 2) .nil))) (.int 1)) (.cons (.call 509 (.cons (.loc 0) .nil)) (.cons (.call 509 (.cons (.loc 0) .nil)) .nil))))) (.seq (.asg 4 (.bin .add (.bin .add (.lst (.cons (.str [113, 117, 111, 116, 97]) .nil)) (.call 528 (.cons (.loc 0) (.cons (.loc 1) .nil)))) (.call 514 (.cons (.loc 0) (.cons (.loc 2) (.cons (.int 4) .nil)))))) (.seq (.ife (.or (.cmp .gt (.loc 3) (.int 0)) (.cmp .eq (.call 495 (.cons (.loc 0) (.cons (.int 2) .nil))) (.int 1))) (.seq (.asg 4 (.bin .add (.bin .add (.loc 4) (.lst (.cons (.str [117, 115, 101, 100]) .nil))) (.call 514 (.cons (.loc 0) (.cons (.loc 3) (.cons (.int 4) .nil)))))) .skip) .skip) (.seq (.ret (.tup (.cons (.tup (.cons (.str [113, 117, 111, 116, 97]) (.cons (.loc 1) (.cons (.loc 2) (.cons (.loc 3) .nil))))) (.cons (.loc 4) .nil)))) .skip))))
noncomputable def n__law_quota : List Str := [Str.ofString "pen", Str.ofString "is_over", Str.ofString "octets", Str.ofString "used", Str.ofString "words"]
noncomputable def m__law_limit : MS := (.seq (.swp [2, 3] (.tup (.cons (.cmp .eq (.call 495 (.cons (.loc 0) (.cons (.int 2) .nil))) (.int 1)) (.cons (.call 509 (.cons (.loc 0) .nil)) .nil)))) (.seq (.asg 4 (.idx (.tup (.cons (.str [115, 101, 99, 111, 110, 100]) (.cons (.str [109, 105, 110, 117, 116, 101]) (.cons (.str [104, 111, 117, 114]) (.cons (.str [100, 97, 121]) (.cons (.str [119, 101, 101, 107]) .nil)))))) (.call 495 (.cons (.loc 0) (.cons (.int 5) .nil))))) (.seq (.asg 5 (.ife (.loc 1) (.call 509 (.cons (.loc 0) .nil)) (.idx (.tup (.cons (.int 5) (.cons (.int 0) (.cons (.int 1) (.cons (.bin .sub (.bin .pow (.int 2) (.int 32)) (.int 1)) .nil))))) (.call 495 (.cons (.loc 0) (.cons (.int 4) .nil)))))) (.seq (.asg 6 (.bin .add (.lst (.cons (.str [108, 105, 109, 105, 116]) (.cons (.str [114, 97, 116, 101]) .nil))) (.call 528 (.cons (.loc 0) (.cons (.loc 2) .nil))))) (.seq (.asg 7 (.and (.cmp .eq (.loc 5) (.ife (.loc 1) (.int 0) (.int 5))) (.cmp .eq (.call 495 (.cons (.loc 0) (.cons (.int 2) .nil))) (.int 0)))) (.seq (.ife (.loc 1) (.seq (.asg 8 (.call 514 (.cons (.loc 0) (.cons (.loc 3) (.cons (.int 3) .nil))))) (.seq (.asg 6 (.bin .add (.loc 6) (.lst (.cons (.idx (.loc 8) (.int 0)) (.cons (.bin .add (.bin .add (.idx (.loc 8) (.int 1)) (.str [47])) (.loc 4)) .nil))))) (.seq (.asg 6 (.bin .add (.loc 6) (.ife (.loc 7) (.lst .nil) (.bin .add (.lst (.cons (.str [98, 117, 114, 115, 116]) .nil)) (.call 514 (.cons (.loc 0) (.cons (.loc 5) (.cons (.int 3) .nil)))))))) .skip))) (.seq (.asg 6 (.bin .add (.loc 6) (.lst (.cons (.bin .add (.bin .add (.call 502 (.cons (.loc 0) (.cons (.loc 3) .nil))) (.str [47])) (.loc 4)) .nil)))) (.seq (.asg 6 (.bin .add (.loc 6) (.ife (.loc 7) (.lst .nil) (.lst (.cons (.str [98, 117, 114, 115, 116]) (.cons (.call 502 (.cons (.loc 0) (.cons (.loc 5) .nil))) (.cons (.str [112, 97, 99, 107, 101, 116, 115]) .nil))))))) .skip))) (.seq (.ret (.tup (.cons (.tup (.cons (.str [108, 105, 109, 105, 116]) (.cons (.loc 2) (.cons (.loc 3) (.cons (.loc 4) (.cons (.loc 5) (.cons (.loc 1) .nil))))))) (.cons (.loc 6) .nil)))) .skip)))))))
noncomputable def n__law_limit : List Str := [Str.ofString "pen", Str.ofString "is_octets", Str.ofString "is_over", Str.ofString "rate", Str.ofString "unit", Str.ofString "burst", Str.ofString "words", Str.ofString "is_left_out", Str.ofString "size"]
noncomputable def m__law_object : MS := (.seq (.asg 1 (.idx (.tup (.cons (.str [99, 111, 117, 110, 116, 101, 114]) (.cons (.str [113, 117, 111, 116, 97]) (.cons (.str [108, 105, 109, 105, 116]) .nil)))) (.call 495 (.cons (.loc 0) (.cons (.int 3) .nil))))) (.seq (.asgT [2, 3] (.call 521 (.cons (.loc 0) .nil))) (.seq (.ret (.tup (.cons (.tup (.cons (.str [111, 98, 106, 101, 99, 116]) (.cons (.loc 1) (.cons (.loc 2) .nil)))) (.cons (.lst (.cons (.loc 1) (.cons (.str [110, 97, 109, 101]) (.cons (.loc 3) .nil)))) .nil)))) .skip)))
noncomputable def n__law_object : List Str := [Str.ofString "pen", Str.ofString "kind", Str.ofString "name", Str.ofString "told"]
noncomputable def m__law_log : MS := (.seq (.asg 1 (.idx (.tup (.cons (.str [119, 97, 114, 110]) (.cons (.str [101, 109, 101, 114, 103]) (.cons (.str [97, 108, 101, 114, 116]) (.cons (.str [99, 114, 105, 116]) (.cons (.str [101, 114, 114]) (.cons (.str [110, 111, 116, 105, 99, 101]) (.cons (.str [105, 110, 102, 111]) (.cons (.str [100, 101, 98, 117, 103]) .nil))))))))) (.call 495 (.cons (.loc 0) (.cons (.int 8) .nil))))) (.seq (.asgT [2, 3] (.call 521 (.cons (.loc 0) .nil))) (.seq (.asg 4 (.lstM (.cons (.lst (.cons (.str [112, 114, 101, 102, 105, 120]) (.cons (.loc 3) .nil))) (.cons (.lst (.cons (.str [108, 101, 118, 101, 108]) (.cons (.loc 1) .nil))) .nil)))) (.seq (.ife (.and (.cmp .eq (.loc 2) (.str [])) (.cmp .eq (.call 495 (.cons (.loc 0) (.cons (.int 2) .nil))) (.int 0))) (.seq (.asgI (.loc 4) (.int 0) (.lst .nil)) .skip) .skip) (.seq (.ife (.and (.cmp .eq (.loc 1) (.str [119, 97, 114, 110])) (.cmp .eq (.call 495 (.cons (.loc 0) (.cons (.int 2) .nil))) (.int 0))) (.seq (.asgI (.loc 4) (.int 1) (.lst .nil)) .skip) .skip) (.seq (.ife (.cmp .eq (.call 495 (.cons (.loc 0) (.cons (.int 2) .nil))) (.int 1)) (.seq (.exp (.sm .reverse (.loc 4) .nil)) .skip) .skip) (.seq (.ret (.tup (.cons (.tup (.cons (.str [108, 111, 103]) (.cons (.loc 2) (.cons (.loc 1) .nil)))) (.cons (.bin .add (.bin .add (.lst (.cons (.str [108, 111, 103]) .nil)) (.idx (.loc 4) (.int 0))) (.idx (.loc 4) (.int 1))) .nil)))) .skip)))))))
noncomputable def n__law_log : List Str := [Str.ofString "pen", Str.ofString "level", Str.ofString "prefix", Str.ofString "told", Str.ofString "parts"]
noncomputable def m__law_statement : MS := (.seq (.asg 1 (.lstM (.cons (.loc 0) .nil))) (.seq (.asg 2 (.call 495 (.cons (.loc 1) (.cons (.int 7) .nil)))) (.seq (.ife (.cmp .lt (.loc 2) (.int 3)) (.seq (.ret (.ife (.cmp .eq (.loc 2) (.int 0)) (.call 542 (.cons (.loc 1) .nil)) (.call 549 (.cons (.loc 1) (.cons (.cmp .eq (.loc 2) (.int 2)) .nil))))) .skip) .skip) (.seq (.ife (.cmp .lt (.loc 2) (.int 5)) (.seq (.ret (.ife (.cmp .eq (.loc 2) (.int 3)) (.call 535 (.cons (.loc 1) .nil)) (.call 556 (.cons (.loc 1) .nil)))) .skip) .skip) (.seq (.ret (.ife (.cmp .eq (.loc 2) (.int 5)) (.call 563 (.cons (.loc 1) .nil)) (.tup (.cons (.tup (.cons (.str [110, 111, 116, 114, 97, 99, 107]) .nil)) (.cons (.lst (.cons (.str [110, 111, 116, 114, 97, 99, 107]) .nil)) .nil))))) .skip)))))
noncomputable def n__law_statement : List Str := [Str.ofString "number", Str.ofString "pen", Str.ofString "sort"]
noncomputable def t0__law_read : ME := (.cmp .eq (.idx (.meth (.loc 1) 217 8 158 .nil) (.int 0)) (.str [119, 111, 114, 100]))
noncomputable def b1__law_read : MS := (.seq (.asg 4 (.idx (.meth (.loc 1) 217 8 158 .nil) (.int 1))) (.seq (.ife (.cmp .notin (.loc 4) (.loc 2)) (.seq (.ret .none) .skip) .skip) (.seq (.exp (.sm .append (.loc 3) (.cons (.callv [313, 327, 369, 383, 390] (.idx (.loc 2) (.loc 4)) (.cons (.loc 1) .nil)) .nil))) .skip)))
noncomputable def m__law_read : MS := (.seq (.swp [1, 2] (.tup (.cons (.new 217 150 (.cons (.call 122 (.cons (.loc 0) .nil)) (.cons (.new 407 404 (.cons (.dct []) (.cons (.dct []) .nil))) .nil))) (.cons (.call 376 .nil) .nil)))) (.seq (.exp (.sm .update (.loc 2) (.cons (.dct [([108, 111, 103], 383), ([110, 111, 116, 114, 97, 99, 107], 390)]) .nil))) (.seq (.asg 3 (.lstM .nil)) (.seq (.whl t0__law_read b1__law_read) (.seq (.ret (.ife (.cmp .eq (.idx (.meth (.loc 1) 217 8 158 .nil) (.int 0)) (.str [101, 111, 102])) (.loc 3) .none)) .skip)))))
noncomputable def n__law_read : List Str := [Str.ofString "text", Str.ofString "reader", Str.ofString "words", Str.ofString "got", Str.ofString "word"]
noncomputable def e0__law_written : ME := (.call 488 (.cons (.new 407 404 (.cons (.dct []) (.cons (.dct []) .nil))) (.cons (.loc 2) (.cons (.loc 0) .nil))))
noncomputable def m__law_written : MS := (.seq (.asg 1 (.call 467 .nil)) (.seq (.exp (.sm .update (.loc 1) (.cons (.dct [([108, 111, 103], 474), ([110, 111, 116, 114, 97, 99, 107], 481)]) .nil))) (.seq (.ret (.sm .join (.str [32]) (.cons (.comp false (.loc 0) (.bool true) e0__law_written) .nil))) .skip)))
noncomputable def n__law_written : List Str := [Str.ofString "statements", Str.ofString "printers"]
noncomputable def b0_law : MS := (.seq (.asg 4 (.bin .add (.bin .add (.loc 4) (.idx (.tup (.cons (.str [32]) (.cons (.str [9]) (.cons (.str [32, 32, 32]) (.cons (.str [32, 92, 10, 9]) .nil))))) (.call 495 (.cons (.loc 1) (.cons (.int 4) .nil))))) (.loc 9))) .skip)
noncomputable def b1_law : MS := (.seq (.asg 6 (.ife (.cmp .lt (.bin .add (.loc 5) (.int 1)) (.bi .len (.loc 0))) (.idx (.loc 0) (.bin .add (.loc 5) (.int 1))) (.int 0))) (.seq (.asgT [7, 8] (.call 570 (.cons (.bin .add (.idx (.loc 2) (.loc 5)) (.loc 6)) .nil))) (.seq (.exp (.sm .append (.loc 3) (.cons (.loc 7) .nil))) (.seq (.forr 9 (.loc 8) b0_law) .skip))))
noncomputable def m_law : MS := (.seq (.asg 1 (.lstM (.cons (.ife (.cmp .ne (.loc 0) (.lst .nil)) (.idx (.loc 0) (.int 0)) (.int 0)) .nil))) (.seq (.asg 2 (.lst (.cons (.int 0) (.cons (.int 1) (.cons (.int 2) (.cons (.bin .add (.int 5) (.bin .mul (.int 7) (.int 8))) (.cons (.bin .add (.int 3) (.bin .mul (.int 7) (.bin .add (.int 1) (.bin .mul (.int 9) (.bin .add (.int 1) (.int 9)))))) .nil))))))) (.seq (.swp [3, 4] (.tup (.cons (.lstM .nil) (.cons (.str []) .nil)))) (.seq (.forRange 5 (.int 5) b1_law) (.seq (.asg 10 (.call 577 (.cons (.loc 4) .nil))) (.seq (.ife (.cmp .ne (.bi .repr (.loc 10)) (.bi .repr (.loc 3))) (.seq (.ret (.bool false)) .skip) .skip) (.seq (.asg 11 (.call 582 (.cons (.loc 10) .nil))) (.seq (.ret (.and (.cmp .eq (.loc 11) (.call 582 (.cons (.loc 3) .nil))) (.cmp .eq (.bi .repr (.call 577 (.cons (.loc 11) .nil))) (.bi .repr (.loc 3))))) .skip))))))))
noncomputable def n_law : List Str := [Str.ofString "script", Str.ofString "gaps", Str.ofString "told", Str.ofString "statements", Str.ofString "text", Str.ofString "k", Str.ofString "cell", Str.ofString "statement", Str.ofString "words", Str.ofString "word", Str.ofString "got", Str.ofString "written"]
noncomputable def tbl : Nat → Option (MS × List Str × Nat)
  | 80 => some (m_based_number, n_based_number, 2)
  | 87 => some (m_number_word, n_number_word, 1)
  | 94 => some (m_is_word_sign, n_is_word_sign, 1)
  | 101 => some (m_run_end, n_run_end, 2)
  | 108 => some (m_string_end, n_string_end, 4)
  | 115 => some (m_put_run, n_put_run, 4)
  | 122 => some (m_read_tokens, n_read_tokens, 1)
  | 150 => some (m_Reader_init, n_Reader_init, 3)
  | 158 => some (m_look, n_look, 2)
  | 165 => some (m_take, n_take, 1)
  | 179 => some (m_is_word, n_is_word, 2)
  | 235 => some (m_number_here, n_number_here, 1)
  | 242 => some (m_keyword, n_keyword, 2)
  | 256 => some (m_number_to, n_number_to, 2)
  | 263 => some (m_read_text, n_read_text, 1)
  | 270 => some (m_size_unit, n_size_unit, 2)
  | 277 => some (m_sized, n_sized, 3)
  | 285 => some (m_read_size, n_read_size, 2)
  | 292 => some (m_read_over, n_read_over, 1)
  | 299 => some (m_read_object, n_read_object, 2)
  | 306 => some (m_read_counter_body, n_read_counter_body, 1)
  | 313 => some (m_read_counter, n_read_counter, 1)
  | 320 => some (m_read_quota_body, n_read_quota_body, 1)
  | 327 => some (m_read_quota, n_read_quota, 1)
  | 334 => some (m_cut_word, n_cut_word, 1)
  | 341 => some (m_is_stroke, n_is_stroke, 1)
  | 348 => some (m_read_unit, n_read_unit, 2)
  | 355 => some (m_read_rate, n_read_rate, 1)
  | 362 => some (m_read_limit_body, n_read_limit_body, 1)
  | 369 => some (m_read_limit, n_read_limit, 1)
  | 376 => some (m_meter_words, n_meter_words, 0)
  | 383 => some (m_read_log, n_read_log, 1)
  | 390 => some (m_read_notrack, n_read_notrack, 1)
  | 404 => some (m_Tongue_init, n_Tongue_init, 3)
  | 418 => some (m_quoted, n_quoted, 1)
  | 425 => some (m_print_units, n_print_units, 2)
  | 432 => some (m_print_size, n_print_size, 1)
  | 439 => some (m_print_counter, n_print_counter, 2)
  | 446 => some (m_print_quota, n_print_quota, 2)
  | 453 => some (m_print_limit, n_print_limit, 2)
  | 460 => some (m_print_object, n_print_object, 2)
  | 467 => some (m_meter_printers, n_meter_printers, 0)
  | 474 => some (m_print_log, n_print_log, 2)
  | 481 => some (m_print_notrack, n_print_notrack, 2)
  | 488 => some (m_print_statement, n_print_statement, 3)
  | 495 => some (m__law_draw, n__law_draw, 2)
  | 502 => some (m__law_number, n__law_number, 2)
  | 509 => some (m__law_octets, n__law_octets, 1)
  | 514 => some (m__law_sized, n__law_sized, 3)
  | 521 => some (m__law_quoted, n__law_quoted, 1)
  | 528 => some (m__law_over, n__law_over, 2)
  | 535 => some (m__law_counter, n__law_counter, 1)
  | 542 => some (m__law_quota, n__law_quota, 1)
  | 549 => some (m__law_limit, n__law_limit, 2)
  | 556 => some (m__law_object, n__law_object, 1)
  | 563 => some (m__law_log, n__law_log, 1)
  | 570 => some (m__law_statement, n__law_statement, 1)
  | 577 => some (m__law_read, n__law_read, 1)
  | 582 => some (m__law_written, n__law_written, 1)
  | 589 => some (m_law, n_law, 1)
  | _ => .none
noncomputable def fns : List Nat := [80, 87, 94, 101, 108, 115, 122, 150, 158, 165, 179, 235, 242, 256, 263, 270, 277, 285, 292, 299, 306, 313, 320, 327, 334, 341, 348, 355, 362, 369, 376, 383, 390, 404, 418, 425, 432, 439, 446, 453, 460, 467, 474, 481, 488, 495, 502, 509, 514, 521, 528, 535, 542, 549, 556, 563, 570, 577, 582, 589]
noncomputable def gl : List (Str × Addr) := [(Str.ofString "based_number", 80), (Str.ofString "number_word", 87), (Str.ofString "is_word_sign", 94), (Str.ofString "run_end", 101), (Str.ofString "string_end", 108), (Str.ofString "put_run", 115), (Str.ofString "read_tokens", 122), (Str.ofString "Reader", 217), (Str.ofString "number_here", 235), (Str.ofString "keyword", 242), (Str.ofString "number_to", 256), (Str.ofString "read_text", 263), (Str.ofString "size_unit", 270), (Str.ofString "sized", 277), (Str.ofString "read_size", 285), (Str.ofString "read_over", 292), (Str.ofString "read_object", 299), (Str.ofString "read_counter_body", 306), (Str.ofString "read_counter", 313), (Str.ofString "read_quota_body", 320), (Str.ofString "read_quota", 327), (Str.ofString "cut_word", 334), (Str.ofString "is_stroke", 341), (Str.ofString "read_unit", 348), (Str.ofString "read_rate", 355), (Str.ofString "read_limit_body", 362), (Str.ofString "read_limit", 369), (Str.ofString "meter_words", 376), (Str.ofString "read_log", 383), (Str.ofString "read_notrack", 390), (Str.ofString "Tongue", 407), (Str.ofString "quoted", 418), (Str.ofString "print_units", 425), (Str.ofString "print_size", 432), (Str.ofString "print_counter", 439), (Str.ofString "print_quota", 446), (Str.ofString "print_limit", 453), (Str.ofString "print_object", 460), (Str.ofString "meter_printers", 467), (Str.ofString "print_log", 474), (Str.ofString "print_notrack", 481), (Str.ofString "print_statement", 488), (Str.ofString "_law_draw", 495), (Str.ofString "_law_number", 502), (Str.ofString "_law_octets", 509), (Str.ofString "_law_sized", 514), (Str.ofString "_law_quoted", 521), (Str.ofString "_law_over", 528), (Str.ofString "_law_counter", 535), (Str.ofString "_law_quota", 542), (Str.ofString "_law_limit", 549), (Str.ofString "_law_object", 556), (Str.ofString "_law_log", 563), (Str.ofString "_law_statement", 570), (Str.ofString "_law_read", 577), (Str.ofString "_law_written", 582), (Str.ofString "law", 589)]
noncomputable def meths : List (Addr × Nat × Addr) := [(217, 8, 158), (217, 9, 165), (217, 10, 179)]
noncomputable def attrs : List (Addr × Nat) := [(217, 0), (217, 1), (217, 2), (217, 3), (217, 4), (217, 5), (407, 6), (407, 7)]
noncomputable def clss : List (Addr × Addr) := [(217, 150), (407, 404)]

noncomputable def fdIn (K : Frag) (f : Addr) : Option FuncData := match K.lookup f with
  | some ⟨_, _, .func fd, _⟩ => some fd
  | _ => .none
noncomputable def bodyOf (fd : FuncData) : List Stmt := match fd.body with | .stmts b => b | _ => []
noncomputable def cxOf (fd : FuncData) (names : List Str) : Cx :=
  { names, kind := fun x => fd.scope.names.lookup x, glob := fun x => gl.lookup x, meths, attrs, clss, may := fun f => hasSign f fns }
noncomputable def fnB (K : Frag) (fd : FuncData) : Bool :=
  fd.globals == mainGlobals && fd.builtins == builtinsNs && fd.closure.isEmpty && (match fd.body with | .stmts _ => true | _ => false) && codeIn K fd.code fd.qualname && !fd.scope.isCoroutine && !fd.scope.isGenerator && fd.scope.kind == .function &&
  decide ((cellsFrom 0 fd.scope.names []).map (·.1)).Nodup && fd.scope.names.all (fun p => !(p.2 == .cell) || ((cellsFrom 0 fd.scope.names []).map (·.1)).contains p.1)
/-- one function of the text is as its row of the table says -/
noncomputable def rowOk (K : Frag) (f : Nat) : Bool := match fdIn K f, tbl f with
  | some fd, some (m, names, np) => fnB K fd && decide names.Nodup && decide (np ≤ names.length) && (names.take np).all (fun x => fd.scope.names.lookup x == some .local || fd.scope.names.lookup x == some .cell) && mtS m (cxOf fd names) (.inr (bodyOf fd))
  | _, _ => false
end Mine
end
end

section
set_option maxRecDepth 100000
open PySem PySem.W PyProof.Rows
noncomputable section
namespace Mine
/-- the text -/
noncomputable abbrev pw : Program := PySem.Challenge.rw_pq1093_01.row.toRowW.prog
/-- the view: the law alone; all other names are loose -/
noncomputable def qv : Program := view pw [72]
noncomputable def loo : List Str := ["_wall", "WallFault", "Misused", "BadText", "based_number", "number_word", "is_word_sign", "run_end", "string_end", "put_run", "read_tokens", "token_words", "unexpected", "Reader", "expected", "number_here", "keyword", "out_of_range", "number_to", "read_text", "size_unit", "sized", "read_size", "read_over", "read_object", "read_counter_body", "read_counter", "read_quota_body", "read_quota", "cut_word", "is_stroke", "read_unit", "read_rate", "read_limit_body", "read_limit", "meter_words", "read_log", "read_notrack", "Tongue", "quoted", "print_units", "print_size", "print_counter", "print_quota", "print_limit", "print_object", "meter_printers", "print_log", "print_notrack", "print_statement", "_law_draw", "_law_number", "_law_octets", "_law_sized", "_law_quoted", "_law_over", "_law_counter", "_law_quota", "_law_limit", "_law_object", "_law_log", "_law_statement", "_law_read", "_law_written"].map Str.ofString
/-- the state at the text's first statement -/
noncomputable def oA (P : Params) : Obj := { cls := .type "tuple", data := .seq #[] }
noncomputable def oB (P : Params) : Obj := { cls := .none, data := .fields #[] }
noncomputable def oC (P : Params) : Obj := { cls := .type "code", data := .fields #[.str (Str.ofString "<module>") 182, .str (Str.ofString "<module>") 183, .str (Str.ofString "/claim/cut.py") 184, .int 1 0, .int 0 0, .int 0 0, .int 0 0, .int 0 0, .ref 11, .bool false, .int 181 0, .ref 12, .none, .none, .none, .none, .int 185 0, .int 1 0, .str (Str.ofString "/claim/cut.py") 186] }
noncomputable def oD (P : Params) : Obj := { cls := .type "frame", slots := #[some (.ref 13), some (.ref 3), some (.ref 3), none, some (.str (Str.ofString "__main__") 164), none, some (.ref 0)] }
noncomputable def hA (P : Params) : Heap := ⟨⟨[boot_o_0 P, boot_o_1 P, boot_o_2 P, boot_o_3 P, boot_o_4 P, boot_o_5 P, boot_o_6 P, boot_o_7 P, boot_o_8 P, boot_o_9 P, boot_o_10 P, oA P, oB P, oC P, oD P]⟩, {}⟩
noncomputable def tA (P : Params) : BT :=
  .node (boot_o_0 P)
    (.node (boot_o_1 P) (.node (boot_o_3 P) (.node (boot_o_7 P) .nil .nil) (.node (oA P) .nil .nil)) (.node (boot_o_5 P) (.node (boot_o_9 P) .nil .nil) (.node (oC P) .nil .nil)))
    (.node (boot_o_2 P) (.node (boot_o_4 P) (.node (boot_o_8 P) .nil .nil) (.node (oB P) .nil .nil)) (.node (boot_o_6 P) (.node (boot_o_10 P) .nil .nil) (.node (oD P) .nil .nil)))
noncomputable def sT (w : World) (os : OsState) : SharedT := ⟨tA w.params, 15, {}, #[], {}, 187, os⟩
noncomputable def envT : Env := { scope := pw.main.scope, locals := mainNs, globals := mainNs, cells := [], code := .ref 13, frame := some 14 }
noncomputable abbrev cT : Code := .body (behindTheImports pw) envT
noncomputable def posA : Pos := ⟨0, 0, 0, 0⟩
noncomputable def posB : Pos := ⟨456, 0, 470, 95⟩
noncomputable abbrev ann : Option Value := some (.ref 6)

theorem pre_run (w : World) : (fun os => topGo treeTable pw w 11 ann 12 ⟨boot_heap w.params, #[], boot_drawn, boot_toks, os⟩ (topStub pw)) = fun os => some (⟨hA w.params, #[], {}, 187, os⟩, ⟨denote treeTable cT, cT, posA, [topFrame posA]⟩) := by
  rw [PySem.W.Fast.te15667345088766844465, PySem.W.Fast.te14364793385576792824, PySem.W.Fast.te11892475500146522536]
  kernel_rfl
theorem block_run (w : World) : (fun os => segRun treeTable pw w 11 ann 1 1 ⟨hA w.params, #[], {}, 187, os⟩ (blockOf (behindTheImports pw) envT cT posA [topFrame posA])) = fun os => some (.next, (sT w os).abs, cT, posA) := by
  rw [PySem.W.Fast.te14374325043358763698, PySem.W.Fast.te14364793385576792824]
  kernel_rfl
theorem open_run : ∀ w : World, (fencedOpening treeTable pw w 6888).map (fun s => (s.heap, s.gens, s.drawn, s.toks)) = some (boot_heap w.params, #[], boot_drawn, boot_toks) :=
  boot_open (by kernel_rfl) (by decide) (fun s => by kernel_rfl)
theorem size_run : ∀ w : World, ((boot_heap w.params).isNs mainGlobals && (#[] : Array GenState).size == 0, (boot_heap w.params).objs.size, (boot_heap w.params).nsMap mainGlobals "__annotations__") = (true, 11, ann) := fun w => by kernel_rfl
theorem fin_run {tb : String → Option Builtin} {p : Program} {w : World} {m : Nat} {an : Option Value} (s : Shared) (c : Code) (p1 p2 : Pos) : topRun tb p w m an 2 s ⟨doneF .next, c, p1, [topFrame p2]⟩ = some s := by
  obtain ⟨h, g, d, t, os⟩ := s
  rfl

end Mine
end
end

section
set_option maxRecDepth 100000
open PySem PySem.W PyProof.Rows
noncomputable section
namespace Mine
/-- the defs of the text, the classes' own in their places -/
noncomputable def defsOf : List Stmt → List Stmt
  | [] => []
  | s :: r => match s with
    | .FunctionDef .. => s :: defsOf r
    | .ClassDef _ _ _ b _ _ _ _ _ _ _ => b.filter (fun s => match s with | .FunctionDef .. => true | _ => false) ++ defsOf r
    | _ => defsOf r
noncomputable def dfs : List Stmt := defsOf pw.main.body
noncomputable def fP (i : Nat) : Arguments := match dfs[i]? with | some (.FunctionDef _ a _ _ _ _ _ _ _ _) => a | _ => default
noncomputable def fB (i : Nat) : FuncBody := match dfs[i]? with | some (.FunctionDef _ _ b _ _ _ _ _ _ _) => .stmts b | _ => .stmts []
noncomputable def fS (i : Nat) : PySem.Scope := match dfs[i]? with | some (.FunctionDef _ _ _ _ _ _ s _ _ _) => s | _ => default
noncomputable def zv (x : String) (n : Nat) : Value := .str (Str.ofString x) n
noncomputable def ze (P : Params) (x : String) (n : Nat) (v : Value) : DictEntry := ⟨PyData.keyHash P (Str.ofString x), .str (Str.ofString x) n, v⟩
noncomputable def zf (x y : String) (i g : Nat) (d k : Value) : FuncData := { name := Str.ofString x, qualname := Str.ofString y, params := fP i, body := fB i, scope := fS i, globals := g, closure := [], defaults := d, kwdefaults := k }
noncomputable def zg (x y : String) (i g : Nat) (d k m c : Value) : FuncData := { name := Str.ofString x, qualname := Str.ofString y, params := fP i, body := fB i, scope := fS i, globals := g, closure := [], defaults := d, kwdefaults := k, pyModule := m, code := c }
noncomputable def zc (x : String) (n : Nat) (y : String) (a : Array Value) (m : Nat) : Obj := { cls := .type "code", data := .fields (#[zv x n, zv y (n + 1), zv "/claim/cut.py" (n + 2)] ++ a ++ #[zv "/claim/cut.py" m]) }
noncomputable def zo : Obj := { cls := .none, data := .fields #[] }
noncomputable def zt : Obj := { cls := .type "tuple", data := .seq #[] }
noncomputable def zol : BT := .node zo .nil .nil
noncomputable def ztl : BT := .node zt .nil .nil
noncomputable def tM15 (P : Params) : BT := (.node (boot_o_0 P) (.node (boot_o_1 P) (.node { cls := .type "dict", data := .dict #[ze P "__name__" 165 (zv "siftwall.tokens" 292), ze P "__doc__" 166 .none, ze P "__package__" 167 .none, ze P "__loader__" 168 (.builtin "__main__.__loader__#opaque"), ze P "__spec__" 169 .none, ze P "__annotations__" 170 (.ref 6), ze P "__builtins__" 171 (.ref 4), ze P "__file__" 173 (zv "/claim/cut.py" 172), ze P "__cached__" 174 .none, ze P "_wall" 193 (.ref 21), ze P "WallFault" 225 (.ref 38), ze P "Misused" 241 (.ref 51), ze P "BadText" 271 (.ref 71), ze P "based_number" 284 (.ref 80), ze P "number_word" 291 (.ref 87), ze P "is_word_sign" 300 (.ref 94), ze P "run_end" 308 (.ref 101), ze P "string_end" 319 (.ref 108), ze P "put_run" 330 (.ref 115), ze P "read_tokens" 344 (.ref 122), ze P "token_words" 351 (.ref 129), ze P "unexpected" 360 (.ref 136)] 22 } (.node (boot_o_7 P) (.node zt (.node { cls := .type "tuple", data := .seq #[zv "self" 211, zv "why" 212] } (.node zo (.node { cls := .none, data := .func (zf "token_words" "token_words" 10 0 .none .none) } .nil .nil) .nil) ztl) (.node (zc "Misused" 228 "Misused" #[.int 11 0, .int 0 0, .int 0 0, .int 0 0, .int 0 0, .ref 45, .bool false, .int 181 0, .ref 46, .none, .none, .none, .none, .int 231 0, .int 11 0] 232) (.node (zc "based_number" 274 "based_number" #[.int 20 0, .int 2 0, .int 0 0, .int 0 0, .int 3 0, .ref 74, .bool true, .int 181 0, .ref 75, .none, .ref 76, .ref 77, .ref 78, .int 282 0, .int 20 0] 283) .nil .nil) (.node { cls := .type "tuple", data := .seq #[zv "tokens" 323, zv "run" 324, zv "row" 325, zv "column" 326, zv "is_cut" 327] } .nil .nil))) (.node { cls := .type "builtin_function_or_method", data := .fields #[.builtin "type.__prepare__", .type "type"] } (.node { cls := .type "getset_descriptor", data := .fields #[zv "__weakref__" 219, .ref 38, .builtin "ExceptionGroup.__weakref__", .none] } (.node { cls := .type "type", data := .cls { name := Str.ofString "BadText", bases := [.ref 38], mro := [.ref 71, .ref 38, .type "Exception", .type "BaseException", .type "object"], ns := 70, qualname := Str.ofString "BadText" }, slots := #[some (.ref 54), none, some (zv "BadText" 242), some (zv "BadText" 250), some (.builtin "Exception.__new__"), some (.bool true)] } (.node (zc "unexpected" 352 "unexpected" #[.int 108 0, .int 2 0, .int 0 0, .int 0 0, .int 3 0, .ref 130, .bool true, .int 181 0, .ref 131, .none, .ref 132, .ref 133, .ref 134, .int 358 0, .int 108 0] 359) .nil .nil) .nil) zol) (.node { cls := .type "builtin_function_or_method", data := .fields #[.builtin "type.__prepare__", .type "type"] } (.node { cls := .type "function", data := .func (zg "number_word" "number_word" 4 3 .none .none (zv "siftwall.types" 272) (.ref 86)) } .nil .nil) ztl))) (.node zt (.node { cls := .none, data := .func (zf "_wall" "_wall" 0 0 .none .none) } (.node { cls := .type "function", data := .func (zg "__init__" "WallFault.__init__" 1 3 .none .none (zv "siftwall.faults" 194) (.ref 34)) } (.node (zc "__init__" 256 "BadText.__init__" #[.int 15 0, .int 4 0, .int 0 0, .int 0 0, .int 3 0, .ref 62, .bool true, .int 181 0, .ref 63, .none, .ref 64, .ref 65, .ref 66, .int 263 0, .int 15 0] 264) zol .nil) (.node { cls := .none, data := .func (zf "run_end" "run_end" 6 0 .none .none) } .nil .nil)) (.node { cls := .type "type", data := .cls { name := Str.ofString "Misused", bases := [.ref 38], mro := [.ref 51, .ref 38, .type "Exception", .type "BaseException", .type "object"], ns := 50, qualname := Str.ofString "Misused" }, slots := #[some (.ref 42), none, some (zv "Misused" 226), some (zv "Misused" 234), some (.builtin "Exception.__new__"), some (.bool true)] } (.node { cls := .type "tuple", data := .seq #[zv "word" 288] } .nil .nil) (.node { cls := .type "function", data := .func (zg "put_run" "put_run" 8 3 .none .none (zv "siftwall.tokens" 292) (.ref 114)) } .nil .nil))) (.node (zc "WallFault" 198 "WallFault" #[.int 5 0, .int 0 0, .int 0 0, .int 0 0, .int 0 0, .ref 25, .bool false, .int 181 0, .ref 26, .none, .none, .none, .none, .int 201 0, .int 5 0] 202) (.node { cls := .type "builtin_function_or_method", data := .fields #[.builtin "type.__prepare__", .type "type"] } zol (.node (zc "string_end" 309 "string_end" #[.int 41 0, .int 4 0, .int 0 0, .int 0 0, .int 3 0, .ref 102, .bool true, .int 181 0, .ref 103, .none, .ref 104, .ref 105, .ref 106, .int 317 0, .int 41 0] 318) .nil .nil)) (.node (zc "BadText" 244 "BadText" #[.int 13 0, .int 0 0, .int 0 0, .int 0 0, .int 0 0, .ref 57, .bool false, .int 181 0, .ref 58, .none, .none, .none, .none, .int 247 0, .int 13 0] 248) ztl ztl)))) (.node (boot_o_5 P) (.node (boot_o_9 P) (.node { cls := .type "tuple", data := .seq #[zv "k" 190] } (.node { cls := .none, data := .func (zf "__init__" "WallFault.__init__" 1 0 .none .none) } (.node zt (.node { cls := .type "function", data := .func (zg "token_words" "token_words" 10 3 .none .none (zv "siftwall.tokens" 292) (.ref 128)) } .nil .nil) .nil) (.node { cls := .type "tuple", data := .seq #[zv "text" 304, zv "at" 305] } .nil .nil)) (.node zt ztl (.node { cls := .none, data := .func (zf "put_run" "put_run" 8 0 .none .none) } .nil .nil))) (.node zt (.node { cls := .type "builtin_function_or_method", data := .fields #[.builtin "object.__init_subclass__", .ref 38] } (.node { cls := .type "builtin_function_or_method", data := .fields #[.builtin "object.__init_subclass__", .ref 71] } .nil .nil) ztl) (.node zt zol (.node (zc "read_tokens" 331 "read_tokens" #[.int 62 0, .int 1 0, .int 0 0, .int 0 0, .int 3 0, .ref 116, .bool true, .int 181 0, .ref 117, .none, .ref 118, .ref 119, .ref 120, .int 342 0, .int 62 0] 343) .nil .nil)))) (.node (zc "<module>" 182 "<module>" #[.int 1 0, .int 0 0, .int 0 0, .int 0 0, .int 0 0, .ref 11, .bool false, .int 181 0, .ref 12, .none, .none, .none, .none, .int 185 0, .int 1 0] 186) (.node { cls := .type "function", data := .func (zg "_wall" "_wall" 0 3 .none .none (zv "__main__" 164) (.ref 20)) } (.node { cls := .type "dict", data := .dict #[ze P "__module__" 203 (zv "siftwall.faults" 194), ze P "__firstlineno__" 207 (.int 5 206), ze P "__init__" 215 (.ref 35), ze P "__static_attributes__" 218 (.ref 36), ze P "__weakref__" 220 (.ref 39), ze P "__doc__" 221 .none] 3 } (.node { cls := .type "tuple", data := .seq #[zv "column" 266, zv "row" 267] } ztl .nil) (.node { cls := .type "function", data := .func (zg "run_end" "run_end" 6 3 .none .none (zv "siftwall.tokens" 292) (.ref 100)) } .nil .nil)) (.node { cls := .type "builtin_function_or_method", data := .fields #[.builtin "object.__init_subclass__", .ref 51] } (.node { cls := .none, data := .func (zf "number_word" "number_word" 4 0 .none .none) } .nil .nil) zol)) (.node zt (.node zt ztl ztl) (.node { cls := .type "tuple", data := .seq #[.int 0 254, .int 0 255] } (.node (zc "is_word_sign" 294 "is_word_sign" #[.int 35 0, .int 1 0, .int 0 0, .int 0 0, .int 3 0, .ref 88, .bool true, .int 181 0, .ref 89, .none, .ref 90, .ref 91, .ref 92, .int 298 0, .int 35 0] 299) .nil .nil) (.node { cls := .type "tuple", data := .seq #[zv "token" 348] } .nil .nil)))))) (.node { cls := .none, data := .dict #[ze P "type.__subclasses__.Exception.0" 222 (.int 38 0), ze P "type.__subclasses__.Exception.n" 223 (.int 1 0)] 2 } (.node (boot_o_4 P) (.node (boot_o_8 P) (.node zo (.node zt (.node { cls := .type "tuple", data := .seq #[zv "self" 259, zv "why" 260, zv "row" 261, zv "column" 262] } (.node (zc "token_words" 345 "token_words" #[.int 100 0, .int 1 0, .int 0 0, .int 0 0, .int 3 0, .ref 123, .bool true, .int 181 0, .ref 124, .none, .ref 125, .ref 126, .ref 127, .int 349 0, .int 100 0] 350) .nil .nil) .nil) zol) (.node { cls := .type "frame", slots := #[some (.ref 47), some (.ref 3), some (.ref 44), none, some (zv "siftwall.faults" 194), none, some (.ref 0)] } (.node { cls := .type "function", data := .func (zg "based_number" "based_number" 3 3 .none .none (zv "siftwall.types" 272) (.ref 79)) } .nil .nil) ztl)) (.node { cls := .type "dict", data := .dict #[ze P "__module__" 203 (zv "siftwall.faults" 194), ze P "__qualname__" 205 (zv "WallFault" 204), ze P "__firstlineno__" 207 (.int 5 206), ze P "__init__" 215 (.ref 35), ze P "__static_attributes__" 218 (.ref 36)] 5 } (.node { cls := .type "super", data := .fields #[.ref 38, .ref 38, .ref 38] } (.node { cls := .type "super", data := .fields #[.ref 71, .ref 71, .ref 71] } (.node { cls := .type "function", data := .func (zg "unexpected" "unexpected" 11 3 .none .none (zv "siftwall.tokens" 292) (.ref 135)) } .nil .nil) .nil) (.node { cls := .type "tuple", data := .seq #[zv "text" 312, zv "at" 313, zv "row" 314, zv "column" 315, zv "behind" 316] } .nil .nil)) (.node { cls := .type "dict", data := .dict #[ze P "__module__" 249 (zv "siftwall.faults" 194), ze P "__qualname__" 251 (zv "BadText" 250), ze P "__firstlineno__" 253 (.int 13 252), ze P "__init__" 265 (.ref 68), ze P "__static_attributes__" 268 (.ref 69)] 5 } ztl (.node { cls := .none, data := .func (zf "read_tokens" "read_tokens" 9 0 .none .none) } .nil .nil)))) (.node { cls := .none, data := .fields #[.int 1 0, .int 0 0, .ref 20, .int 5 0, .int 0 0, .ref 27, .int 11 0, .int 0 0, .ref 47, .int 13 0, .int 0 0, .ref 59, .int 20 0, .int 0 0, .ref 79, .int 30 0, .int 0 0, .ref 86, .int 35 0, .int 0 0, .ref 93, .int 37 0, .int 0 0, .ref 100, .int 41 0, .int 0 0, .ref 107, .int 48 0, .int 0 0, .ref 114, .int 62 0, .int 0 0, .ref 121, .int 100 0, .int 0 0, .ref 128, .int 108 0, .int 0 0, .ref 135] } (.node (zc "_wall" 187 "_wall" #[.int 1 0, .int 1 0, .int 0 0, .int 0 0, .int 3 0, .ref 15, .bool true, .int 181 0, .ref 16, .none, .ref 17, .ref 18, .ref 19, .int 191 0, .int 1 0] 192) (.node { cls := .type "tuple", data := .seq #[zv "at" 216, zv "why" 217] } (.node { cls := .type "function", data := .func (zg "__init__" "BadText.__init__" 2 3 (.ref 61) .none (zv "siftwall.faults" 194) (.ref 67)) } (.node { cls := .type "tuple", data := .seq #[zv "token" 355, zv "what" 356, zv "why" 357] } .nil .nil) .nil) (.node (zc "run_end" 301 "run_end" #[.int 37 0, .int 2 0, .int 0 0, .int 0 0, .int 3 0, .ref 95, .bool true, .int 181 0, .ref 96, .none, .ref 97, .ref 98, .ref 99, .int 306 0, .int 37 0] 307) .nil .nil)) (.node { cls := .type "super", data := .fields #[.ref 51, .ref 51, .ref 51] } ztl ztl)) (.node { cls := .type "frame", slots := #[some (.ref 27), some (.ref 3), some (.ref 24), none, some (zv "siftwall.faults" 194), none, some (.ref 0)] } (.node { cls := .type "dict", data := .dict #[ze P "__module__" 233 (zv "siftwall.faults" 194), ze P "__qualname__" 235 (zv "Misused" 234), ze P "__firstlineno__" 237 (.int 11 236), ze P "__static_attributes__" 238 (.ref 49)] 4 } (.node { cls := .type "tuple", data := .seq #[zv "digits" 277, zv "base" 278, zv "number" 279, zv "sign" 280, zv "digit" 281] } .nil .nil) (.node { cls := .type "function", data := .func (zg "string_end" "string_end" 7 3 .none .none (zv "siftwall.tokens" 292) (.ref 107)) } .nil .nil)) (.node { cls := .type "frame", slots := #[some (.ref 59), some (.ref 3), some (.ref 56), none, some (zv "siftwall.faults" 194), none, some (.ref 0)] } (.node { cls := .none, data := .func (zf "is_word_sign" "is_word_sign" 5 0 .none .none) } .nil .nil) zol)))) (.node (boot_o_6 P) (.node (boot_o_10 P) (.node zt (.node (zc "__init__" 208 "WallFault.__init__" #[.int 7 0, .int 2 0, .int 0 0, .int 0 0, .int 3 0, .ref 29, .bool true, .int 181 0, .ref 30, .none, .ref 31, .ref 32, .ref 33, .int 213 0, .int 7 0] 214) (.node { cls := .none, data := .func (zf "__init__" "BadText.__init__" 2 0 .none .none) } ztl .nil) ztl) (.node { cls := .type "dict", data := .dict #[ze P "__module__" 233 (zv "siftwall.faults" 194), ze P "__firstlineno__" 237 (.int 11 236), ze P "__static_attributes__" 238 (.ref 49), ze P "__doc__" 239 .none] 2 } zol (.node (zc "put_run" 320 "put_run" #[.int 48 0, .int 4 0, .int 0 0, .int 0 0, .int 3 0, .ref 109, .bool true, .int 181 0, .ref 110, .none, .ref 111, .ref 112, .ref 113, .int 328 0, .int 48 0] 329) .nil .nil))) (.node { cls := .none, data := .fields #[.int 7 0, .int 4 0, .ref 34] } (.node { cls := .type "tuple", data := .seq #[.ref 38] } ztl (.node { cls := .none, data := .func (zf "string_end" "string_end" 7 0 .none .none) } .nil .nil)) (.node { cls := .none, data := .fields #[.int 15 0, .int 4 0, .ref 67] } (.node { cls := .type "tuple", data := .seq #[zv "sign" 297] } .nil .nil) (.node { cls := .type "function", data := .func (zg "read_tokens" "read_tokens" 9 3 .none .none (zv "siftwall.tokens" 292) (.ref 121)) } .nil .nil)))) (.node { cls := .type "frame", slots := #[some (.ref 13), some (.ref 3), some (.ref 3), none, some (zv "__main__" 164), none, some (.ref 0)] } (.node { cls := .type "tuple", data := .seq #[.type "Exception"] } (.node { cls := .type "type", data := .cls { name := Str.ofString "WallFault", bases := [.type "Exception"], mro := [.ref 38, .type "Exception", .type "BaseException", .type "object"], ns := 37, qualname := Str.ofString "WallFault", subclasses := [.ref 51, .ref 71] }, slots := #[some (.ref 22), none, some (zv "WallFault" 196), some (zv "WallFault" 204), some (.builtin "Exception.__new__"), some (.bool true)] } (.node { cls := .type "dict", data := .dict #[ze P "__module__" 249 (zv "siftwall.faults" 194), ze P "__firstlineno__" 253 (.int 13 252), ze P "__init__" 265 (.ref 68), ze P "__static_attributes__" 268 (.ref 69), ze P "__doc__" 269 .none] 2 } (.node { cls := .none, data := .func (zf "unexpected" "unexpected" 11 0 .none .none) } .nil .nil) .nil) ztl) (.node { cls := .type "tuple", data := .seq #[.ref 38] } (.node (zc "number_word" 285 "number_word" #[.int 30 0, .int 1 0, .int 0 0, .int 0 0, .int 3 0, .ref 81, .bool true, .int 181 0, .ref 82, .none, .ref 83, .ref 84, .ref 85, .int 289 0, .int 30 0] 290) .nil .nil) (.node { cls := .type "tuple", data := .seq #[zv "text" 334, zv "tokens" 335, zv "at" 336, zv "row" 337, zv "begin" 338, zv "sign" 339, zv "column" 340, zv "behind" 341] } .nil .nil))) (.node zo (.node zo (.node { cls := .none, data := .func (zf "based_number" "based_number" 3 0 .none .none) } .nil .nil) zol) (.node zt (.node { cls := .type "function", data := .func (zg "is_word_sign" "is_word_sign" 5 3 .none .none (zv "siftwall.tokens" 292) (.ref 93)) } .nil .nil) ztl))))))
noncomputable def sM15 (w : World) (os : OsState) : SharedT := ⟨tM15 w.params, 137, {}, #[], {}, 361, os⟩
noncomputable def posM15 : Pos := ⟨108, 0, 110, 43⟩
noncomputable def sts15 : List Stmt := ((behindTheImports pw).take 16).drop 0
theorem run15 (w : World) : (fun os => segRunT treeTable pw w 11 ann 1 1110 (sT w os) (piecesOf sts15 envT cT posA [topFrame posA])) = fun os => some (.next, sM15 w os, cT, posM15) := by
  rw [PySem.W.Fast.te10110043849684766642, PySem.W.Fast.te14364793385576792824]
  kernel_rfl
noncomputable def tM18 (P : Params) : BT := (.node (boot_o_0 P) (.node (boot_o_1 P) (.node { cls := .type "dict", data := .dict #[ze P "__name__" 165 (zv "siftwall.tokens" 292), ze P "__doc__" 166 .none, ze P "__package__" 167 .none, ze P "__loader__" 168 (.builtin "__main__.__loader__#opaque"), ze P "__spec__" 169 .none, ze P "__annotations__" 170 (.ref 6), ze P "__builtins__" 171 (.ref 4), ze P "__file__" 173 (zv "/claim/cut.py" 172), ze P "__cached__" 174 .none, ze P "_wall" 193 (.ref 21), ze P "WallFault" 225 (.ref 38), ze P "Misused" 241 (.ref 51), ze P "BadText" 271 (.ref 71), ze P "based_number" 284 (.ref 80), ze P "number_word" 291 (.ref 87), ze P "is_word_sign" 300 (.ref 94), ze P "run_end" 308 (.ref 101), ze P "string_end" 319 (.ref 108), ze P "put_run" 330 (.ref 115), ze P "read_tokens" 344 (.ref 122), ze P "token_words" 351 (.ref 129), ze P "unexpected" 360 (.ref 136), ze P "Reader" 469 (.ref 217), ze P "expected" 477 (.ref 228), ze P "number_here" 486 (.ref 235)] 25 } (.node (boot_o_7 P) (.node zt (.node { cls := .type "tuple", data := .seq #[zv "self" 211, zv "why" 212] } (.node zo (.node { cls := .none, data := .func (zf "token_words" "token_words" 10 0 .none .none) } .nil .nil) (.node { cls := .none, data := .func (zf "want_sign" "Reader.want_sign" 18 0 .none .none) } .nil .nil)) (.node zt ztl zol)) (.node (zc "Misused" 228 "Misused" #[.int 11 0, .int 0 0, .int 0 0, .int 0 0, .int 0 0, .ref 45, .bool false, .int 181 0, .ref 46, .none, .none, .none, .none, .int 231 0, .int 11 0] 232) (.node (zc "based_number" 274 "based_number" #[.int 20 0, .int 2 0, .int 0 0, .int 0 0, .int 3 0, .ref 74, .bool true, .int 181 0, .ref 75, .none, .ref 76, .ref 77, .ref 78, .int 282 0, .int 20 0] 283) (.node { cls := .type "frame", slots := #[some (.ref 142), some (.ref 3), some (.ref 139), none, some (zv "siftwall.tokens" 292), none, some (.ref 0)] } .nil .nil) (.node { cls := .type "function", data := .func (zg "skip_rows" "Reader.skip_rows" 20 3 .none .none (zv "siftwall.tokens" 292) (.ref 206)) } .nil .nil)) (.node { cls := .type "tuple", data := .seq #[zv "tokens" 323, zv "run" 324, zv "row" 325, zv "column" 326, zv "is_cut" 327] } (.node { cls := .type "tuple", data := .seq #[zv "self" 411, zv "text" 412, zv "token" 413] } .nil .nil) .nil))) (.node { cls := .type "builtin_function_or_method", data := .fields #[.builtin "type.__prepare__", .type "type"] } (.node { cls := .type "getset_descriptor", data := .fields #[zv "__weakref__" 219, .ref 38, .builtin "ExceptionGroup.__weakref__", .none] } (.node { cls := .type "type", data := .cls { name := Str.ofString "BadText", bases := [.ref 38], mro := [.ref 71, .ref 38, .type "Exception", .type "BaseException", .type "object"], ns := 70, qualname := Str.ofString "BadText" }, slots := #[some (.ref 54), none, some (zv "BadText" 242), some (zv "BadText" 250), some (.builtin "Exception.__new__"), some (.bool true)] } (.node (zc "unexpected" 352 "unexpected" #[.int 108 0, .int 2 0, .int 0 0, .int 0 0, .int 3 0, .ref 130, .bool true, .int 181 0, .ref 131, .none, .ref 132, .ref 133, .ref 134, .int 358 0, .int 108 0] 359) .nil .nil) (.node (zc "want_word" 433 "Reader.want_word" #[.int 145 0, .int 1 0, .int 0 0, .int 0 0, .int 3 0, .ref 194, .bool true, .int 181 0, .ref 195, .none, .ref 196, .ref 197, .ref 198, .int 437 0, .int 145 0] 438) .nil .nil)) (.node zo zol (.node { cls := .type "tuple", data := .seq #[zv "reader" 481, zv "token" 482, zv "number" 483] } .nil .nil))) (.node { cls := .type "builtin_function_or_method", data := .fields #[.builtin "type.__prepare__", .type "type"] } (.node { cls := .type "function", data := .func (zg "number_word" "number_word" 4 3 .none .none (zv "siftwall.types" 272) (.ref 86)) } (.node { cls := .type "tuple", data := .seq #[.int 0 382] } .nil .nil) (.node { cls := .type "tuple", data := .seq #[zv "at" 456, zv "family" 457, zv "known" 458, zv "table" 459, zv "tokens" 460, zv "tongue" 461] } .nil .nil)) (.node zt ztl .nil)))) (.node zt (.node { cls := .none, data := .func (zf "_wall" "_wall" 0 0 .none .none) } (.node { cls := .type "function", data := .func (zg "__init__" "WallFault.__init__" 1 3 .none .none (zv "siftwall.faults" 194) (.ref 34)) } (.node (zc "__init__" 256 "BadText.__init__" #[.int 15 0, .int 4 0, .int 0 0, .int 0 0, .int 3 0, .ref 62, .bool true, .int 181 0, .ref 63, .none, .ref 64, .ref 65, .ref 66, .int 263 0, .int 15 0] 264) zol zol) (.node { cls := .none, data := .func (zf "run_end" "run_end" 6 0 .none .none) } (.node { cls := .none, data := .func (zf "take" "Reader.take" 14 0 .none .none) } .nil .nil) (.node (zc "expected" 470 "expected" #[.int 154 0, .int 2 0, .int 0 0, .int 0 0, .int 3 0, .ref 222, .bool true, .int 181 0, .ref 223, .none, .ref 224, .ref 225, .ref 226, .int 475 0, .int 154 0] 476) .nil .nil))) (.node { cls := .type "type", data := .cls { name := Str.ofString "Misused", bases := [.ref 38], mro := [.ref 51, .ref 38, .type "Exception", .type "BaseException", .type "object"], ns := 50, qualname := Str.ofString "Misused" }, slots := #[some (.ref 42), none, some (zv "Misused" 226), some (zv "Misused" 234), some (.builtin "Exception.__new__"), some (.bool true)] } (.node { cls := .type "tuple", data := .seq #[zv "word" 288] } ztl ztl) (.node { cls := .type "function", data := .func (zg "put_run" "put_run" 8 3 .none .none (zv "siftwall.tokens" 292) (.ref 114)) } (.node { cls := .type "function", data := .func (zg "is_word" "Reader.is_word" 16 3 .none .none (zv "siftwall.tokens" 292) (.ref 178)) } .nil .nil) .nil))) (.node (zc "WallFault" 198 "WallFault" #[.int 5 0, .int 0 0, .int 0 0, .int 0 0, .int 0 0, .ref 25, .bool false, .int 181 0, .ref 26, .none, .none, .none, .none, .int 201 0, .int 5 0] 202) (.node { cls := .type "builtin_function_or_method", data := .fields #[.builtin "type.__prepare__", .type "type"] } (.node zo (.node { cls := .type "dict", data := .dict #[ze P "__module__" 368 (zv "siftwall.tokens" 292), ze P "__qualname__" 370 (zv "Reader" 369), ze P "__firstlineno__" 372 (.int 111 371), ze P "__init__" 381 (.ref 150), ze P "look" 391 (.ref 158), ze P "take" 399 (.ref 165), ze P "is_sign" 407 (.ref 172), ze P "is_word" 416 (.ref 179), ze P "skip_sign" 424 (.ref 186), ze P "want_sign" 432 (.ref 193), ze P "want_word" 439 (.ref 200), ze P "skip_rows" 446 (.ref 207), ze P "fault" 455 (.ref 214), ze P "__static_attributes__" 462 (.ref 215)] 14 } .nil .nil) (.node { cls := .type "tuple", data := .seq #[zv "self" 443] } .nil .nil)) (.node (zc "string_end" 309 "string_end" #[.int 41 0, .int 4 0, .int 0 0, .int 0 0, .int 3 0, .ref 102, .bool true, .int 181 0, .ref 103, .none, .ref 104, .ref 105, .ref 106, .int 317 0, .int 41 0] 318) (.node (zc "is_sign" 400 "Reader.is_sign" #[.int 132 0, .int 2 0, .int 0 0, .int 0 0, .int 3 0, .ref 166, .bool true, .int 181 0, .ref 167, .none, .ref 168, .ref 169, .ref 170, .int 405 0, .int 132 0] 406) .nil .nil) (.node { cls := .type "function", data := .func (zg "number_here" "number_here" 23 3 .none .none (zv "siftwall.tokens" 292) (.ref 234)) } .nil .nil))) (.node (zc "BadText" 244 "BadText" #[.int 13 0, .int 0 0, .int 0 0, .int 0 0, .int 0 0, .ref 57, .bool false, .int 181 0, .ref 58, .none, .none, .none, .none, .int 247 0, .int 13 0] 248) (.node zt ztl (.node { cls := .type "getset_descriptor", data := .fields #[zv "__weakref__" 465, .ref 217, .builtin "ExceptionGroup.__weakref__", .none] } .nil .nil)) (.node zt ztl .nil))))) (.node (boot_o_5 P) (.node (boot_o_9 P) (.node { cls := .type "tuple", data := .seq #[zv "k" 190] } (.node { cls := .none, data := .func (zf "__init__" "WallFault.__init__" 1 0 .none .none) } (.node zt (.node { cls := .type "function", data := .func (zg "token_words" "token_words" 10 3 .none .none (zv "siftwall.tokens" 292) (.ref 128)) } .nil .nil) (.node { cls := .type "function", data := .func (zg "want_sign" "Reader.want_sign" 18 3 .none .none (zv "siftwall.tokens" 292) (.ref 192)) } .nil .nil)) (.node { cls := .type "tuple", data := .seq #[zv "text" 304, zv "at" 305] } (.node { cls := .type "tuple", data := .seq #[zv "self" 395, zv "token" 396] } .nil .nil) ztl)) (.node zt (.node zt zol zol) (.node { cls := .none, data := .func (zf "put_run" "put_run" 8 0 .none .none) } (.node { cls := .none, data := .func (zf "is_word" "Reader.is_word" 16 0 .none .none) } .nil .nil) .nil))) (.node zt (.node { cls := .type "builtin_function_or_method", data := .fields #[.builtin "object.__init_subclass__", .ref 38] } (.node { cls := .type "builtin_function_or_method", data := .fields #[.builtin "object.__init_subclass__", .ref 71] } ztl ztl) (.node zt ztl (.node { cls := .none, data := .func (zf "number_here" "number_here" 23 0 .none .none) } .nil .nil))) (.node zt (.node zo zol (.node { cls := .type "type", data := .cls { name := Str.ofString "Reader", bases := [.type "object"], mro := [.ref 217, .type "object"], ns := 216, qualname := Str.ofString "Reader" }, slots := #[none, none, some (zv "Reader" 361), some (zv "Reader" 369), some (.builtin "object.__new__"), some (.bool true)] } .nil .nil)) (.node (zc "read_tokens" 331 "read_tokens" #[.int 62 0, .int 1 0, .int 0 0, .int 0 0, .int 3 0, .ref 116, .bool true, .int 181 0, .ref 117, .none, .ref 118, .ref 119, .ref 120, .int 342 0, .int 62 0] 343) (.node (zc "skip_sign" 417 "Reader.skip_sign" #[.int 139 0, .int 2 0, .int 0 0, .int 0 0, .int 3 0, .ref 180, .bool true, .int 181 0, .ref 181, .none, .ref 182, .ref 183, .ref 184, .int 422 0, .int 139 0] 423) .nil .nil) .nil)))) (.node (zc "<module>" 182 "<module>" #[.int 1 0, .int 0 0, .int 0 0, .int 0 0, .int 0 0, .ref 11, .bool false, .int 181 0, .ref 12, .none, .none, .none, .none, .int 185 0, .int 1 0] 186) (.node { cls := .type "function", data := .func (zg "_wall" "_wall" 0 3 .none .none (zv "__main__" 164) (.ref 20)) } (.node { cls := .type "dict", data := .dict #[ze P "__module__" 203 (zv "siftwall.faults" 194), ze P "__firstlineno__" 207 (.int 5 206), ze P "__init__" 215 (.ref 35), ze P "__static_attributes__" 218 (.ref 36), ze P "__weakref__" 220 (.ref 39), ze P "__doc__" 221 .none] 3 } (.node { cls := .type "tuple", data := .seq #[zv "column" 266, zv "row" 267] } ztl ztl) (.node { cls := .type "function", data := .func (zg "run_end" "run_end" 6 3 .none .none (zv "siftwall.tokens" 292) (.ref 100)) } (.node { cls := .type "function", data := .func (zg "take" "Reader.take" 14 3 .none .none (zv "siftwall.tokens" 292) (.ref 164)) } .nil .nil) ztl)) (.node { cls := .type "builtin_function_or_method", data := .fields #[.builtin "object.__init_subclass__", .ref 51] } (.node { cls := .none, data := .func (zf "number_word" "number_word" 4 0 .none .none) } (.node (zc "__init__" 373 "Reader.__init__" #[.int 113 0, .int 3 0, .int 0 0, .int 0 0, .int 3 0, .ref 144, .bool true, .int 181 0, .ref 145, .none, .ref 146, .ref 147, .ref 148, .int 379 0, .int 113 0] 380) .nil .nil) (.node (zc "fault" 447 "Reader.fault" #[.int 151 0, .int 2 0, .int 0 0, .int 0 0, .int 3 0, .ref 208, .bool true, .int 181 0, .ref 209, .none, .ref 210, .ref 211, .ref 212, .int 453 0, .int 151 0] 454) .nil .nil)) (.node zo zol .nil))) (.node zt (.node zt (.node zt (.node { cls := .none, data := .fields #[.int 113 0, .int 4 0, .ref 149, .int 121 0, .int 4 0, .ref 157, .int 127 0, .int 4 0, .ref 164, .int 132 0, .int 4 0, .ref 171, .int 135 0, .int 4 0, .ref 178, .int 139 0, .int 4 0, .ref 185, .int 142 0, .int 4 0, .ref 192, .int 145 0, .int 4 0, .ref 199, .int 148 0, .int 4 0, .ref 206, .int 151 0, .int 4 0, .ref 213] } .nil .nil) (.node { cls := .none, data := .func (zf "skip_rows" "Reader.skip_rows" 20 0 .none .none) } .nil .nil)) (.node zt ztl .nil)) (.node { cls := .type "tuple", data := .seq #[.int 0 254, .int 0 255] } (.node (zc "is_word_sign" 294 "is_word_sign" #[.int 35 0, .int 1 0, .int 0 0, .int 0 0, .int 3 0, .ref 88, .bool true, .int 181 0, .ref 89, .none, .ref 90, .ref 91, .ref 92, .int 298 0, .int 35 0] 299) (.node (zc "look" 383 "Reader.look" #[.int 121 0, .int 2 0, .int 0 0, .int 0 0, .int 3 0, .ref 152, .bool true, .int 181 0, .ref 153, .none, .ref 154, .ref 155, .ref 156, .int 389 0, .int 121 0] 390) .nil .nil) (.node { cls := .type "builtin_function_or_method", data := .fields #[.builtin "object.__init_subclass__", .ref 217] } .nil .nil)) (.node { cls := .type "tuple", data := .seq #[zv "token" 348] } (.node { cls := .type "tuple", data := .seq #[zv "self" 428, zv "text" 429] } .nil .nil) .nil)))))) (.node { cls := .none, data := .dict #[ze P "type.__subclasses__.Exception.0" 222 (.int 38 0), ze P "type.__subclasses__.Exception.n" 223 (.int 1 0)] 2 } (.node (boot_o_4 P) (.node (boot_o_8 P) (.node zo (.node zt (.node { cls := .type "tuple", data := .seq #[zv "self" 259, zv "why" 260, zv "row" 261, zv "column" 262] } (.node (zc "token_words" 345 "token_words" #[.int 100 0, .int 1 0, .int 0 0, .int 0 0, .int 3 0, .ref 123, .bool true, .int 181 0, .ref 124, .none, .ref 125, .ref 126, .ref 127, .int 349 0, .int 100 0] 350) .nil .nil) (.node (zc "want_sign" 425 "Reader.want_sign" #[.int 142 0, .int 2 0, .int 0 0, .int 0 0, .int 3 0, .ref 187, .bool true, .int 181 0, .ref 188, .none, .ref 189, .ref 190, .ref 191, .int 430 0, .int 142 0] 431) .nil .nil)) (.node zo zol (.node { cls := .type "tuple", data := .seq #[zv "reader" 473, zv "what" 474] } .nil .nil))) (.node { cls := .type "frame", slots := #[some (.ref 47), some (.ref 3), some (.ref 44), none, some (zv "siftwall.faults" 194), none, some (.ref 0)] } (.node { cls := .type "function", data := .func (zg "based_number" "based_number" 3 3 .none .none (zv "siftwall.types" 272) (.ref 79)) } ztl ztl) (.node zt ztl .nil))) (.node { cls := .type "dict", data := .dict #[ze P "__module__" 203 (zv "siftwall.faults" 194), ze P "__qualname__" 205 (zv "WallFault" 204), ze P "__firstlineno__" 207 (.int 5 206), ze P "__init__" 215 (.ref 35), ze P "__static_attributes__" 218 (.ref 36)] 5 } (.node { cls := .type "super", data := .fields #[.ref 38, .ref 38, .ref 38] } (.node { cls := .type "super", data := .fields #[.ref 71, .ref 71, .ref 71] } (.node { cls := .type "function", data := .func (zg "unexpected" "unexpected" 11 3 .none .none (zv "siftwall.tokens" 292) (.ref 135)) } .nil .nil) (.node { cls := .type "function", data := .func (zg "want_word" "Reader.want_word" 19 3 .none .none (zv "siftwall.tokens" 292) (.ref 199)) } .nil .nil)) (.node { cls := .type "tuple", data := .seq #[zv "text" 312, zv "at" 313, zv "row" 314, zv "column" 315, zv "behind" 316] } (.node { cls := .type "tuple", data := .seq #[zv "self" 403, zv "text" 404] } .nil .nil) ztl)) (.node { cls := .type "dict", data := .dict #[ze P "__module__" 249 (zv "siftwall.faults" 194), ze P "__qualname__" 251 (zv "BadText" 250), ze P "__firstlineno__" 253 (.int 13 252), ze P "__init__" 265 (.ref 68), ze P "__static_attributes__" 268 (.ref 69)] 5 } (.node zt ztl (.node { cls := .type "dict", data := .dict #[ze P "__module__" 368 (zv "siftwall.tokens" 292), ze P "__firstlineno__" 372 (.int 111 371), ze P "__init__" 381 (.ref 150), ze P "look" 391 (.ref 158), ze P "take" 399 (.ref 165), ze P "is_sign" 407 (.ref 172), ze P "is_word" 416 (.ref 179), ze P "skip_sign" 424 (.ref 186), ze P "want_sign" 432 (.ref 193), ze P "want_word" 439 (.ref 200), ze P "skip_rows" 446 (.ref 207), ze P "fault" 455 (.ref 214), ze P "__static_attributes__" 462 (.ref 215), ze P "__dict__" 464 (.ref 218), ze P "__weakref__" 466 (.ref 219), ze P "__doc__" 467 .none] 4 } .nil .nil)) (.node { cls := .none, data := .func (zf "read_tokens" "read_tokens" 9 0 .none .none) } (.node { cls := .none, data := .func (zf "skip_sign" "Reader.skip_sign" 17 0 .none .none) } .nil .nil) .nil)))) (.node { cls := .none, data := .fields #[.int 1 0, .int 0 0, .ref 20, .int 5 0, .int 0 0, .ref 27, .int 11 0, .int 0 0, .ref 47, .int 13 0, .int 0 0, .ref 59, .int 20 0, .int 0 0, .ref 79, .int 30 0, .int 0 0, .ref 86, .int 35 0, .int 0 0, .ref 93, .int 37 0, .int 0 0, .ref 100, .int 41 0, .int 0 0, .ref 107, .int 48 0, .int 0 0, .ref 114, .int 62 0, .int 0 0, .ref 121, .int 100 0, .int 0 0, .ref 128, .int 108 0, .int 0 0, .ref 135, .int 111 0, .int 0 0, .ref 142, .int 154 0, .int 0 0, .ref 227, .int 156 0, .int 0 0, .ref 234] } (.node (zc "_wall" 187 "_wall" #[.int 1 0, .int 1 0, .int 0 0, .int 0 0, .int 3 0, .ref 15, .bool true, .int 181 0, .ref 16, .none, .ref 17, .ref 18, .ref 19, .int 191 0, .int 1 0] 192) (.node { cls := .type "tuple", data := .seq #[zv "at" 216, zv "why" 217] } (.node { cls := .type "function", data := .func (zg "__init__" "BadText.__init__" 2 3 (.ref 61) .none (zv "siftwall.faults" 194) (.ref 67)) } (.node { cls := .type "tuple", data := .seq #[zv "token" 355, zv "what" 356, zv "why" 357] } .nil .nil) (.node { cls := .type "tuple", data := .seq #[zv "self" 436] } .nil .nil)) (.node (zc "run_end" 301 "run_end" #[.int 37 0, .int 2 0, .int 0 0, .int 0 0, .int 3 0, .ref 95, .bool true, .int 181 0, .ref 96, .none, .ref 97, .ref 98, .ref 99, .int 306 0, .int 37 0] 307) (.node (zc "take" 392 "Reader.take" #[.int 127 0, .int 1 0, .int 0 0, .int 0 0, .int 3 0, .ref 159, .bool true, .int 181 0, .ref 160, .none, .ref 161, .ref 162, .ref 163, .int 397 0, .int 127 0] 398) .nil .nil) (.node { cls := .type "function", data := .func (zg "expected" "expected" 22 3 .none .none (zv "siftwall.tokens" 292) (.ref 227)) } .nil .nil))) (.node { cls := .type "super", data := .fields #[.ref 51, .ref 51, .ref 51] } (.node zt (.node { cls := .none, data := .func (zf "__init__" "Reader.__init__" 12 0 .none .none) } .nil .nil) (.node { cls := .none, data := .func (zf "fault" "Reader.fault" 21 0 .none .none) } .nil .nil)) (.node zt ztl .nil))) (.node { cls := .type "frame", slots := #[some (.ref 27), some (.ref 3), some (.ref 24), none, some (zv "siftwall.faults" 194), none, some (.ref 0)] } (.node { cls := .type "dict", data := .dict #[ze P "__module__" 233 (zv "siftwall.faults" 194), ze P "__qualname__" 235 (zv "Misused" 234), ze P "__firstlineno__" 237 (.int 11 236), ze P "__static_attributes__" 238 (.ref 49)] 4 } (.node { cls := .type "tuple", data := .seq #[zv "digits" 277, zv "base" 278, zv "number" 279, zv "sign" 280, zv "digit" 281] } ztl ztl) (.node { cls := .type "function", data := .func (zg "string_end" "string_end" 7 3 .none .none (zv "siftwall.tokens" 292) (.ref 107)) } (.node { cls := .type "function", data := .func (zg "is_sign" "Reader.is_sign" 15 3 .none .none (zv "siftwall.tokens" 292) (.ref 171)) } .nil .nil) .nil)) (.node { cls := .type "frame", slots := #[some (.ref 59), some (.ref 3), some (.ref 56), none, some (zv "siftwall.faults" 194), none, some (.ref 0)] } (.node { cls := .none, data := .func (zf "is_word_sign" "is_word_sign" 5 0 .none .none) } (.node { cls := .none, data := .func (zf "look" "Reader.look" 13 0 .none .none) } .nil .nil) (.node { cls := .type "super", data := .fields #[.ref 217, .ref 217, .ref 217] } .nil .nil)) (.node zo zol .nil))))) (.node (boot_o_6 P) (.node (boot_o_10 P) (.node zt (.node (zc "__init__" 208 "WallFault.__init__" #[.int 7 0, .int 2 0, .int 0 0, .int 0 0, .int 3 0, .ref 29, .bool true, .int 181 0, .ref 30, .none, .ref 31, .ref 32, .ref 33, .int 213 0, .int 7 0] 214) (.node { cls := .none, data := .func (zf "__init__" "BadText.__init__" 2 0 .none .none) } ztl ztl) (.node zt ztl (.node { cls := .none, data := .func (zf "expected" "expected" 22 0 .none .none) } .nil .nil))) (.node { cls := .type "dict", data := .dict #[ze P "__module__" 233 (zv "siftwall.faults" 194), ze P "__firstlineno__" 237 (.int 11 236), ze P "__static_attributes__" 238 (.ref 49), ze P "__doc__" 239 .none] 2 } (.node zo (.node { cls := .type "tuple", data := .seq #[zv "self" 376, zv "tokens" 377, zv "tongue" 378] } .nil .nil) (.node { cls := .type "tuple", data := .seq #[zv "self" 450, zv "why" 451, zv "token" 452] } .nil .nil)) (.node (zc "put_run" 320 "put_run" #[.int 48 0, .int 4 0, .int 0 0, .int 0 0, .int 3 0, .ref 109, .bool true, .int 181 0, .ref 110, .none, .ref 111, .ref 112, .ref 113, .int 328 0, .int 48 0] 329) (.node (zc "is_word" 408 "Reader.is_word" #[.int 135 0, .int 2 0, .int 0 0, .int 0 0, .int 3 0, .ref 173, .bool true, .int 181 0, .ref 174, .none, .ref 175, .ref 176, .ref 177, .int 414 0, .int 135 0] 415) .nil .nil) .nil))) (.node { cls := .none, data := .fields #[.int 7 0, .int 4 0, .ref 34] } (.node { cls := .type "tuple", data := .seq #[.ref 38] } (.node zt (.node { cls := .type "builtin_function_or_method", data := .fields #[.builtin "type.__prepare__", .type "type"] } .nil .nil) zol) (.node { cls := .none, data := .func (zf "string_end" "string_end" 7 0 .none .none) } (.node { cls := .none, data := .func (zf "is_sign" "Reader.is_sign" 15 0 .none .none) } .nil .nil) (.node (zc "number_here" 478 "number_here" #[.int 156 0, .int 1 0, .int 0 0, .int 0 0, .int 3 0, .ref 229, .bool true, .int 181 0, .ref 230, .none, .ref 231, .ref 232, .ref 233, .int 484 0, .int 156 0] 485) .nil .nil))) (.node { cls := .none, data := .fields #[.int 15 0, .int 4 0, .ref 67] } (.node { cls := .type "tuple", data := .seq #[zv "sign" 297] } (.node { cls := .type "tuple", data := .seq #[zv "self" 386, zv "ahead" 387, zv "place" 388] } .nil .nil) (.node { cls := .type "getset_descriptor", data := .fields #[zv "__dict__" 463, .ref 217, .builtin "function.__dict__", .builtin "function.__dict__#set"] } .nil .nil)) (.node { cls := .type "function", data := .func (zg "read_tokens" "read_tokens" 9 3 .none .none (zv "siftwall.tokens" 292) (.ref 121)) } (.node { cls := .type "function", data := .func (zg "skip_sign" "Reader.skip_sign" 17 3 .none .none (zv "siftwall.tokens" 292) (.ref 185)) } .nil .nil) .nil)))) (.node { cls := .type "frame", slots := #[some (.ref 13), some (.ref 3), some (.ref 3), none, some (zv "__main__" 164), none, some (.ref 0)] } (.node { cls := .type "tuple", data := .seq #[.type "Exception"] } (.node { cls := .type "type", data := .cls { name := Str.ofString "WallFault", bases := [.type "Exception"], mro := [.ref 38, .type "Exception", .type "BaseException", .type "object"], ns := 37, qualname := Str.ofString "WallFault", subclasses := [.ref 51, .ref 71] }, slots := #[some (.ref 22), none, some (zv "WallFault" 196), some (zv "WallFault" 204), some (.builtin "Exception.__new__"), some (.bool true)] } (.node { cls := .type "dict", data := .dict #[ze P "__module__" 249 (zv "siftwall.faults" 194), ze P "__firstlineno__" 253 (.int 13 252), ze P "__init__" 265 (.ref 68), ze P "__static_attributes__" 268 (.ref 69), ze P "__doc__" 269 .none] 2 } (.node { cls := .none, data := .func (zf "unexpected" "unexpected" 11 0 .none .none) } .nil .nil) (.node { cls := .none, data := .func (zf "want_word" "Reader.want_word" 19 0 .none .none) } .nil .nil)) (.node zt ztl zol)) (.node { cls := .type "tuple", data := .seq #[.ref 38] } (.node (zc "number_word" 285 "number_word" #[.int 30 0, .int 1 0, .int 0 0, .int 0 0, .int 3 0, .ref 81, .bool true, .int 181 0, .ref 82, .none, .ref 83, .ref 84, .ref 85, .int 289 0, .int 30 0] 290) (.node { cls := .type "function", data := .func (zg "__init__" "Reader.__init__" 12 3 .none .none (zv "siftwall.tokens" 292) (.ref 149)) } .nil .nil) (.node { cls := .type "function", data := .func (zg "fault" "Reader.fault" 21 3 .none .none (zv "siftwall.tokens" 292) (.ref 213)) } .nil .nil)) (.node { cls := .type "tuple", data := .seq #[zv "text" 334, zv "tokens" 335, zv "at" 336, zv "row" 337, zv "begin" 338, zv "sign" 339, zv "column" 340, zv "behind" 341] } (.node { cls := .type "tuple", data := .seq #[zv "self" 420, zv "text" 421] } .nil .nil) .nil))) (.node zo (.node zo (.node { cls := .none, data := .func (zf "based_number" "based_number" 3 0 .none .none) } (.node (zc "Reader" 363 "Reader" #[.int 111 0, .int 0 0, .int 0 0, .int 0 0, .int 0 0, .ref 140, .bool false, .int 181 0, .ref 141, .none, .none, .none, .none, .int 366 0, .int 111 0] 367) .nil .nil) (.node (zc "skip_rows" 440 "Reader.skip_rows" #[.int 148 0, .int 1 0, .int 0 0, .int 0 0, .int 3 0, .ref 201, .bool true, .int 181 0, .ref 202, .none, .ref 203, .ref 204, .ref 205, .int 444 0, .int 148 0] 445) .nil .nil)) (.node zo zol .nil)) (.node zt (.node { cls := .type "function", data := .func (zg "is_word_sign" "is_word_sign" 5 3 .none .none (zv "siftwall.tokens" 292) (.ref 93)) } (.node { cls := .type "function", data := .func (zg "look" "Reader.look" 13 3 (.ref 151) .none (zv "siftwall.tokens" 292) (.ref 157)) } .nil .nil) ztl) (.node zt ztl .nil)))))))
noncomputable def sM18 (w : World) (os : OsState) : SharedT := ⟨tM18 w.params, 236, {}, #[], {}, 487, os⟩
noncomputable def posM18 : Pos := ⟨156, 0, 164, 17⟩
noncomputable def sts18 : List Stmt := ((behindTheImports pw).take 19).drop 16
theorem run18 (w : World) : (fun os => segRunT treeTable pw w 11 ann 1 640 (sM15 w os) (piecesOf sts18 envT cT posM15 [topFrame posA])) = fun os => some (.next, sM18 w os, cT, posM18) := by
  rw [PySem.W.Fast.te10110043849684766642, PySem.W.Fast.te14364793385576792824]
  kernel_rfl
noncomputable def tM42 (P : Params) : BT := (.node (boot_o_0 P) (.node (boot_o_1 P) (.node { cls := .type "dict", data := .dict #[ze P "__name__" 165 (zv "siftwall.readrule" 523), ze P "__doc__" 166 .none, ze P "__package__" 167 .none, ze P "__loader__" 168 (.builtin "__main__.__loader__#opaque"), ze P "__spec__" 169 .none, ze P "__annotations__" 170 (.ref 6), ze P "__builtins__" 171 (.ref 4), ze P "__file__" 173 (zv "/claim/cut.py" 172), ze P "__cached__" 174 .none, ze P "_wall" 193 (.ref 21), ze P "WallFault" 225 (.ref 38), ze P "Misused" 241 (.ref 51), ze P "BadText" 271 (.ref 71), ze P "based_number" 284 (.ref 80), ze P "number_word" 291 (.ref 87), ze P "is_word_sign" 300 (.ref 94), ze P "run_end" 308 (.ref 101), ze P "string_end" 319 (.ref 108), ze P "put_run" 330 (.ref 115), ze P "read_tokens" 344 (.ref 122), ze P "token_words" 351 (.ref 129), ze P "unexpected" 360 (.ref 136), ze P "Reader" 469 (.ref 217), ze P "expected" 477 (.ref 228), ze P "number_here" 486 (.ref 235), ze P "keyword" 496 (.ref 242), ze P "out_of_range" 505 (.ref 249), ze P "number_to" 515 (.ref 256), ze P "read_text" 522 (.ref 263), ze P "size_unit" 533 (.ref 270), ze P "sized" 542 (.ref 277), ze P "read_size" 555 (.ref 285), ze P "read_over" 563 (.ref 292), ze P "read_object" 571 (.ref 299), ze P "read_counter_body" 579 (.ref 306), ze P "read_counter" 588 (.ref 313), ze P "read_quota_body" 597 (.ref 320), ze P "read_quota" 607 (.ref 327), ze P "cut_word" 616 (.ref 334), ze P "is_stroke" 623 (.ref 341), ze P "read_unit" 631 (.ref 348), ze P "read_rate" 643 (.ref 355), ze P "read_limit_body" 655 (.ref 362), ze P "read_limit" 667 (.ref 369), ze P "meter_words" 673 (.ref 376), ze P "read_log" 682 (.ref 383), ze P "read_notrack" 689 (.ref 390)] 47 } (.node (boot_o_7 P) (.node zt (.node { cls := .type "tuple", data := .seq #[zv "self" 211, zv "why" 212] } (.node zo (.node { cls := .none, data := .func (zf "token_words" "token_words" 10 0 .none .none) } (.node (zc "number_to" 506 "number_to" #[.int 172 0, .int 2 0, .int 0 0, .int 0 0, .int 3 0, .ref 250, .bool true, .int 181 0, .ref 251, .none, .ref 252, .ref 253, .ref 254, .int 513 0, .int 172 0] 514) .nil .nil) (.node { cls := .type "function", data := .func (zg "read_log" "read_log" 44 3 .none .none (zv "siftwall.readrule" 523) (.ref 382)) } .nil .nil)) (.node { cls := .none, data := .func (zf "want_sign" "Reader.want_sign" 18 0 .none .none) } (.node (zc "read_quota_body" 589 "read_quota_body" #[.int 221 0, .int 1 0, .int 0 0, .int 0 0, .int 3 0, .ref 314, .bool true, .int 181 0, .ref 315, .none, .ref 316, .ref 317, .ref 318, .int 595 0, .int 221 0] 596) .nil .nil) .nil)) (.node zt (.node zt zol .nil) (.node zo (.node { cls := .type "tuple", data := .seq #[zv "reader" 635, zv "head" 636, zv "tail" 637, zv "rate" 638, zv "size" 639, zv "unit" 640] } .nil .nil) .nil))) (.node (zc "Misused" 228 "Misused" #[.int 11 0, .int 0 0, .int 0 0, .int 0 0, .int 0 0, .ref 45, .bool false, .int 181 0, .ref 46, .none, .none, .none, .none, .int 231 0, .int 11 0] 232) (.node (zc "based_number" 274 "based_number" #[.int 20 0, .int 2 0, .int 0 0, .int 0 0, .int 3 0, .ref 74, .bool true, .int 181 0, .ref 75, .none, .ref 76, .ref 77, .ref 78, .int 282 0, .int 20 0] 283) (.node { cls := .type "frame", slots := #[some (.ref 142), some (.ref 3), some (.ref 139), none, some (zv "siftwall.tokens" 292), none, some (.ref 0)] } ztl .nil) (.node { cls := .type "function", data := .func (zg "skip_rows" "Reader.skip_rows" 20 3 .none .none (zv "siftwall.tokens" 292) (.ref 206)) } ztl .nil)) (.node { cls := .type "tuple", data := .seq #[zv "tokens" 323, zv "run" 324, zv "row" 325, zv "column" 326, zv "is_cut" 327] } (.node { cls := .type "tuple", data := .seq #[zv "self" 411, zv "text" 412, zv "token" 413] } ztl .nil) (.node zt (.node { cls := .none, data := .func (zf "read_limit" "read_limit" 42 0 .none .none) } .nil .nil) .nil)))) (.node { cls := .type "builtin_function_or_method", data := .fields #[.builtin "type.__prepare__", .type "type"] } (.node { cls := .type "getset_descriptor", data := .fields #[zv "__weakref__" 219, .ref 38, .builtin "ExceptionGroup.__weakref__", .none] } (.node { cls := .type "type", data := .cls { name := Str.ofString "BadText", bases := [.ref 38], mro := [.ref 71, .ref 38, .type "Exception", .type "BaseException", .type "object"], ns := 70, qualname := Str.ofString "BadText" }, slots := #[some (.ref 54), none, some (zv "BadText" 242), some (zv "BadText" 250), some (.builtin "Exception.__new__"), some (.bool true)] } (.node (zc "unexpected" 352 "unexpected" #[.int 108 0, .int 2 0, .int 0 0, .int 0 0, .int 3 0, .ref 130, .bool true, .int 181 0, .ref 131, .none, .ref 132, .ref 133, .ref 134, .int 358 0, .int 108 0] 359) (.node { cls := .type "function", data := .func (zg "read_text" "read_text" 27 3 .none .none (zv "siftwall.readexpr" 487) (.ref 262)) } .nil .nil) .nil) (.node (zc "want_word" 433 "Reader.want_word" #[.int 145 0, .int 1 0, .int 0 0, .int 0 0, .int 3 0, .ref 194, .bool true, .int 181 0, .ref 195, .none, .ref 196, .ref 197, .ref 198, .int 437 0, .int 145 0] 438) (.node { cls := .type "function", data := .func (zg "read_quota" "read_quota" 36 3 .none .none (zv "siftwall.readrule" 523) (.ref 326)) } .nil .nil) .nil)) (.node zo (.node zo (.node { cls := .type "tuple", data := .seq #[zv "reader" 567, zv "kind" 568] } .nil .nil) .nil) (.node { cls := .type "tuple", data := .seq #[zv "reader" 481, zv "token" 482, zv "number" 483] } ztl .nil))) (.node { cls := .type "builtin_function_or_method", data := .fields #[.builtin "type.__prepare__", .type "type"] } (.node { cls := .type "function", data := .func (zg "number_word" "number_word" 4 3 .none .none (zv "siftwall.types" 272) (.ref 86)) } (.node { cls := .type "tuple", data := .seq #[.int 0 382] } ztl .nil) (.node { cls := .type "tuple", data := .seq #[zv "at" 456, zv "family" 457, zv "known" 458, zv "table" 459, zv "tokens" 460, zv "tongue" 461] } zol .nil)) (.node zt (.node zt (.node { cls := .none, data := .func (zf "read_counter" "read_counter" 34 0 .none .none) } .nil .nil) .nil) (.node { cls := .none, data := .func (zf "out_of_range" "out_of_range" 25 0 .none .none) } (.node (zc "meter_words" 668 "meter_words" #[.int 290 0, .int 0 0, .int 0 0, .int 0 0, .int 3 0, .ref 370, .bool true, .int 181 0, .ref 371, .none, .ref 372, .ref 373, .ref 374, .int 671 0, .int 290 0] 672) .nil .nil) .nil))))) (.node zt (.node { cls := .none, data := .func (zf "_wall" "_wall" 0 0 .none .none) } (.node { cls := .type "function", data := .func (zg "__init__" "WallFault.__init__" 1 3 .none .none (zv "siftwall.faults" 194) (.ref 34)) } (.node (zc "__init__" 256 "BadText.__init__" #[.int 15 0, .int 4 0, .int 0 0, .int 0 0, .int 3 0, .ref 62, .bool true, .int 181 0, .ref 63, .none, .ref 64, .ref 65, .ref 66, .int 263 0, .int 15 0] 264) (.node zo (.node { cls := .type "tuple", data := .seq #[zv "reader" 519] } .nil .nil) ztl) (.node zo (.node { cls := .type "tuple", data := .seq #[zv "reader" 601, zv "is_over" 602, zv "octets" 603, zv "used" 604] } .nil .nil) .nil)) (.node { cls := .none, data := .func (zf "run_end" "run_end" 6 0 .none .none) } (.node { cls := .none, data := .func (zf "take" "Reader.take" 14 0 .none .none) } (.node (zc "read_over" 556 "read_over" #[.int 200 0, .int 1 0, .int 0 0, .int 0 0, .int 3 0, .ref 286, .bool true, .int 181 0, .ref 287, .none, .ref 288, .ref 289, .ref 290, .int 561 0, .int 200 0] 562) .nil .nil) .nil) (.node (zc "expected" 470 "expected" #[.int 154 0, .int 2 0, .int 0 0, .int 0 0, .int 3 0, .ref 222, .bool true, .int 181 0, .ref 223, .none, .ref 224, .ref 225, .ref 226, .int 475 0, .int 154 0] 476) (.node { cls := .type "function", data := .func (zg "read_rate" "read_rate" 40 3 .none .none (zv "siftwall.readrule" 523) (.ref 354)) } .nil .nil) .nil))) (.node { cls := .type "type", data := .cls { name := Str.ofString "Misused", bases := [.ref 38], mro := [.ref 51, .ref 38, .type "Exception", .type "BaseException", .type "object"], ns := 50, qualname := Str.ofString "Misused" }, slots := #[some (.ref 42), none, some (zv "Misused" 226), some (zv "Misused" 234), some (.builtin "Exception.__new__"), some (.bool true)] } (.node { cls := .type "tuple", data := .seq #[zv "word" 288] } (.node zt (.node { cls := .none, data := .func (zf "sized" "sized" 29 0 .none .none) } .nil .nil) .nil) (.node zt (.node { cls := .none, data := .func (zf "is_stroke" "is_stroke" 38 0 .none .none) } .nil .nil) .nil)) (.node { cls := .type "function", data := .func (zg "put_run" "put_run" 8 3 .none .none (zv "siftwall.tokens" 292) (.ref 114)) } (.node { cls := .type "function", data := .func (zg "is_word" "Reader.is_word" 16 3 .none .none (zv "siftwall.tokens" 292) (.ref 178)) } ztl .nil) (.node zt zol .nil)))) (.node (zc "WallFault" 198 "WallFault" #[.int 5 0, .int 0 0, .int 0 0, .int 0 0, .int 0 0, .ref 25, .bool false, .int 181 0, .ref 26, .none, .none, .none, .none, .int 201 0, .int 5 0] 202) (.node { cls := .type "builtin_function_or_method", data := .fields #[.builtin "type.__prepare__", .type "type"] } (.node zo (.node { cls := .type "dict", data := .dict #[ze P "__module__" 368 (zv "siftwall.tokens" 292), ze P "__qualname__" 370 (zv "Reader" 369), ze P "__firstlineno__" 372 (.int 111 371), ze P "__init__" 381 (.ref 150), ze P "look" 391 (.ref 158), ze P "take" 399 (.ref 165), ze P "is_sign" 407 (.ref 172), ze P "is_word" 416 (.ref 179), ze P "skip_sign" 424 (.ref 186), ze P "want_sign" 432 (.ref 193), ze P "want_word" 439 (.ref 200), ze P "skip_rows" 446 (.ref 207), ze P "fault" 455 (.ref 214), ze P "__static_attributes__" 462 (.ref 215)] 14 } ztl .nil) (.node { cls := .type "tuple", data := .seq #[zv "self" 443] } ztl .nil)) (.node (zc "string_end" 309 "string_end" #[.int 41 0, .int 4 0, .int 0 0, .int 0 0, .int 3 0, .ref 102, .bool true, .int 181 0, .ref 103, .none, .ref 104, .ref 105, .ref 106, .int 317 0, .int 41 0] 318) (.node (zc "is_sign" 400 "Reader.is_sign" #[.int 132 0, .int 2 0, .int 0 0, .int 0 0, .int 3 0, .ref 166, .bool true, .int 181 0, .ref 167, .none, .ref 168, .ref 169, .ref 170, .int 405 0, .int 132 0] 406) (.node { cls := .type "function", data := .func (zg "read_object" "read_object" 32 3 .none .none (zv "siftwall.readrule" 523) (.ref 298)) } .nil .nil) .nil) (.node { cls := .type "function", data := .func (zg "number_here" "number_here" 23 3 .none .none (zv "siftwall.tokens" 292) (.ref 234)) } ztl .nil))) (.node (zc "BadText" 244 "BadText" #[.int 13 0, .int 0 0, .int 0 0, .int 0 0, .int 0 0, .ref 57, .bool false, .int 181 0, .ref 58, .none, .none, .none, .none, .int 247 0, .int 13 0] 248) (.node zt (.node zt (.node { cls := .none, data := .func (zf "read_size" "read_size" 30 0 .none .none) } .nil .nil) .nil) (.node { cls := .type "getset_descriptor", data := .fields #[zv "__weakref__" 465, .ref 217, .builtin "ExceptionGroup.__weakref__", .none] } (.node (zc "read_unit" 624 "read_unit" #[.int 244 0, .int 2 0, .int 0 0, .int 0 0, .int 3 0, .ref 342, .bool true, .int 181 0, .ref 343, .none, .ref 344, .ref 345, .ref 346, .int 629 0, .int 244 0] 630) .nil .nil) .nil)) (.node zt (.node zt zol .nil) (.node zo (.node { cls := .type "tuple", data := .seq #[zv "reader" 677, zv "told" 678, zv "word" 679] } .nil .nil) .nil)))))) (.node (boot_o_5 P) (.node (boot_o_9 P) (.node { cls := .type "tuple", data := .seq #[zv "k" 190] } (.node { cls := .none, data := .func (zf "__init__" "WallFault.__init__" 1 0 .none .none) } (.node zt (.node { cls := .type "function", data := .func (zg "token_words" "token_words" 10 3 .none .none (zv "siftwall.tokens" 292) (.ref 128)) } ztl zol) (.node { cls := .type "function", data := .func (zg "want_sign" "Reader.want_sign" 18 3 .none .none (zv "siftwall.tokens" 292) (.ref 192)) } ztl .nil)) (.node { cls := .type "tuple", data := .seq #[zv "text" 304, zv "at" 305] } (.node { cls := .type "tuple", data := .seq #[zv "self" 395, zv "token" 396] } ztl .nil) (.node zt (.node { cls := .none, data := .func (zf "read_rate" "read_rate" 40 0 .none .none) } .nil .nil) .nil))) (.node zt (.node zt (.node zo (.node { cls := .type "tuple", data := .seq #[zv "reader" 537, zv "n" 538, zv "unit" 539] } .nil .nil) .nil) (.node zo (.node { cls := .type "tuple", data := .seq #[zv "token" 620] } .nil .nil) .nil)) (.node { cls := .none, data := .func (zf "put_run" "put_run" 8 0 .none .none) } (.node { cls := .none, data := .func (zf "is_word" "Reader.is_word" 16 0 .none .none) } (.node (zc "read_counter_body" 572 "read_counter_body" #[.int 208 0, .int 1 0, .int 0 0, .int 0 0, .int 3 0, .ref 300, .bool true, .int 181 0, .ref 301, .none, .ref 302, .ref 303, .ref 304, .int 577 0, .int 208 0] 578) .nil .nil) .nil) (.node (zc "keyword" 489 "keyword" #[.int 166 0, .int 2 0, .int 0 0, .int 0 0, .int 3 0, .ref 236, .bool true, .int 181 0, .ref 237, .none, .ref 238, .ref 239, .ref 240, .int 494 0, .int 166 0] 495) (.node { cls := .type "function", data := .func (zg "read_limit" "read_limit" 42 3 .none .none (zv "siftwall.readrule" 523) (.ref 368)) } .nil .nil) .nil)))) (.node zt (.node { cls := .type "builtin_function_or_method", data := .fields #[.builtin "object.__init_subclass__", .ref 38] } (.node { cls := .type "builtin_function_or_method", data := .fields #[.builtin "object.__init_subclass__", .ref 71] } (.node zt zol .nil) (.node zt zol .nil)) (.node zt (.node zt (.node { cls := .none, data := .func (zf "read_object" "read_object" 32 0 .none .none) } .nil .nil) .nil) (.node { cls := .none, data := .func (zf "number_here" "number_here" 23 0 .none .none) } (.node (zc "read_limit_body" 644 "read_limit_body" #[.int 272 0, .int 1 0, .int 0 0, .int 0 0, .int 3 0, .ref 356, .bool true, .int 181 0, .ref 357, .none, .ref 358, .ref 359, .ref 360, .int 653 0, .int 272 0] 654) .nil .nil) .nil))) (.node zt (.node zo (.node zo (.node { cls := .type "tuple", data := .seq #[zv "reader" 547, zv "many" 548, zv "n" 549, zv "token" 550, zv "unit" 551, zv "octets" 552] } .nil .nil) .nil) (.node { cls := .type "type", data := .cls { name := Str.ofString "Reader", bases := [.type "object"], mro := [.ref 217, .type "object"], ns := 216, qualname := Str.ofString "Reader" }, slots := #[none, none, some (zv "Reader" 361), some (zv "Reader" 369), some (.builtin "object.__new__"), some (.bool true)] } ztl .nil)) (.node (zc "read_tokens" 331 "read_tokens" #[.int 62 0, .int 1 0, .int 0 0, .int 0 0, .int 3 0, .ref 116, .bool true, .int 181 0, .ref 117, .none, .ref 118, .ref 119, .ref 120, .int 342 0, .int 62 0] 343) (.node (zc "skip_sign" 417 "Reader.skip_sign" #[.int 139 0, .int 2 0, .int 0 0, .int 0 0, .int 3 0, .ref 180, .bool true, .int 181 0, .ref 181, .none, .ref 182, .ref 183, .ref 184, .int 422 0, .int 139 0] 423) (.node { cls := .type "function", data := .func (zg "read_counter" "read_counter" 34 3 .none .none (zv "siftwall.readrule" 523) (.ref 312)) } .nil .nil) .nil) (.node { cls := .type "function", data := .func (zg "out_of_range" "out_of_range" 25 3 .none .none (zv "siftwall.readexpr" 487) (.ref 248)) } ztl .nil))))) (.node (zc "<module>" 182 "<module>" #[.int 1 0, .int 0 0, .int 0 0, .int 0 0, .int 0 0, .ref 11, .bool false, .int 181 0, .ref 12, .none, .none, .none, .none, .int 185 0, .int 1 0] 186) (.node { cls := .type "function", data := .func (zg "_wall" "_wall" 0 3 .none .none (zv "__main__" 164) (.ref 20)) } (.node { cls := .type "dict", data := .dict #[ze P "__module__" 203 (zv "siftwall.faults" 194), ze P "__firstlineno__" 207 (.int 5 206), ze P "__init__" 215 (.ref 35), ze P "__static_attributes__" 218 (.ref 36), ze P "__weakref__" 220 (.ref 39), ze P "__doc__" 221 .none] 3 } (.node { cls := .type "tuple", data := .seq #[zv "column" 266, zv "row" 267] } (.node zt (.node { cls := .none, data := .func (zf "read_text" "read_text" 27 0 .none .none) } .nil .nil) (.node (zc "read_notrack" 683 "read_notrack" #[.int 306 0, .int 1 0, .int 0 0, .int 0 0, .int 3 0, .ref 384, .bool true, .int 181 0, .ref 385, .none, .ref 386, .ref 387, .ref 388, .int 687 0, .int 306 0] 688) .nil .nil)) (.node zt (.node { cls := .none, data := .func (zf "read_quota" "read_quota" 36 0 .none .none) } .nil .nil) .nil)) (.node { cls := .type "function", data := .func (zg "run_end" "run_end" 6 3 .none .none (zv "siftwall.tokens" 292) (.ref 100)) } (.node { cls := .type "function", data := .func (zg "take" "Reader.take" 14 3 .none .none (zv "siftwall.tokens" 292) (.ref 164)) } ztl .nil) (.node zt zol .nil))) (.node { cls := .type "builtin_function_or_method", data := .fields #[.builtin "object.__init_subclass__", .ref 51] } (.node { cls := .none, data := .func (zf "number_word" "number_word" 4 0 .none .none) } (.node (zc "__init__" 373 "Reader.__init__" #[.int 113 0, .int 3 0, .int 0 0, .int 0 0, .int 3 0, .ref 144, .bool true, .int 181 0, .ref 145, .none, .ref 146, .ref 147, .ref 148, .int 379 0, .int 113 0] 380) (.node { cls := .type "function", data := .func (zg "sized" "sized" 29 3 .none .none (zv "siftwall.readrule" 523) (.ref 276)) } .nil .nil) .nil) (.node (zc "fault" 447 "Reader.fault" #[.int 151 0, .int 2 0, .int 0 0, .int 0 0, .int 3 0, .ref 208, .bool true, .int 181 0, .ref 209, .none, .ref 210, .ref 211, .ref 212, .int 453 0, .int 151 0] 454) (.node { cls := .type "function", data := .func (zg "is_stroke" "is_stroke" 38 3 .none .none (zv "siftwall.readrule" 523) (.ref 340)) } .nil .nil) .nil)) (.node zo (.node zo (.node { cls := .type "tuple", data := .seq #[zv "reader" 583, zv "packets" 584, zv "octets" 585] } .nil .nil) .nil) (.node { cls := .type "tuple", data := .seq #[zv "reader" 500, zv "text" 501, zv "top" 502] } ztl .nil)))) (.node zt (.node zt (.node zt (.node { cls := .none, data := .fields #[.int 113 0, .int 4 0, .ref 149, .int 121 0, .int 4 0, .ref 157, .int 127 0, .int 4 0, .ref 164, .int 132 0, .int 4 0, .ref 171, .int 135 0, .int 4 0, .ref 178, .int 139 0, .int 4 0, .ref 185, .int 142 0, .int 4 0, .ref 192, .int 145 0, .int 4 0, .ref 199, .int 148 0, .int 4 0, .ref 206, .int 151 0, .int 4 0, .ref 213] } (.node (zc "size_unit" 525 "size_unit" #[.int 184 0, .int 2 0, .int 0 0, .int 0 0, .int 3 0, .ref 264, .bool true, .int 181 0, .ref 265, .none, .ref 266, .ref 267, .ref 268, .int 531 0, .int 184 0] 532) .nil .nil) .nil) (.node { cls := .none, data := .func (zf "skip_rows" "Reader.skip_rows" 20 0 .none .none) } (.node (zc "cut_word" 608 "cut_word" #[.int 234 0, .int 1 0, .int 0 0, .int 0 0, .int 3 0, .ref 328, .bool true, .int 181 0, .ref 329, .none, .ref 330, .ref 331, .ref 332, .int 614 0, .int 234 0] 615) .nil .nil) .nil)) (.node zt (.node zt zol .nil) (.node zo (.node { cls := .type "tuple", data := .seq #[zv "reader" 659, zv "is_over" 660, zv "rate" 661, zv "unit" 662, zv "burst" 663, zv "is_octets" 664] } .nil .nil) .nil))) (.node { cls := .type "tuple", data := .seq #[.int 0 254, .int 0 255] } (.node (zc "is_word_sign" 294 "is_word_sign" #[.int 35 0, .int 1 0, .int 0 0, .int 0 0, .int 3 0, .ref 88, .bool true, .int 181 0, .ref 89, .none, .ref 90, .ref 91, .ref 92, .int 298 0, .int 35 0] 299) (.node (zc "look" 383 "Reader.look" #[.int 121 0, .int 2 0, .int 0 0, .int 0 0, .int 3 0, .ref 152, .bool true, .int 181 0, .ref 153, .none, .ref 154, .ref 155, .ref 156, .int 389 0, .int 121 0] 390) (.node { cls := .type "function", data := .func (zg "read_size" "read_size" 30 3 (.ref 278) .none (zv "siftwall.readrule" 523) (.ref 284)) } .nil .nil) .nil) (.node { cls := .type "builtin_function_or_method", data := .fields #[.builtin "object.__init_subclass__", .ref 217] } ztl .nil)) (.node { cls := .type "tuple", data := .seq #[zv "token" 348] } (.node { cls := .type "tuple", data := .seq #[zv "self" 428, zv "text" 429] } ztl .nil) (.node zt (.node { cls := .none, data := .func (zf "read_log" "read_log" 44 0 .none .none) } .nil .nil) .nil))))))) (.node { cls := .none, data := .dict #[ze P "type.__subclasses__.Exception.0" 222 (.int 38 0), ze P "type.__subclasses__.Exception.n" 223 (.int 1 0)] 2 } (.node (boot_o_4 P) (.node (boot_o_8 P) (.node zo (.node zt (.node { cls := .type "tuple", data := .seq #[zv "self" 259, zv "why" 260, zv "row" 261, zv "column" 262] } (.node (zc "token_words" 345 "token_words" #[.int 100 0, .int 1 0, .int 0 0, .int 0 0, .int 3 0, .ref 123, .bool true, .int 181 0, .ref 124, .none, .ref 125, .ref 126, .ref 127, .int 349 0, .int 100 0] 350) (.node { cls := .type "function", data := .func (zg "number_to" "number_to" 26 3 .none .none (zv "siftwall.readexpr" 487) (.ref 255)) } .nil .nil) ztl) (.node (zc "want_sign" 425 "Reader.want_sign" #[.int 142 0, .int 2 0, .int 0 0, .int 0 0, .int 3 0, .ref 187, .bool true, .int 181 0, .ref 188, .none, .ref 189, .ref 190, .ref 191, .int 430 0, .int 142 0] 431) (.node { cls := .type "function", data := .func (zg "read_quota_body" "read_quota_body" 35 3 .none .none (zv "siftwall.readrule" 523) (.ref 319)) } .nil .nil) .nil)) (.node zo (.node zo (.node { cls := .type "tuple", data := .seq #[zv "reader" 559, zv "is_over" 560] } .nil .nil) .nil) (.node { cls := .type "tuple", data := .seq #[zv "reader" 473, zv "what" 474] } ztl .nil))) (.node { cls := .type "frame", slots := #[some (.ref 47), some (.ref 3), some (.ref 44), none, some (zv "siftwall.faults" 194), none, some (.ref 0)] } (.node { cls := .type "function", data := .func (zg "based_number" "based_number" 3 3 .none .none (zv "siftwall.types" 272) (.ref 79)) } (.node zt zol .nil) (.node zt zol .nil)) (.node zt (.node zt (.node { cls := .none, data := .func (zf "read_counter_body" "read_counter_body" 33 0 .none .none) } .nil .nil) .nil) (.node { cls := .none, data := .func (zf "keyword" "keyword" 24 0 .none .none) } (.node (zc "read_limit" 656 "read_limit" #[.int 284 0, .int 1 0, .int 0 0, .int 0 0, .int 3 0, .ref 363, .bool true, .int 181 0, .ref 364, .none, .ref 365, .ref 366, .ref 367, .int 665 0, .int 284 0] 666) .nil .nil) .nil)))) (.node { cls := .type "dict", data := .dict #[ze P "__module__" 203 (zv "siftwall.faults" 194), ze P "__qualname__" 205 (zv "WallFault" 204), ze P "__firstlineno__" 207 (.int 5 206), ze P "__init__" 215 (.ref 35), ze P "__static_attributes__" 218 (.ref 36)] 5 } (.node { cls := .type "super", data := .fields #[.ref 38, .ref 38, .ref 38] } (.node { cls := .type "super", data := .fields #[.ref 71, .ref 71, .ref 71] } (.node { cls := .type "function", data := .func (zg "unexpected" "unexpected" 11 3 .none .none (zv "siftwall.tokens" 292) (.ref 135)) } ztl .nil) (.node { cls := .type "function", data := .func (zg "want_word" "Reader.want_word" 19 3 .none .none (zv "siftwall.tokens" 292) (.ref 199)) } ztl .nil)) (.node { cls := .type "tuple", data := .seq #[zv "text" 312, zv "at" 313, zv "row" 314, zv "column" 315, zv "behind" 316] } (.node { cls := .type "tuple", data := .seq #[zv "self" 403, zv "text" 404] } ztl .nil) (.node zt (.node { cls := .none, data := .func (zf "read_limit_body" "read_limit_body" 41 0 .none .none) } .nil .nil) .nil))) (.node { cls := .type "dict", data := .dict #[ze P "__module__" 249 (zv "siftwall.faults" 194), ze P "__qualname__" 251 (zv "BadText" 250), ze P "__firstlineno__" 253 (.int 13 252), ze P "__init__" 265 (.ref 68), ze P "__static_attributes__" 268 (.ref 69)] 5 } (.node zt (.node zt zol .nil) (.node { cls := .type "dict", data := .dict #[ze P "__module__" 368 (zv "siftwall.tokens" 292), ze P "__firstlineno__" 372 (.int 111 371), ze P "__init__" 381 (.ref 150), ze P "look" 391 (.ref 158), ze P "take" 399 (.ref 165), ze P "is_sign" 407 (.ref 172), ze P "is_word" 416 (.ref 179), ze P "skip_sign" 424 (.ref 186), ze P "want_sign" 432 (.ref 193), ze P "want_word" 439 (.ref 200), ze P "skip_rows" 446 (.ref 207), ze P "fault" 455 (.ref 214), ze P "__static_attributes__" 462 (.ref 215), ze P "__dict__" 464 (.ref 218), ze P "__weakref__" 466 (.ref 219), ze P "__doc__" 467 .none] 4 } (.node { cls := .type "tuple", data := .seq #[zv "reader" 627, zv "tail" 628] } .nil .nil) .nil)) (.node { cls := .none, data := .func (zf "read_tokens" "read_tokens" 9 0 .none .none) } (.node { cls := .none, data := .func (zf "skip_sign" "Reader.skip_sign" 17 0 .none .none) } (.node (zc "read_counter" 580 "read_counter" #[.int 215 0, .int 1 0, .int 0 0, .int 0 0, .int 3 0, .ref 307, .bool true, .int 181 0, .ref 308, .none, .ref 309, .ref 310, .ref 311, .int 586 0, .int 215 0] 587) .nil .nil) .nil) (.node (zc "out_of_range" 497 "out_of_range" #[.int 170 0, .int 3 0, .int 0 0, .int 0 0, .int 3 0, .ref 243, .bool true, .int 181 0, .ref 244, .none, .ref 245, .ref 246, .ref 247, .int 503 0, .int 170 0] 504) (.node { cls := .type "function", data := .func (zg "meter_words" "meter_words" 43 3 .none .none (zv "siftwall.readrule" 523) (.ref 375)) } .nil .nil) .nil))))) (.node { cls := .none, data := .fields #[.int 1 0, .int 0 0, .ref 20, .int 5 0, .int 0 0, .ref 27, .int 11 0, .int 0 0, .ref 47, .int 13 0, .int 0 0, .ref 59, .int 20 0, .int 0 0, .ref 79, .int 30 0, .int 0 0, .ref 86, .int 35 0, .int 0 0, .ref 93, .int 37 0, .int 0 0, .ref 100, .int 41 0, .int 0 0, .ref 107, .int 48 0, .int 0 0, .ref 114, .int 62 0, .int 0 0, .ref 121, .int 100 0, .int 0 0, .ref 128, .int 108 0, .int 0 0, .ref 135, .int 111 0, .int 0 0, .ref 142, .int 154 0, .int 0 0, .ref 227, .int 156 0, .int 0 0, .ref 234, .int 166 0, .int 0 0, .ref 241, .int 170 0, .int 0 0, .ref 248, .int 172 0, .int 0 0, .ref 255, .int 179 0, .int 0 0, .ref 262, .int 184 0, .int 0 0, .ref 269, .int 187 0, .int 0 0, .ref 276, .int 191 0, .int 0 0, .ref 284, .int 200 0, .int 0 0, .ref 291, .int 205 0, .int 0 0, .ref 298, .int 208 0, .int 0 0, .ref 305, .int 215 0, .int 0 0, .ref 312, .int 221 0, .int 0 0, .ref 319, .int 228 0, .int 0 0, .ref 326, .int 234 0, .int 0 0, .ref 333, .int 242 0, .int 0 0, .ref 340, .int 244 0, .int 0 0, .ref 347, .int 255 0, .int 0 0, .ref 354, .int 272 0, .int 0 0, .ref 361, .int 284 0, .int 0 0, .ref 368, .int 290 0, .int 0 0, .ref 375, .int 292 0, .int 0 0, .ref 382, .int 306 0, .int 0 0, .ref 389] } (.node (zc "_wall" 187 "_wall" #[.int 1 0, .int 1 0, .int 0 0, .int 0 0, .int 3 0, .ref 15, .bool true, .int 181 0, .ref 16, .none, .ref 17, .ref 18, .ref 19, .int 191 0, .int 1 0] 192) (.node { cls := .type "tuple", data := .seq #[zv "at" 216, zv "why" 217] } (.node { cls := .type "function", data := .func (zg "__init__" "BadText.__init__" 2 3 (.ref 61) .none (zv "siftwall.faults" 194) (.ref 67)) } (.node { cls := .type "tuple", data := .seq #[zv "token" 355, zv "what" 356, zv "why" 357] } ztl (.node { cls := .none, data := .func (zf "read_notrack" "read_notrack" 45 0 .none .none) } .nil .nil)) (.node { cls := .type "tuple", data := .seq #[zv "self" 436] } ztl .nil)) (.node (zc "run_end" 301 "run_end" #[.int 37 0, .int 2 0, .int 0 0, .int 0 0, .int 3 0, .ref 95, .bool true, .int 181 0, .ref 96, .none, .ref 97, .ref 98, .ref 99, .int 306 0, .int 37 0] 307) (.node (zc "take" 392 "Reader.take" #[.int 127 0, .int 1 0, .int 0 0, .int 0 0, .int 3 0, .ref 159, .bool true, .int 181 0, .ref 160, .none, .ref 161, .ref 162, .ref 163, .int 397 0, .int 127 0] 398) (.node { cls := .type "function", data := .func (zg "read_over" "read_over" 31 3 .none .none (zv "siftwall.readrule" 523) (.ref 291)) } .nil .nil) .nil) (.node { cls := .type "function", data := .func (zg "expected" "expected" 22 3 .none .none (zv "siftwall.tokens" 292) (.ref 227)) } ztl .nil))) (.node { cls := .type "super", data := .fields #[.ref 51, .ref 51, .ref 51] } (.node zt (.node { cls := .none, data := .func (zf "__init__" "Reader.__init__" 12 0 .none .none) } (.node (zc "sized" 534 "sized" #[.int 187 0, .int 3 0, .int 0 0, .int 0 0, .int 3 0, .ref 271, .bool true, .int 181 0, .ref 272, .none, .ref 273, .ref 274, .ref 275, .int 540 0, .int 187 0] 541) .nil .nil) .nil) (.node { cls := .none, data := .func (zf "fault" "Reader.fault" 21 0 .none .none) } (.node (zc "is_stroke" 617 "is_stroke" #[.int 242 0, .int 1 0, .int 0 0, .int 0 0, .int 3 0, .ref 335, .bool true, .int 181 0, .ref 336, .none, .ref 337, .ref 338, .ref 339, .int 621 0, .int 242 0] 622) .nil .nil) .nil)) (.node zt (.node zt zol .nil) (.node zo ztl .nil)))) (.node { cls := .type "frame", slots := #[some (.ref 27), some (.ref 3), some (.ref 24), none, some (zv "siftwall.faults" 194), none, some (.ref 0)] } (.node { cls := .type "dict", data := .dict #[ze P "__module__" 233 (zv "siftwall.faults" 194), ze P "__qualname__" 235 (zv "Misused" 234), ze P "__firstlineno__" 237 (.int 11 236), ze P "__static_attributes__" 238 (.ref 49)] 4 } (.node { cls := .type "tuple", data := .seq #[zv "digits" 277, zv "base" 278, zv "number" 279, zv "sign" 280, zv "digit" 281] } (.node zt (.node { cls := .none, data := .func (zf "size_unit" "size_unit" 28 0 .none .none) } .nil .nil) .nil) (.node zt (.node { cls := .none, data := .func (zf "cut_word" "cut_word" 37 0 .none .none) } .nil .nil) .nil)) (.node { cls := .type "function", data := .func (zg "string_end" "string_end" 7 3 .none .none (zv "siftwall.tokens" 292) (.ref 107)) } (.node { cls := .type "function", data := .func (zg "is_sign" "Reader.is_sign" 15 3 .none .none (zv "siftwall.tokens" 292) (.ref 171)) } ztl .nil) (.node zt zol .nil))) (.node { cls := .type "frame", slots := #[some (.ref 59), some (.ref 3), some (.ref 56), none, some (zv "siftwall.faults" 194), none, some (.ref 0)] } (.node { cls := .none, data := .func (zf "is_word_sign" "is_word_sign" 5 0 .none .none) } (.node { cls := .none, data := .func (zf "look" "Reader.look" 13 0 .none .none) } (.node (zc "read_size" 544 "read_size" #[.int 191 0, .int 2 0, .int 0 0, .int 0 0, .int 3 0, .ref 279, .bool true, .int 181 0, .ref 280, .none, .ref 281, .ref 282, .ref 283, .int 553 0, .int 191 0] 554) .nil .nil) .nil) (.node { cls := .type "super", data := .fields #[.ref 217, .ref 217, .ref 217] } (.node { cls := .type "function", data := .func (zg "read_unit" "read_unit" 39 3 .none .none (zv "siftwall.readrule" 523) (.ref 347)) } .nil .nil) .nil)) (.node zo (.node zo (.node { cls := .type "tuple", data := .seq #[zv "reader" 592, zv "is_over" 593, zv "octets" 594] } .nil .nil) .nil) (.node { cls := .type "tuple", data := .seq #[zv "reader" 509, zv "top" 510, zv "token" 511, zv "n" 512] } ztl .nil)))))) (.node (boot_o_6 P) (.node (boot_o_10 P) (.node zt (.node (zc "__init__" 208 "WallFault.__init__" #[.int 7 0, .int 2 0, .int 0 0, .int 0 0, .int 3 0, .ref 29, .bool true, .int 181 0, .ref 30, .none, .ref 31, .ref 32, .ref 33, .int 213 0, .int 7 0] 214) (.node { cls := .none, data := .func (zf "__init__" "BadText.__init__" 2 0 .none .none) } (.node zt zol (.node { cls := .type "tuple", data := .seq #[zv "reader" 686] } .nil .nil)) (.node zt zol .nil)) (.node zt (.node zt (.node { cls := .none, data := .func (zf "read_over" "read_over" 31 0 .none .none) } .nil .nil) .nil) (.node { cls := .none, data := .func (zf "expected" "expected" 22 0 .none .none) } (.node (zc "read_rate" 632 "read_rate" #[.int 255 0, .int 1 0, .int 0 0, .int 0 0, .int 3 0, .ref 349, .bool true, .int 181 0, .ref 350, .none, .ref 351, .ref 352, .ref 353, .int 641 0, .int 255 0] 642) .nil .nil) .nil))) (.node { cls := .type "dict", data := .dict #[ze P "__module__" 233 (zv "siftwall.faults" 194), ze P "__firstlineno__" 237 (.int 11 236), ze P "__static_attributes__" 238 (.ref 49), ze P "__doc__" 239 .none] 2 } (.node zo (.node { cls := .type "tuple", data := .seq #[zv "self" 376, zv "tokens" 377, zv "tongue" 378] } ztl .nil) (.node { cls := .type "tuple", data := .seq #[zv "self" 450, zv "why" 451, zv "token" 452] } ztl .nil)) (.node (zc "put_run" 320 "put_run" #[.int 48 0, .int 4 0, .int 0 0, .int 0 0, .int 3 0, .ref 109, .bool true, .int 181 0, .ref 110, .none, .ref 111, .ref 112, .ref 113, .int 328 0, .int 48 0] 329) (.node (zc "is_word" 408 "Reader.is_word" #[.int 135 0, .int 2 0, .int 0 0, .int 0 0, .int 3 0, .ref 173, .bool true, .int 181 0, .ref 174, .none, .ref 175, .ref 176, .ref 177, .int 414 0, .int 135 0] 415) (.node { cls := .type "function", data := .func (zg "read_counter_body" "read_counter_body" 33 3 .none .none (zv "siftwall.readrule" 523) (.ref 305)) } .nil .nil) .nil) (.node { cls := .type "function", data := .func (zg "keyword" "keyword" 24 3 .none .none (zv "siftwall.readexpr" 487) (.ref 241)) } ztl .nil)))) (.node { cls := .none, data := .fields #[.int 7 0, .int 4 0, .ref 34] } (.node { cls := .type "tuple", data := .seq #[.ref 38] } (.node zt (.node { cls := .type "builtin_function_or_method", data := .fields #[.builtin "type.__prepare__", .type "type"] } (.node { cls := .type "tuple", data := .seq #[zv "word" 528, zv "many" 529, zv "units" 530] } .nil .nil) .nil) (.node zo (.node { cls := .type "tuple", data := .seq #[zv "reader" 611, zv "token" 612, zv "at" 613] } .nil .nil) .nil)) (.node { cls := .none, data := .func (zf "string_end" "string_end" 7 0 .none .none) } (.node { cls := .none, data := .func (zf "is_sign" "Reader.is_sign" 15 0 .none .none) } (.node (zc "read_object" 564 "read_object" #[.int 205 0, .int 2 0, .int 0 0, .int 0 0, .int 3 0, .ref 293, .bool true, .int 181 0, .ref 294, .none, .ref 295, .ref 296, .ref 297, .int 569 0, .int 205 0] 570) .nil .nil) .nil) (.node (zc "number_here" 478 "number_here" #[.int 156 0, .int 1 0, .int 0 0, .int 0 0, .int 3 0, .ref 229, .bool true, .int 181 0, .ref 230, .none, .ref 231, .ref 232, .ref 233, .int 484 0, .int 156 0] 485) (.node { cls := .type "function", data := .func (zg "read_limit_body" "read_limit_body" 41 3 .none .none (zv "siftwall.readrule" 523) (.ref 361)) } .nil .nil) .nil))) (.node { cls := .none, data := .fields #[.int 15 0, .int 4 0, .ref 67] } (.node { cls := .type "tuple", data := .seq #[zv "sign" 297] } (.node { cls := .type "tuple", data := .seq #[zv "self" 386, zv "ahead" 387, zv "place" 388] } ztl .nil) (.node { cls := .type "getset_descriptor", data := .fields #[zv "__dict__" 463, .ref 217, .builtin "function.__dict__", .builtin "function.__dict__#set"] } (.node { cls := .none, data := .func (zf "read_unit" "read_unit" 39 0 .none .none) } .nil .nil) .nil)) (.node { cls := .type "function", data := .func (zg "read_tokens" "read_tokens" 9 3 .none .none (zv "siftwall.tokens" 292) (.ref 121)) } (.node { cls := .type "function", data := .func (zg "skip_sign" "Reader.skip_sign" 17 3 .none .none (zv "siftwall.tokens" 292) (.ref 185)) } ztl .nil) (.node zt zol .nil))))) (.node { cls := .type "frame", slots := #[some (.ref 13), some (.ref 3), some (.ref 3), none, some (zv "__main__" 164), none, some (.ref 0)] } (.node { cls := .type "tuple", data := .seq #[.type "Exception"] } (.node { cls := .type "type", data := .cls { name := Str.ofString "WallFault", bases := [.type "Exception"], mro := [.ref 38, .type "Exception", .type "BaseException", .type "object"], ns := 37, qualname := Str.ofString "WallFault", subclasses := [.ref 51, .ref 71] }, slots := #[some (.ref 22), none, some (zv "WallFault" 196), some (zv "WallFault" 204), some (.builtin "Exception.__new__"), some (.bool true)] } (.node { cls := .type "dict", data := .dict #[ze P "__module__" 249 (zv "siftwall.faults" 194), ze P "__firstlineno__" 253 (.int 13 252), ze P "__init__" 265 (.ref 68), ze P "__static_attributes__" 268 (.ref 69), ze P "__doc__" 269 .none] 2 } (.node { cls := .none, data := .func (zf "unexpected" "unexpected" 11 0 .none .none) } (.node (zc "read_text" 516 "read_text" #[.int 179 0, .int 1 0, .int 0 0, .int 0 0, .int 3 0, .ref 257, .bool true, .int 181 0, .ref 258, .none, .ref 259, .ref 260, .ref 261, .int 520 0, .int 179 0] 521) .nil .nil) (.node { cls := .type "function", data := .func (zg "read_notrack" "read_notrack" 45 3 .none .none (zv "siftwall.readrule" 523) (.ref 389)) } .nil .nil)) (.node { cls := .none, data := .func (zf "want_word" "Reader.want_word" 19 0 .none .none) } (.node (zc "read_quota" 598 "read_quota" #[.int 228 0, .int 1 0, .int 0 0, .int 0 0, .int 3 0, .ref 321, .bool true, .int 181 0, .ref 322, .none, .ref 323, .ref 324, .ref 325, .int 605 0, .int 228 0] 606) .nil .nil) .nil)) (.node zt (.node zt zol .nil) (.node zo (.node { cls := .type "tuple", data := .seq #[zv "reader" 647, zv "is_over" 648, zv "rate" 649, zv "unit" 650, zv "is_octets" 651, zv "burst" 652] } .nil .nil) .nil))) (.node { cls := .type "tuple", data := .seq #[.ref 38] } (.node (zc "number_word" 285 "number_word" #[.int 30 0, .int 1 0, .int 0 0, .int 0 0, .int 3 0, .ref 81, .bool true, .int 181 0, .ref 82, .none, .ref 83, .ref 84, .ref 85, .int 289 0, .int 30 0] 290) (.node { cls := .type "function", data := .func (zg "__init__" "Reader.__init__" 12 3 .none .none (zv "siftwall.tokens" 292) (.ref 149)) } (.node { cls := .type "tuple", data := .seq #[.int 4 543] } .nil .nil) .nil) (.node { cls := .type "function", data := .func (zg "fault" "Reader.fault" 21 3 .none .none (zv "siftwall.tokens" 292) (.ref 213)) } ztl .nil)) (.node { cls := .type "tuple", data := .seq #[zv "text" 334, zv "tokens" 335, zv "at" 336, zv "row" 337, zv "begin" 338, zv "sign" 339, zv "column" 340, zv "behind" 341] } (.node { cls := .type "tuple", data := .seq #[zv "self" 420, zv "text" 421] } ztl .nil) (.node zt (.node { cls := .none, data := .func (zf "meter_words" "meter_words" 43 0 .none .none) } .nil .nil) .nil)))) (.node zo (.node zo (.node { cls := .none, data := .func (zf "based_number" "based_number" 3 0 .none .none) } (.node (zc "Reader" 363 "Reader" #[.int 111 0, .int 0 0, .int 0 0, .int 0 0, .int 0 0, .ref 140, .bool false, .int 181 0, .ref 141, .none, .none, .none, .none, .int 366 0, .int 111 0] 367) (.node { cls := .type "function", data := .func (zg "size_unit" "size_unit" 28 3 .none .none (zv "siftwall.readrule" 523) (.ref 269)) } .nil .nil) .nil) (.node (zc "skip_rows" 440 "Reader.skip_rows" #[.int 148 0, .int 1 0, .int 0 0, .int 0 0, .int 3 0, .ref 201, .bool true, .int 181 0, .ref 202, .none, .ref 203, .ref 204, .ref 205, .int 444 0, .int 148 0] 445) (.node { cls := .type "function", data := .func (zg "cut_word" "cut_word" 37 3 .none .none (zv "siftwall.readrule" 523) (.ref 333)) } .nil .nil) .nil)) (.node zo (.node zo (.node { cls := .type "tuple", data := .seq #[zv "reader" 575, zv "packets" 576] } .nil .nil) .nil) (.node { cls := .type "tuple", data := .seq #[zv "reader" 492, zv "word" 493] } ztl .nil))) (.node zt (.node { cls := .type "function", data := .func (zg "is_word_sign" "is_word_sign" 5 3 .none .none (zv "siftwall.tokens" 292) (.ref 93)) } (.node { cls := .type "function", data := .func (zg "look" "Reader.look" 13 3 (.ref 151) .none (zv "siftwall.tokens" 292) (.ref 157)) } ztl .nil) (.node zt zol .nil)) (.node zt (.node zt (.node { cls := .none, data := .func (zf "read_quota_body" "read_quota_body" 35 0 .none .none) } .nil .nil) .nil) (.node { cls := .none, data := .func (zf "number_to" "number_to" 26 0 .none .none) } (.node (zc "read_log" 674 "read_log" #[.int 292 0, .int 1 0, .int 0 0, .int 0 0, .int 3 0, .ref 377, .bool true, .int 181 0, .ref 378, .none, .ref 379, .ref 380, .ref 381, .int 680 0, .int 292 0] 681) .nil .nil) .nil))))))))
noncomputable def sM42 (w : World) (os : OsState) : SharedT := ⟨tM42 w.params, 391, {}, #[], {}, 690, os⟩
noncomputable def posM42 : Pos := ⟨306, 0, 308, 23⟩
noncomputable def sts42 : List Stmt := ((behindTheImports pw).take 43).drop 19
theorem run42 (w : World) : (fun os => segRunT treeTable pw w 11 ann 1 750 (sM18 w os) (piecesOf sts42 envT cT posM18 [topFrame posA])) = fun os => some (.next, sM42 w os, cT, posM42) := by
  rw [PySem.W.Fast.te10110043849684766642, PySem.W.Fast.te14364793385576792824]
  kernel_rfl
noncomputable def tM57 (P : Params) : BT := (.node (boot_o_0 P) (.node (boot_o_1 P) (.node { cls := .type "dict", data := .dict #[ze P "__name__" 165 (zv "law_pq1093_01" 820), ze P "__doc__" 166 .none, ze P "__package__" 167 .none, ze P "__loader__" 168 (.builtin "__main__.__loader__#opaque"), ze P "__spec__" 169 .none, ze P "__annotations__" 170 (.ref 6), ze P "__builtins__" 171 (.ref 4), ze P "__file__" 173 (zv "/claim/cut.py" 172), ze P "__cached__" 174 .none, ze P "_wall" 193 (.ref 21), ze P "WallFault" 225 (.ref 38), ze P "Misused" 241 (.ref 51), ze P "BadText" 271 (.ref 71), ze P "based_number" 284 (.ref 80), ze P "number_word" 291 (.ref 87), ze P "is_word_sign" 300 (.ref 94), ze P "run_end" 308 (.ref 101), ze P "string_end" 319 (.ref 108), ze P "put_run" 330 (.ref 115), ze P "read_tokens" 344 (.ref 122), ze P "token_words" 351 (.ref 129), ze P "unexpected" 360 (.ref 136), ze P "Reader" 469 (.ref 217), ze P "expected" 477 (.ref 228), ze P "number_here" 486 (.ref 235), ze P "keyword" 496 (.ref 242), ze P "out_of_range" 505 (.ref 249), ze P "number_to" 515 (.ref 256), ze P "read_text" 522 (.ref 263), ze P "size_unit" 533 (.ref 270), ze P "sized" 542 (.ref 277), ze P "read_size" 555 (.ref 285), ze P "read_over" 563 (.ref 292), ze P "read_object" 571 (.ref 299), ze P "read_counter_body" 579 (.ref 306), ze P "read_counter" 588 (.ref 313), ze P "read_quota_body" 597 (.ref 320), ze P "read_quota" 607 (.ref 327), ze P "cut_word" 616 (.ref 334), ze P "is_stroke" 623 (.ref 341), ze P "read_unit" 631 (.ref 348), ze P "read_rate" 643 (.ref 355), ze P "read_limit_body" 655 (.ref 362), ze P "read_limit" 667 (.ref 369), ze P "meter_words" 673 (.ref 376), ze P "read_log" 682 (.ref 383), ze P "read_notrack" 689 (.ref 390), ze P "Tongue" 722 (.ref 407), ze P "quoted" 731 (.ref 418), ze P "print_units" 741 (.ref 425), ze P "print_size" 748 (.ref 432), ze P "print_counter" 756 (.ref 439), ze P "print_quota" 765 (.ref 446), ze P "print_limit" 779 (.ref 453), ze P "print_object" 787 (.ref 460), ze P "meter_printers" 793 (.ref 467), ze P "print_log" 802 (.ref 474), ze P "print_notrack" 810 (.ref 481), ze P "print_statement" 819 (.ref 488)] 59 } (.node (boot_o_7 P) (.node zt (.node { cls := .type "tuple", data := .seq #[zv "self" 211, zv "why" 212] } (.node zo (.node { cls := .none, data := .func (zf "token_words" "token_words" 10 0 .none .none) } (.node (zc "number_to" 506 "number_to" #[.int 172 0, .int 2 0, .int 0 0, .int 0 0, .int 3 0, .ref 250, .bool true, .int 181 0, .ref 251, .none, .ref 252, .ref 253, .ref 254, .int 513 0, .int 172 0] 514) .nil .nil) (.node { cls := .type "function", data := .func (zg "read_log" "read_log" 44 3 .none .none (zv "siftwall.readrule" 523) (.ref 382)) } .nil .nil)) (.node { cls := .none, data := .func (zf "want_sign" "Reader.want_sign" 18 0 .none .none) } (.node (zc "read_quota_body" 589 "read_quota_body" #[.int 221 0, .int 1 0, .int 0 0, .int 0 0, .int 3 0, .ref 314, .bool true, .int 181 0, .ref 315, .none, .ref 316, .ref 317, .ref 318, .int 595 0, .int 221 0] 596) .nil .nil) ztl)) (.node zt (.node zt zol ztl) (.node zo (.node { cls := .type "tuple", data := .seq #[zv "reader" 635, zv "head" 636, zv "tail" 637, zv "rate" 638, zv "size" 639, zv "unit" 640] } .nil .nil) (.node { cls := .none, data := .func (zf "print_notrack" "print_notrack" 56 0 .none .none) } .nil .nil)))) (.node (zc "Misused" 228 "Misused" #[.int 11 0, .int 0 0, .int 0 0, .int 0 0, .int 0 0, .ref 45, .bool false, .int 181 0, .ref 46, .none, .none, .none, .none, .int 231 0, .int 11 0] 232) (.node (zc "based_number" 274 "based_number" #[.int 20 0, .int 2 0, .int 0 0, .int 0 0, .int 3 0, .ref 74, .bool true, .int 181 0, .ref 75, .none, .ref 76, .ref 77, .ref 78, .int 282 0, .int 20 0] 283) (.node { cls := .type "frame", slots := #[some (.ref 142), some (.ref 3), some (.ref 139), none, some (zv "siftwall.tokens" 292), none, some (.ref 0)] } ztl zol) (.node { cls := .type "function", data := .func (zg "skip_rows" "Reader.skip_rows" 20 3 .none .none (zv "siftwall.tokens" 292) (.ref 206)) } ztl ztl)) (.node { cls := .type "tuple", data := .seq #[zv "tokens" 323, zv "run" 324, zv "row" 325, zv "column" 326, zv "is_cut" 327] } (.node { cls := .type "tuple", data := .seq #[zv "self" 411, zv "text" 412, zv "token" 413] } ztl (.node (zc "print_size" 742 "print_size" #[.int 327 0, .int 1 0, .int 0 0, .int 0 0, .int 3 0, .ref 426, .bool true, .int 181 0, .ref 427, .none, .ref 428, .ref 429, .ref 430, .int 746 0, .int 327 0] 747) .nil .nil)) (.node zt (.node { cls := .none, data := .func (zf "read_limit" "read_limit" 42 0 .none .none) } .nil .nil) .nil)))) (.node { cls := .type "builtin_function_or_method", data := .fields #[.builtin "type.__prepare__", .type "type"] } (.node { cls := .type "getset_descriptor", data := .fields #[zv "__weakref__" 219, .ref 38, .builtin "ExceptionGroup.__weakref__", .none] } (.node { cls := .type "type", data := .cls { name := Str.ofString "BadText", bases := [.ref 38], mro := [.ref 71, .ref 38, .type "Exception", .type "BaseException", .type "object"], ns := 70, qualname := Str.ofString "BadText" }, slots := #[some (.ref 54), none, some (zv "BadText" 242), some (zv "BadText" 250), some (.builtin "Exception.__new__"), some (.bool true)] } (.node (zc "unexpected" 352 "unexpected" #[.int 108 0, .int 2 0, .int 0 0, .int 0 0, .int 3 0, .ref 130, .bool true, .int 181 0, .ref 131, .none, .ref 132, .ref 133, .ref 134, .int 358 0, .int 108 0] 359) (.node { cls := .type "function", data := .func (zg "read_text" "read_text" 27 3 .none .none (zv "siftwall.readexpr" 487) (.ref 262)) } .nil .nil) ztl) (.node (zc "want_word" 433 "Reader.want_word" #[.int 145 0, .int 1 0, .int 0 0, .int 0 0, .int 3 0, .ref 194, .bool true, .int 181 0, .ref 195, .none, .ref 196, .ref 197, .ref 198, .int 437 0, .int 145 0] 438) (.node { cls := .type "function", data := .func (zg "read_quota" "read_quota" 36 3 .none .none (zv "siftwall.readrule" 523) (.ref 326)) } .nil .nil) zol)) (.node zo (.node zo (.node { cls := .type "tuple", data := .seq #[zv "reader" 567, zv "kind" 568] } .nil .nil) (.node { cls := .none, data := .func (zf "print_units" "print_units" 48 0 .none .none) } .nil .nil)) (.node { cls := .type "tuple", data := .seq #[zv "reader" 481, zv "token" 482, zv "number" 483] } ztl (.node (zc "print_statement" 811 "print_statement" #[.int 363 0, .int 3 0, .int 0 0, .int 0 0, .int 3 0, .ref 482, .bool true, .int 181 0, .ref 483, .none, .ref 484, .ref 485, .ref 486, .int 817 0, .int 363 0] 818) .nil .nil)))) (.node { cls := .type "builtin_function_or_method", data := .fields #[.builtin "type.__prepare__", .type "type"] } (.node { cls := .type "function", data := .func (zg "number_word" "number_word" 4 3 .none .none (zv "siftwall.types" 272) (.ref 86)) } (.node { cls := .type "tuple", data := .seq #[.int 0 382] } ztl (.node { cls := .type "type", data := .cls { name := Str.ofString "Tongue", bases := [.type "object"], mro := [.ref 407, .type "object"], ns := 406, qualname := Str.ofString "Tongue" }, slots := #[none, none, some (zv "Tongue" 692), some (zv "Tongue" 700), some (.builtin "object.__new__"), some (.bool true)] } .nil .nil)) (.node { cls := .type "tuple", data := .seq #[zv "at" 456, zv "family" 457, zv "known" 458, zv "table" 459, zv "tokens" 460, zv "tongue" 461] } zol ztl)) (.node zt (.node zt (.node { cls := .none, data := .func (zf "read_counter" "read_counter" 34 0 .none .none) } .nil .nil) (.node { cls := .type "function", data := .func (zg "print_counter" "print_counter" 50 3 .none .none (zv "siftwall.printrule" 723) (.ref 438)) } .nil .nil)) (.node { cls := .none, data := .func (zf "out_of_range" "out_of_range" 25 0 .none .none) } (.node (zc "meter_words" 668 "meter_words" #[.int 290 0, .int 0 0, .int 0 0, .int 0 0, .int 3 0, .ref 370, .bool true, .int 181 0, .ref 371, .none, .ref 372, .ref 373, .ref 374, .int 671 0, .int 290 0] 672) .nil .nil) .nil))))) (.node zt (.node { cls := .none, data := .func (zf "_wall" "_wall" 0 0 .none .none) } (.node { cls := .type "function", data := .func (zg "__init__" "WallFault.__init__" 1 3 .none .none (zv "siftwall.faults" 194) (.ref 34)) } (.node (zc "__init__" 256 "BadText.__init__" #[.int 15 0, .int 4 0, .int 0 0, .int 0 0, .int 3 0, .ref 62, .bool true, .int 181 0, .ref 63, .none, .ref 64, .ref 65, .ref 66, .int 263 0, .int 15 0] 264) (.node zo (.node { cls := .type "tuple", data := .seq #[zv "reader" 519] } .nil .nil) ztl) (.node zo (.node { cls := .type "tuple", data := .seq #[zv "reader" 601, zv "is_over" 602, zv "octets" 603, zv "used" 604] } .nil .nil) (.node { cls := .none, data := .func (zf "print_limit" "print_limit" 52 0 .none .none) } .nil .nil))) (.node { cls := .none, data := .func (zf "run_end" "run_end" 6 0 .none .none) } (.node { cls := .none, data := .func (zf "take" "Reader.take" 14 0 .none .none) } (.node (zc "read_over" 556 "read_over" #[.int 200 0, .int 1 0, .int 0 0, .int 0 0, .int 3 0, .ref 286, .bool true, .int 181 0, .ref 287, .none, .ref 288, .ref 289, .ref 290, .int 561 0, .int 200 0] 562) .nil .nil) ztl) (.node (zc "expected" 470 "expected" #[.int 154 0, .int 2 0, .int 0 0, .int 0 0, .int 3 0, .ref 222, .bool true, .int 181 0, .ref 223, .none, .ref 224, .ref 225, .ref 226, .int 475 0, .int 154 0] 476) (.node { cls := .type "function", data := .func (zg "read_rate" "read_rate" 40 3 .none .none (zv "siftwall.readrule" 523) (.ref 354)) } .nil .nil) zol))) (.node { cls := .type "type", data := .cls { name := Str.ofString "Misused", bases := [.ref 38], mro := [.ref 51, .ref 38, .type "Exception", .type "BaseException", .type "object"], ns := 50, qualname := Str.ofString "Misused" }, slots := #[some (.ref 42), none, some (zv "Misused" 226), some (zv "Misused" 234), some (.builtin "Exception.__new__"), some (.bool true)] } (.node { cls := .type "tuple", data := .seq #[zv "word" 288] } (.node zt (.node { cls := .none, data := .func (zf "sized" "sized" 29 0 .none .none) } .nil .nil) (.node (zc "__init__" 704 "Tongue.__init__" #[.int 312 0, .int 3 0, .int 0 0, .int 0 0, .int 3 0, .ref 398, .bool true, .int 181 0, .ref 399, .none, .ref 400, .ref 401, .ref 402, .int 710 0, .int 312 0] 711) .nil .nil)) (.node zt (.node { cls := .none, data := .func (zf "is_stroke" "is_stroke" 38 0 .none .none) } .nil .nil) (.node { cls := .type "function", data := .func (zg "meter_printers" "meter_printers" 54 3 .none .none (zv "siftwall.printrule" 723) (.ref 466)) } .nil .nil))) (.node { cls := .type "function", data := .func (zg "put_run" "put_run" 8 3 .none .none (zv "siftwall.tokens" 292) (.ref 114)) } (.node { cls := .type "function", data := .func (zg "is_word" "Reader.is_word" 16 3 .none .none (zv "siftwall.tokens" 292) (.ref 178)) } ztl (.node { cls := .type "tuple", data := .seq #[zv "tongue" 752, zv "statement" 753] } .nil .nil)) (.node zt zol .nil)))) (.node (zc "WallFault" 198 "WallFault" #[.int 5 0, .int 0 0, .int 0 0, .int 0 0, .int 0 0, .ref 25, .bool false, .int 181 0, .ref 26, .none, .none, .none, .none, .int 201 0, .int 5 0] 202) (.node { cls := .type "builtin_function_or_method", data := .fields #[.builtin "type.__prepare__", .type "type"] } (.node zo (.node { cls := .type "dict", data := .dict #[ze P "__module__" 368 (zv "siftwall.tokens" 292), ze P "__qualname__" 370 (zv "Reader" 369), ze P "__firstlineno__" 372 (.int 111 371), ze P "__init__" 381 (.ref 150), ze P "look" 391 (.ref 158), ze P "take" 399 (.ref 165), ze P "is_sign" 407 (.ref 172), ze P "is_word" 416 (.ref 179), ze P "skip_sign" 424 (.ref 186), ze P "want_sign" 432 (.ref 193), ze P "want_word" 439 (.ref 200), ze P "skip_rows" 446 (.ref 207), ze P "fault" 455 (.ref 214), ze P "__static_attributes__" 462 (.ref 215)] 14 } ztl (.node { cls := .none, data := .fields #[.int 312 0, .int 4 0, .ref 403] } .nil .nil)) (.node { cls := .type "tuple", data := .seq #[zv "self" 443] } ztl (.node (zc "print_object" 780 "print_object" #[.int 350 0, .int 2 0, .int 0 0, .int 0 0, .int 3 0, .ref 454, .bool true, .int 181 0, .ref 455, .none, .ref 456, .ref 457, .ref 458, .int 785 0, .int 350 0] 786) .nil .nil))) (.node (zc "string_end" 309 "string_end" #[.int 41 0, .int 4 0, .int 0 0, .int 0 0, .int 3 0, .ref 102, .bool true, .int 181 0, .ref 103, .none, .ref 104, .ref 105, .ref 106, .int 317 0, .int 41 0] 318) (.node (zc "is_sign" 400 "Reader.is_sign" #[.int 132 0, .int 2 0, .int 0 0, .int 0 0, .int 3 0, .ref 166, .bool true, .int 181 0, .ref 167, .none, .ref 168, .ref 169, .ref 170, .int 405 0, .int 132 0] 406) (.node { cls := .type "function", data := .func (zg "read_object" "read_object" 32 3 .none .none (zv "siftwall.readrule" 523) (.ref 298)) } .nil .nil) zol) (.node { cls := .type "function", data := .func (zg "number_here" "number_here" 23 3 .none .none (zv "siftwall.tokens" 292) (.ref 234)) } ztl .nil))) (.node (zc "BadText" 244 "BadText" #[.int 13 0, .int 0 0, .int 0 0, .int 0 0, .int 0 0, .ref 57, .bool false, .int 181 0, .ref 58, .none, .none, .none, .none, .int 247 0, .int 13 0] 248) (.node zt (.node zt (.node { cls := .none, data := .func (zf "read_size" "read_size" 30 0 .none .none) } .nil .nil) (.node { cls := .type "builtin_function_or_method", data := .fields #[.builtin "object.__init_subclass__", .ref 407] } .nil .nil)) (.node { cls := .type "getset_descriptor", data := .fields #[zv "__weakref__" 465, .ref 217, .builtin "ExceptionGroup.__weakref__", .none] } (.node (zc "read_unit" 624 "read_unit" #[.int 244 0, .int 2 0, .int 0 0, .int 0 0, .int 3 0, .ref 342, .bool true, .int 181 0, .ref 343, .none, .ref 344, .ref 345, .ref 346, .int 629 0, .int 244 0] 630) .nil .nil) ztl)) (.node zt (.node zt zol ztl) (.node zo (.node { cls := .type "tuple", data := .seq #[zv "reader" 677, zv "told" 678, zv "word" 679] } .nil .nil) .nil)))))) (.node (boot_o_5 P) (.node (boot_o_9 P) (.node { cls := .type "tuple", data := .seq #[zv "k" 190] } (.node { cls := .none, data := .func (zf "__init__" "WallFault.__init__" 1 0 .none .none) } (.node zt (.node { cls := .type "function", data := .func (zg "token_words" "token_words" 10 3 .none .none (zv "siftwall.tokens" 292) (.ref 128)) } ztl zol) (.node { cls := .type "function", data := .func (zg "want_sign" "Reader.want_sign" 18 3 .none .none (zv "siftwall.tokens" 292) (.ref 192)) } ztl (.node { cls := .type "tuple", data := .seq #[zv "tongue" 769, zv "statement" 770, zv "is_over" 771, zv "rate" 772, zv "unit" 773, zv "burst" 774, zv "is_octets" 775, zv "text" 776] } .nil .nil))) (.node { cls := .type "tuple", data := .seq #[zv "text" 304, zv "at" 305] } (.node { cls := .type "tuple", data := .seq #[zv "self" 395, zv "token" 396] } ztl (.node (zc "quoted" 725 "quoted" #[.int 316 0, .int 1 0, .int 0 0, .int 0 0, .int 3 0, .ref 412, .bool true, .int 181 0, .ref 413, .none, .ref 414, .ref 415, .ref 416, .int 729 0, .int 316 0] 730) .nil .nil)) (.node zt (.node { cls := .none, data := .func (zf "read_rate" "read_rate" 40 0 .none .none) } .nil .nil) (.node { cls := .type "function", data := .func (zg "print_notrack" "print_notrack" 56 3 .none .none (zv "siftwall.printrule" 723) (.ref 480)) } .nil .nil)))) (.node zt (.node zt (.node zo (.node { cls := .type "tuple", data := .seq #[zv "reader" 537, zv "n" 538, zv "unit" 539] } .nil .nil) ztl) (.node zo (.node { cls := .type "tuple", data := .seq #[zv "token" 620] } .nil .nil) (.node { cls := .none, data := .func (zf "meter_printers" "meter_printers" 54 0 .none .none) } .nil .nil))) (.node { cls := .none, data := .func (zf "put_run" "put_run" 8 0 .none .none) } (.node { cls := .none, data := .func (zf "is_word" "Reader.is_word" 16 0 .none .none) } (.node (zc "read_counter_body" 572 "read_counter_body" #[.int 208 0, .int 1 0, .int 0 0, .int 0 0, .int 3 0, .ref 300, .bool true, .int 181 0, .ref 301, .none, .ref 302, .ref 303, .ref 304, .int 577 0, .int 208 0] 578) .nil .nil) ztl) (.node (zc "keyword" 489 "keyword" #[.int 166 0, .int 2 0, .int 0 0, .int 0 0, .int 3 0, .ref 236, .bool true, .int 181 0, .ref 237, .none, .ref 238, .ref 239, .ref 240, .int 494 0, .int 166 0] 495) (.node { cls := .type "function", data := .func (zg "read_limit" "read_limit" 42 3 .none .none (zv "siftwall.readrule" 523) (.ref 368)) } .nil .nil) .nil)))) (.node zt (.node { cls := .type "builtin_function_or_method", data := .fields #[.builtin "object.__init_subclass__", .ref 38] } (.node { cls := .type "builtin_function_or_method", data := .fields #[.builtin "object.__init_subclass__", .ref 71] } (.node zt zol (.node { cls := .type "dict", data := .dict #[ze P "__module__" 699 (zv "siftwall.fields" 690), ze P "__qualname__" 701 (zv "Tongue" 700), ze P "__firstlineno__" 703 (.int 310 702), ze P "__init__" 712 (.ref 404), ze P "__static_attributes__" 715 (.ref 405)] 5 } .nil .nil)) (.node zt zol ztl)) (.node zt (.node zt (.node { cls := .none, data := .func (zf "read_object" "read_object" 32 0 .none .none) } .nil .nil) (.node { cls := .type "function", data := .func (zg "print_units" "print_units" 48 3 .none .none (zv "siftwall.printrule" 723) (.ref 424)) } .nil .nil)) (.node { cls := .none, data := .func (zf "number_here" "number_here" 23 0 .none .none) } (.node (zc "read_limit_body" 644 "read_limit_body" #[.int 272 0, .int 1 0, .int 0 0, .int 0 0, .int 3 0, .ref 356, .bool true, .int 181 0, .ref 357, .none, .ref 358, .ref 359, .ref 360, .int 653 0, .int 272 0] 654) .nil .nil) .nil))) (.node zt (.node zo (.node zo (.node { cls := .type "tuple", data := .seq #[zv "reader" 547, zv "many" 548, zv "n" 549, zv "token" 550, zv "unit" 551, zv "octets" 552] } .nil .nil) (.node { cls := .type "getset_descriptor", data := .fields #[zv "__weakref__" 718, .ref 407, .builtin "ExceptionGroup.__weakref__", .none] } .nil .nil)) (.node { cls := .type "type", data := .cls { name := Str.ofString "Reader", bases := [.type "object"], mro := [.ref 217, .type "object"], ns := 216, qualname := Str.ofString "Reader" }, slots := #[none, none, some (zv "Reader" 361), some (zv "Reader" 369), some (.builtin "object.__new__"), some (.bool true)] } ztl (.node (zc "print_log" 794 "print_log" #[.int 354 0, .int 2 0, .int 0 0, .int 0 0, .int 3 0, .ref 468, .bool true, .int 181 0, .ref 469, .none, .ref 470, .ref 471, .ref 472, .int 800 0, .int 354 0] 801) .nil .nil))) (.node (zc "read_tokens" 331 "read_tokens" #[.int 62 0, .int 1 0, .int 0 0, .int 0 0, .int 3 0, .ref 116, .bool true, .int 181 0, .ref 117, .none, .ref 118, .ref 119, .ref 120, .int 342 0, .int 62 0] 343) (.node (zc "skip_sign" 417 "Reader.skip_sign" #[.int 139 0, .int 2 0, .int 0 0, .int 0 0, .int 3 0, .ref 180, .bool true, .int 181 0, .ref 181, .none, .ref 182, .ref 183, .ref 184, .int 422 0, .int 139 0] 423) (.node { cls := .type "function", data := .func (zg "read_counter" "read_counter" 34 3 .none .none (zv "siftwall.readrule" 523) (.ref 312)) } .nil .nil) zol) (.node { cls := .type "function", data := .func (zg "out_of_range" "out_of_range" 25 3 .none .none (zv "siftwall.readexpr" 487) (.ref 248)) } ztl .nil))))) (.node (zc "<module>" 182 "<module>" #[.int 1 0, .int 0 0, .int 0 0, .int 0 0, .int 0 0, .ref 11, .bool false, .int 181 0, .ref 12, .none, .none, .none, .none, .int 185 0, .int 1 0] 186) (.node { cls := .type "function", data := .func (zg "_wall" "_wall" 0 3 .none .none (zv "__main__" 164) (.ref 20)) } (.node { cls := .type "dict", data := .dict #[ze P "__module__" 203 (zv "siftwall.faults" 194), ze P "__firstlineno__" 207 (.int 5 206), ze P "__init__" 215 (.ref 35), ze P "__static_attributes__" 218 (.ref 36), ze P "__weakref__" 220 (.ref 39), ze P "__doc__" 221 .none] 3 } (.node { cls := .type "tuple", data := .seq #[zv "column" 266, zv "row" 267] } (.node zt (.node { cls := .none, data := .func (zf "read_text" "read_text" 27 0 .none .none) } .nil .nil) (.node (zc "read_notrack" 683 "read_notrack" #[.int 306 0, .int 1 0, .int 0 0, .int 0 0, .int 3 0, .ref 384, .bool true, .int 181 0, .ref 385, .none, .ref 386, .ref 387, .ref 388, .int 687 0, .int 306 0] 688) .nil .nil)) (.node zt (.node { cls := .none, data := .func (zf "read_quota" "read_quota" 36 0 .none .none) } .nil .nil) (.node { cls := .type "function", data := .func (zg "print_limit" "print_limit" 52 3 .none .none (zv "siftwall.printrule" 723) (.ref 452)) } .nil .nil))) (.node { cls := .type "function", data := .func (zg "run_end" "run_end" 6 3 .none .none (zv "siftwall.tokens" 292) (.ref 100)) } (.node { cls := .type "function", data := .func (zg "take" "Reader.take" 14 3 .none .none (zv "siftwall.tokens" 292) (.ref 164)) } ztl (.node { cls := .type "tuple", data := .seq #[zv "octets" 735, zv "many" 736, zv "units" 737, zv "rank" 738] } .nil .nil)) (.node zt zol ztl))) (.node { cls := .type "builtin_function_or_method", data := .fields #[.builtin "object.__init_subclass__", .ref 51] } (.node { cls := .none, data := .func (zf "number_word" "number_word" 4 0 .none .none) } (.node (zc "__init__" 373 "Reader.__init__" #[.int 113 0, .int 3 0, .int 0 0, .int 0 0, .int 3 0, .ref 144, .bool true, .int 181 0, .ref 145, .none, .ref 146, .ref 147, .ref 148, .int 379 0, .int 113 0] 380) (.node { cls := .type "function", data := .func (zg "sized" "sized" 29 3 .none .none (zv "siftwall.readrule" 523) (.ref 276)) } .nil .nil) (.node { cls := .type "tuple", data := .seq #[zv "fields" 713, zv "types" 714] } .nil .nil)) (.node (zc "fault" 447 "Reader.fault" #[.int 151 0, .int 2 0, .int 0 0, .int 0 0, .int 3 0, .ref 208, .bool true, .int 181 0, .ref 209, .none, .ref 210, .ref 211, .ref 212, .int 453 0, .int 151 0] 454) (.node { cls := .type "function", data := .func (zg "is_stroke" "is_stroke" 38 3 .none .none (zv "siftwall.readrule" 523) (.ref 340)) } .nil .nil) zol)) (.node zo (.node zo (.node { cls := .type "tuple", data := .seq #[zv "reader" 583, zv "packets" 584, zv "octets" 585] } .nil .nil) (.node { cls := .none, data := .func (zf "print_counter" "print_counter" 50 0 .none .none) } .nil .nil)) (.node { cls := .type "tuple", data := .seq #[zv "reader" 500, zv "text" 501, zv "top" 502] } ztl .nil)))) (.node zt (.node zt (.node zt (.node { cls := .none, data := .fields #[.int 113 0, .int 4 0, .ref 149, .int 121 0, .int 4 0, .ref 157, .int 127 0, .int 4 0, .ref 164, .int 132 0, .int 4 0, .ref 171, .int 135 0, .int 4 0, .ref 178, .int 139 0, .int 4 0, .ref 185, .int 142 0, .int 4 0, .ref 192, .int 145 0, .int 4 0, .ref 199, .int 148 0, .int 4 0, .ref 206, .int 151 0, .int 4 0, .ref 213] } (.node (zc "size_unit" 525 "size_unit" #[.int 184 0, .int 2 0, .int 0 0, .int 0 0, .int 3 0, .ref 264, .bool true, .int 181 0, .ref 265, .none, .ref 266, .ref 267, .ref 268, .int 531 0, .int 184 0] 532) .nil .nil) (.node { cls := .type "frame", slots := #[some (.ref 396), some (.ref 3), some (.ref 393), none, some (zv "siftwall.fields" 690), none, some (.ref 0)] } .nil .nil)) (.node { cls := .none, data := .func (zf "skip_rows" "Reader.skip_rows" 20 0 .none .none) } (.node (zc "cut_word" 608 "cut_word" #[.int 234 0, .int 1 0, .int 0 0, .int 0 0, .int 3 0, .ref 328, .bool true, .int 181 0, .ref 329, .none, .ref 330, .ref 331, .ref 332, .int 614 0, .int 234 0] 615) .nil .nil) ztl)) (.node zt (.node zt zol ztl) (.node zo (.node { cls := .type "tuple", data := .seq #[zv "reader" 659, zv "is_over" 660, zv "rate" 661, zv "unit" 662, zv "burst" 663, zv "is_octets" 664] } .nil .nil) .nil))) (.node { cls := .type "tuple", data := .seq #[.int 0 254, .int 0 255] } (.node (zc "is_word_sign" 294 "is_word_sign" #[.int 35 0, .int 1 0, .int 0 0, .int 0 0, .int 3 0, .ref 88, .bool true, .int 181 0, .ref 89, .none, .ref 90, .ref 91, .ref 92, .int 298 0, .int 35 0] 299) (.node (zc "look" 383 "Reader.look" #[.int 121 0, .int 2 0, .int 0 0, .int 0 0, .int 3 0, .ref 152, .bool true, .int 181 0, .ref 153, .none, .ref 154, .ref 155, .ref 156, .int 389 0, .int 121 0] 390) (.node { cls := .type "function", data := .func (zg "read_size" "read_size" 30 3 (.ref 278) .none (zv "siftwall.readrule" 523) (.ref 284)) } .nil .nil) zol) (.node { cls := .type "builtin_function_or_method", data := .fields #[.builtin "object.__init_subclass__", .ref 217] } ztl (.node { cls := .type "tuple", data := .seq #[zv "tongue" 806, zv "statement" 807] } .nil .nil))) (.node { cls := .type "tuple", data := .seq #[zv "token" 348] } (.node { cls := .type "tuple", data := .seq #[zv "self" 428, zv "text" 429] } ztl (.node (zc "print_quota" 757 "print_quota" #[.int 331 0, .int 2 0, .int 0 0, .int 0 0, .int 3 0, .ref 440, .bool true, .int 181 0, .ref 441, .none, .ref 442, .ref 443, .ref 444, .int 763 0, .int 331 0] 764) .nil .nil)) (.node zt (.node { cls := .none, data := .func (zf "read_log" "read_log" 44 0 .none .none) } .nil .nil) .nil))))))) (.node { cls := .none, data := .dict #[ze P "type.__subclasses__.Exception.0" 222 (.int 38 0), ze P "type.__subclasses__.Exception.n" 223 (.int 1 0)] 2 } (.node (boot_o_4 P) (.node (boot_o_8 P) (.node zo (.node zt (.node { cls := .type "tuple", data := .seq #[zv "self" 259, zv "why" 260, zv "row" 261, zv "column" 262] } (.node (zc "token_words" 345 "token_words" #[.int 100 0, .int 1 0, .int 0 0, .int 0 0, .int 3 0, .ref 123, .bool true, .int 181 0, .ref 124, .none, .ref 125, .ref 126, .ref 127, .int 349 0, .int 100 0] 350) (.node { cls := .type "function", data := .func (zg "number_to" "number_to" 26 3 .none .none (zv "siftwall.readexpr" 487) (.ref 255)) } .nil .nil) ztl) (.node (zc "want_sign" 425 "Reader.want_sign" #[.int 142 0, .int 2 0, .int 0 0, .int 0 0, .int 3 0, .ref 187, .bool true, .int 181 0, .ref 188, .none, .ref 189, .ref 190, .ref 191, .int 430 0, .int 142 0] 431) (.node { cls := .type "function", data := .func (zg "read_quota_body" "read_quota_body" 35 3 .none .none (zv "siftwall.readrule" 523) (.ref 319)) } .nil .nil) zol)) (.node zo (.node zo (.node { cls := .type "tuple", data := .seq #[zv "reader" 559, zv "is_over" 560] } .nil .nil) (.node { cls := .none, data := .func (zf "quoted" "quoted" 47 0 .none .none) } .nil .nil)) (.node { cls := .type "tuple", data := .seq #[zv "reader" 473, zv "what" 474] } ztl (.node (zc "print_notrack" 803 "print_notrack" #[.int 361 0, .int 2 0, .int 0 0, .int 0 0, .int 3 0, .ref 475, .bool true, .int 181 0, .ref 476, .none, .ref 477, .ref 478, .ref 479, .int 808 0, .int 361 0] 809) .nil .nil)))) (.node { cls := .type "frame", slots := #[some (.ref 47), some (.ref 3), some (.ref 44), none, some (zv "siftwall.faults" 194), none, some (.ref 0)] } (.node { cls := .type "function", data := .func (zg "based_number" "based_number" 3 3 .none .none (zv "siftwall.types" 272) (.ref 79)) } (.node zt zol (.node { cls := .type "tuple", data := .seq #[zv "self" 707, zv "fields" 708, zv "types" 709] } .nil .nil)) (.node zt zol ztl)) (.node zt (.node zt (.node { cls := .none, data := .func (zf "read_counter_body" "read_counter_body" 33 0 .none .none) } .nil .nil) (.node { cls := .type "function", data := .func (zg "print_size" "print_size" 49 3 .none .none (zv "siftwall.printrule" 723) (.ref 431)) } .nil .nil)) (.node { cls := .none, data := .func (zf "keyword" "keyword" 24 0 .none .none) } (.node (zc "read_limit" 656 "read_limit" #[.int 284 0, .int 1 0, .int 0 0, .int 0 0, .int 3 0, .ref 363, .bool true, .int 181 0, .ref 364, .none, .ref 365, .ref 366, .ref 367, .int 665 0, .int 284 0] 666) .nil .nil) .nil)))) (.node { cls := .type "dict", data := .dict #[ze P "__module__" 203 (zv "siftwall.faults" 194), ze P "__qualname__" 205 (zv "WallFault" 204), ze P "__firstlineno__" 207 (.int 5 206), ze P "__init__" 215 (.ref 35), ze P "__static_attributes__" 218 (.ref 36)] 5 } (.node { cls := .type "super", data := .fields #[.ref 38, .ref 38, .ref 38] } (.node { cls := .type "super", data := .fields #[.ref 71, .ref 71, .ref 71] } (.node { cls := .type "function", data := .func (zg "unexpected" "unexpected" 11 3 .none .none (zv "siftwall.tokens" 292) (.ref 135)) } ztl (.node { cls := .type "builtin_function_or_method", data := .fields #[.builtin "type.__prepare__", .type "type"] } .nil .nil)) (.node { cls := .type "function", data := .func (zg "want_word" "Reader.want_word" 19 3 .none .none (zv "siftwall.tokens" 292) (.ref 199)) } ztl (.node { cls := .type "tuple", data := .seq #[zv "tongue" 783, zv "statement" 784] } .nil .nil))) (.node { cls := .type "tuple", data := .seq #[zv "text" 312, zv "at" 313, zv "row" 314, zv "column" 315, zv "behind" 316] } (.node { cls := .type "tuple", data := .seq #[zv "self" 403, zv "text" 404] } ztl (.node (zc "print_units" 732 "print_units" #[.int 320 0, .int 2 0, .int 0 0, .int 0 0, .int 3 0, .ref 419, .bool true, .int 181 0, .ref 420, .none, .ref 421, .ref 422, .ref 423, .int 739 0, .int 320 0] 740) .nil .nil)) (.node zt (.node { cls := .none, data := .func (zf "read_limit_body" "read_limit_body" 41 0 .none .none) } .nil .nil) (.node { cls := .type "function", data := .func (zg "print_statement" "print_statement" 57 3 .none .none (zv "siftwall.printrule" 723) (.ref 487)) } .nil .nil)))) (.node { cls := .type "dict", data := .dict #[ze P "__module__" 249 (zv "siftwall.faults" 194), ze P "__qualname__" 251 (zv "BadText" 250), ze P "__firstlineno__" 253 (.int 13 252), ze P "__init__" 265 (.ref 68), ze P "__static_attributes__" 268 (.ref 69)] 5 } (.node zt (.node zt zol (.node { cls := .type "getset_descriptor", data := .fields #[zv "__dict__" 716, .ref 407, .builtin "function.__dict__", .builtin "function.__dict__#set"] } .nil .nil)) (.node { cls := .type "dict", data := .dict #[ze P "__module__" 368 (zv "siftwall.tokens" 292), ze P "__firstlineno__" 372 (.int 111 371), ze P "__init__" 381 (.ref 150), ze P "look" 391 (.ref 158), ze P "take" 399 (.ref 165), ze P "is_sign" 407 (.ref 172), ze P "is_word" 416 (.ref 179), ze P "skip_sign" 424 (.ref 186), ze P "want_sign" 432 (.ref 193), ze P "want_word" 439 (.ref 200), ze P "skip_rows" 446 (.ref 207), ze P "fault" 455 (.ref 214), ze P "__static_attributes__" 462 (.ref 215), ze P "__dict__" 464 (.ref 218), ze P "__weakref__" 466 (.ref 219), ze P "__doc__" 467 .none] 4 } (.node { cls := .type "tuple", data := .seq #[zv "reader" 627, zv "tail" 628] } .nil .nil) (.node { cls := .none, data := .func (zf "print_log" "print_log" 55 0 .none .none) } .nil .nil))) (.node { cls := .none, data := .func (zf "read_tokens" "read_tokens" 9 0 .none .none) } (.node { cls := .none, data := .func (zf "skip_sign" "Reader.skip_sign" 17 0 .none .none) } (.node (zc "read_counter" 580 "read_counter" #[.int 215 0, .int 1 0, .int 0 0, .int 0 0, .int 3 0, .ref 307, .bool true, .int 181 0, .ref 308, .none, .ref 309, .ref 310, .ref 311, .int 586 0, .int 215 0] 587) .nil .nil) ztl) (.node (zc "out_of_range" 497 "out_of_range" #[.int 170 0, .int 3 0, .int 0 0, .int 0 0, .int 3 0, .ref 243, .bool true, .int 181 0, .ref 244, .none, .ref 245, .ref 246, .ref 247, .int 503 0, .int 170 0] 504) (.node { cls := .type "function", data := .func (zg "meter_words" "meter_words" 43 3 .none .none (zv "siftwall.readrule" 523) (.ref 375)) } .nil .nil) .nil))))) (.node { cls := .none, data := .fields #[.int 1 0, .int 0 0, .ref 20, .int 5 0, .int 0 0, .ref 27, .int 11 0, .int 0 0, .ref 47, .int 13 0, .int 0 0, .ref 59, .int 20 0, .int 0 0, .ref 79, .int 30 0, .int 0 0, .ref 86, .int 35 0, .int 0 0, .ref 93, .int 37 0, .int 0 0, .ref 100, .int 41 0, .int 0 0, .ref 107, .int 48 0, .int 0 0, .ref 114, .int 62 0, .int 0 0, .ref 121, .int 100 0, .int 0 0, .ref 128, .int 108 0, .int 0 0, .ref 135, .int 111 0, .int 0 0, .ref 142, .int 154 0, .int 0 0, .ref 227, .int 156 0, .int 0 0, .ref 234, .int 166 0, .int 0 0, .ref 241, .int 170 0, .int 0 0, .ref 248, .int 172 0, .int 0 0, .ref 255, .int 179 0, .int 0 0, .ref 262, .int 184 0, .int 0 0, .ref 269, .int 187 0, .int 0 0, .ref 276, .int 191 0, .int 0 0, .ref 284, .int 200 0, .int 0 0, .ref 291, .int 205 0, .int 0 0, .ref 298, .int 208 0, .int 0 0, .ref 305, .int 215 0, .int 0 0, .ref 312, .int 221 0, .int 0 0, .ref 319, .int 228 0, .int 0 0, .ref 326, .int 234 0, .int 0 0, .ref 333, .int 242 0, .int 0 0, .ref 340, .int 244 0, .int 0 0, .ref 347, .int 255 0, .int 0 0, .ref 354, .int 272 0, .int 0 0, .ref 361, .int 284 0, .int 0 0, .ref 368, .int 290 0, .int 0 0, .ref 375, .int 292 0, .int 0 0, .ref 382, .int 306 0, .int 0 0, .ref 389, .int 310 0, .int 0 0, .ref 396, .int 316 0, .int 0 0, .ref 417, .int 320 0, .int 0 0, .ref 424, .int 327 0, .int 0 0, .ref 431, .int 329 0, .int 0 0, .ref 438, .int 331 0, .int 0 0, .ref 445, .int 339 0, .int 0 0, .ref 452, .int 350 0, .int 0 0, .ref 459, .int 352 0, .int 0 0, .ref 466, .int 354 0, .int 0 0, .ref 473, .int 361 0, .int 0 0, .ref 480, .int 363 0, .int 0 0, .ref 487] } (.node (zc "_wall" 187 "_wall" #[.int 1 0, .int 1 0, .int 0 0, .int 0 0, .int 3 0, .ref 15, .bool true, .int 181 0, .ref 16, .none, .ref 17, .ref 18, .ref 19, .int 191 0, .int 1 0] 192) (.node { cls := .type "tuple", data := .seq #[zv "at" 216, zv "why" 217] } (.node { cls := .type "function", data := .func (zg "__init__" "BadText.__init__" 2 3 (.ref 61) .none (zv "siftwall.faults" 194) (.ref 67)) } (.node { cls := .type "tuple", data := .seq #[zv "token" 355, zv "what" 356, zv "why" 357] } ztl (.node { cls := .none, data := .func (zf "read_notrack" "read_notrack" 45 0 .none .none) } .nil .nil)) (.node { cls := .type "tuple", data := .seq #[zv "self" 436] } ztl (.node (zc "print_limit" 766 "print_limit" #[.int 339 0, .int 2 0, .int 0 0, .int 0 0, .int 3 0, .ref 447, .bool true, .int 181 0, .ref 448, .none, .ref 449, .ref 450, .ref 451, .int 777 0, .int 339 0] 778) .nil .nil))) (.node (zc "run_end" 301 "run_end" #[.int 37 0, .int 2 0, .int 0 0, .int 0 0, .int 3 0, .ref 95, .bool true, .int 181 0, .ref 96, .none, .ref 97, .ref 98, .ref 99, .int 306 0, .int 37 0] 307) (.node (zc "take" 392 "Reader.take" #[.int 127 0, .int 1 0, .int 0 0, .int 0 0, .int 3 0, .ref 159, .bool true, .int 181 0, .ref 160, .none, .ref 161, .ref 162, .ref 163, .int 397 0, .int 127 0] 398) (.node { cls := .type "function", data := .func (zg "read_over" "read_over" 31 3 .none .none (zv "siftwall.readrule" 523) (.ref 291)) } .nil .nil) zol) (.node { cls := .type "function", data := .func (zg "expected" "expected" 22 3 .none .none (zv "siftwall.tokens" 292) (.ref 227)) } ztl (.node { cls := .type "tuple", data := .seq #[zv "tongue" 814, zv "printers" 815, zv "statement" 816] } .nil .nil)))) (.node { cls := .type "super", data := .fields #[.ref 51, .ref 51, .ref 51] } (.node zt (.node { cls := .none, data := .func (zf "__init__" "Reader.__init__" 12 0 .none .none) } (.node (zc "sized" 534 "sized" #[.int 187 0, .int 3 0, .int 0 0, .int 0 0, .int 3 0, .ref 271, .bool true, .int 181 0, .ref 272, .none, .ref 273, .ref 274, .ref 275, .int 540 0, .int 187 0] 541) .nil .nil) (.node { cls := .type "function", data := .func (zg "__init__" "Tongue.__init__" 46 3 .none .none (zv "siftwall.fields" 690) (.ref 403)) } .nil .nil)) (.node { cls := .none, data := .func (zf "fault" "Reader.fault" 21 0 .none .none) } (.node (zc "is_stroke" 617 "is_stroke" #[.int 242 0, .int 1 0, .int 0 0, .int 0 0, .int 3 0, .ref 335, .bool true, .int 181 0, .ref 336, .none, .ref 337, .ref 338, .ref 339, .int 621 0, .int 242 0] 622) .nil .nil) ztl)) (.node zt (.node zt zol ztl) (.node zo ztl .nil)))) (.node { cls := .type "frame", slots := #[some (.ref 27), some (.ref 3), some (.ref 24), none, some (zv "siftwall.faults" 194), none, some (.ref 0)] } (.node { cls := .type "dict", data := .dict #[ze P "__module__" 233 (zv "siftwall.faults" 194), ze P "__qualname__" 235 (zv "Misused" 234), ze P "__firstlineno__" 237 (.int 11 236), ze P "__static_attributes__" 238 (.ref 49)] 4 } (.node { cls := .type "tuple", data := .seq #[zv "digits" 277, zv "base" 278, zv "number" 279, zv "sign" 280, zv "digit" 281] } (.node zt (.node { cls := .none, data := .func (zf "size_unit" "size_unit" 28 0 .none .none) } .nil .nil) (.node (zc "Tongue" 694 "Tongue" #[.int 310 0, .int 0 0, .int 0 0, .int 0 0, .int 0 0, .ref 394, .bool false, .int 181 0, .ref 395, .none, .none, .none, .none, .int 697 0, .int 310 0] 698) .nil .nil)) (.node zt (.node { cls := .none, data := .func (zf "cut_word" "cut_word" 37 0 .none .none) } .nil .nil) (.node { cls := .type "function", data := .func (zg "print_object" "print_object" 53 3 .none .none (zv "siftwall.printrule" 723) (.ref 459)) } .nil .nil))) (.node { cls := .type "function", data := .func (zg "string_end" "string_end" 7 3 .none .none (zv "siftwall.tokens" 292) (.ref 107)) } (.node { cls := .type "function", data := .func (zg "is_sign" "Reader.is_sign" 15 3 .none .none (zv "siftwall.tokens" 292) (.ref 171)) } ztl (.node { cls := .type "tuple", data := .seq #[zv "octets" 745] } .nil .nil)) (.node zt zol .nil))) (.node { cls := .type "frame", slots := #[some (.ref 59), some (.ref 3), some (.ref 56), none, some (zv "siftwall.faults" 194), none, some (.ref 0)] } (.node { cls := .none, data := .func (zf "is_word_sign" "is_word_sign" 5 0 .none .none) } (.node { cls := .none, data := .func (zf "look" "Reader.look" 13 0 .none .none) } (.node (zc "read_size" 544 "read_size" #[.int 191 0, .int 2 0, .int 0 0, .int 0 0, .int 3 0, .ref 279, .bool true, .int 181 0, .ref 280, .none, .ref 281, .ref 282, .ref 283, .int 553 0, .int 191 0] 554) .nil .nil) ztl) (.node { cls := .type "super", data := .fields #[.ref 217, .ref 217, .ref 217] } (.node { cls := .type "function", data := .func (zg "read_unit" "read_unit" 39 3 .none .none (zv "siftwall.readrule" 523) (.ref 347)) } .nil .nil) zol)) (.node zo (.node zo (.node { cls := .type "tuple", data := .seq #[zv "reader" 592, zv "is_over" 593, zv "octets" 594] } .nil .nil) (.node { cls := .none, data := .func (zf "print_quota" "print_quota" 51 0 .none .none) } .nil .nil)) (.node { cls := .type "tuple", data := .seq #[zv "reader" 509, zv "top" 510, zv "token" 511, zv "n" 512] } ztl .nil)))))) (.node (boot_o_6 P) (.node (boot_o_10 P) (.node zt (.node (zc "__init__" 208 "WallFault.__init__" #[.int 7 0, .int 2 0, .int 0 0, .int 0 0, .int 3 0, .ref 29, .bool true, .int 181 0, .ref 30, .none, .ref 31, .ref 32, .ref 33, .int 213 0, .int 7 0] 214) (.node { cls := .none, data := .func (zf "__init__" "BadText.__init__" 2 0 .none .none) } (.node zt zol (.node { cls := .type "tuple", data := .seq #[zv "reader" 686] } .nil .nil)) (.node zt zol ztl)) (.node zt (.node zt (.node { cls := .none, data := .func (zf "read_over" "read_over" 31 0 .none .none) } .nil .nil) (.node { cls := .type "function", data := .func (zg "quoted" "quoted" 47 3 .none .none (zv "siftwall.printrule" 723) (.ref 417)) } .nil .nil)) (.node { cls := .none, data := .func (zf "expected" "expected" 22 0 .none .none) } (.node (zc "read_rate" 632 "read_rate" #[.int 255 0, .int 1 0, .int 0 0, .int 0 0, .int 3 0, .ref 349, .bool true, .int 181 0, .ref 350, .none, .ref 351, .ref 352, .ref 353, .int 641 0, .int 255 0] 642) .nil .nil) ztl))) (.node { cls := .type "dict", data := .dict #[ze P "__module__" 233 (zv "siftwall.faults" 194), ze P "__firstlineno__" 237 (.int 11 236), ze P "__static_attributes__" 238 (.ref 49), ze P "__doc__" 239 .none] 2 } (.node zo (.node { cls := .type "tuple", data := .seq #[zv "self" 376, zv "tokens" 377, zv "tongue" 378] } ztl (.node { cls := .none, data := .func (zf "__init__" "Tongue.__init__" 46 0 .none .none) } .nil .nil)) (.node { cls := .type "tuple", data := .seq #[zv "self" 450, zv "why" 451, zv "token" 452] } ztl (.node (zc "meter_printers" 788 "meter_printers" #[.int 352 0, .int 0 0, .int 0 0, .int 0 0, .int 3 0, .ref 461, .bool true, .int 181 0, .ref 462, .none, .ref 463, .ref 464, .ref 465, .int 791 0, .int 352 0] 792) .nil .nil))) (.node (zc "put_run" 320 "put_run" #[.int 48 0, .int 4 0, .int 0 0, .int 0 0, .int 3 0, .ref 109, .bool true, .int 181 0, .ref 110, .none, .ref 111, .ref 112, .ref 113, .int 328 0, .int 48 0] 329) (.node (zc "is_word" 408 "Reader.is_word" #[.int 135 0, .int 2 0, .int 0 0, .int 0 0, .int 3 0, .ref 173, .bool true, .int 181 0, .ref 174, .none, .ref 175, .ref 176, .ref 177, .int 414 0, .int 135 0] 415) (.node { cls := .type "function", data := .func (zg "read_counter_body" "read_counter_body" 33 3 .none .none (zv "siftwall.readrule" 523) (.ref 305)) } .nil .nil) zol) (.node { cls := .type "function", data := .func (zg "keyword" "keyword" 24 3 .none .none (zv "siftwall.readexpr" 487) (.ref 241)) } ztl .nil)))) (.node { cls := .none, data := .fields #[.int 7 0, .int 4 0, .ref 34] } (.node { cls := .type "tuple", data := .seq #[.ref 38] } (.node zt (.node { cls := .type "builtin_function_or_method", data := .fields #[.builtin "type.__prepare__", .type "type"] } (.node { cls := .type "tuple", data := .seq #[zv "word" 528, zv "many" 529, zv "units" 530] } .nil .nil) ztl) (.node zo (.node { cls := .type "tuple", data := .seq #[zv "reader" 611, zv "token" 612, zv "at" 613] } .nil .nil) (.node { cls := .none, data := .func (zf "print_object" "print_object" 53 0 .none .none) } .nil .nil))) (.node { cls := .none, data := .func (zf "string_end" "string_end" 7 0 .none .none) } (.node { cls := .none, data := .func (zf "is_sign" "Reader.is_sign" 15 0 .none .none) } (.node (zc "read_object" 564 "read_object" #[.int 205 0, .int 2 0, .int 0 0, .int 0 0, .int 3 0, .ref 293, .bool true, .int 181 0, .ref 294, .none, .ref 295, .ref 296, .ref 297, .int 569 0, .int 205 0] 570) .nil .nil) ztl) (.node (zc "number_here" 478 "number_here" #[.int 156 0, .int 1 0, .int 0 0, .int 0 0, .int 3 0, .ref 229, .bool true, .int 181 0, .ref 230, .none, .ref 231, .ref 232, .ref 233, .int 484 0, .int 156 0] 485) (.node { cls := .type "function", data := .func (zg "read_limit_body" "read_limit_body" 41 3 .none .none (zv "siftwall.readrule" 523) (.ref 361)) } .nil .nil) .nil))) (.node { cls := .none, data := .fields #[.int 15 0, .int 4 0, .ref 67] } (.node { cls := .type "tuple", data := .seq #[zv "sign" 297] } (.node { cls := .type "tuple", data := .seq #[zv "self" 386, zv "ahead" 387, zv "place" 388] } ztl (.node { cls := .type "super", data := .fields #[.ref 407, .ref 407, .ref 407] } .nil .nil)) (.node { cls := .type "getset_descriptor", data := .fields #[zv "__dict__" 463, .ref 217, .builtin "function.__dict__", .builtin "function.__dict__#set"] } (.node { cls := .none, data := .func (zf "read_unit" "read_unit" 39 0 .none .none) } .nil .nil) (.node { cls := .type "function", data := .func (zg "print_log" "print_log" 55 3 .none .none (zv "siftwall.printrule" 723) (.ref 473)) } .nil .nil))) (.node { cls := .type "function", data := .func (zg "read_tokens" "read_tokens" 9 3 .none .none (zv "siftwall.tokens" 292) (.ref 121)) } (.node { cls := .type "function", data := .func (zg "skip_sign" "Reader.skip_sign" 17 3 .none .none (zv "siftwall.tokens" 292) (.ref 185)) } ztl (.node { cls := .type "tuple", data := .seq #[zv "tongue" 760, zv "statement" 761, zv "text" 762] } .nil .nil)) (.node zt zol .nil))))) (.node { cls := .type "frame", slots := #[some (.ref 13), some (.ref 3), some (.ref 3), none, some (zv "__main__" 164), none, some (.ref 0)] } (.node { cls := .type "tuple", data := .seq #[.type "Exception"] } (.node { cls := .type "type", data := .cls { name := Str.ofString "WallFault", bases := [.type "Exception"], mro := [.ref 38, .type "Exception", .type "BaseException", .type "object"], ns := 37, qualname := Str.ofString "WallFault", subclasses := [.ref 51, .ref 71] }, slots := #[some (.ref 22), none, some (zv "WallFault" 196), some (zv "WallFault" 204), some (.builtin "Exception.__new__"), some (.bool true)] } (.node { cls := .type "dict", data := .dict #[ze P "__module__" 249 (zv "siftwall.faults" 194), ze P "__firstlineno__" 253 (.int 13 252), ze P "__init__" 265 (.ref 68), ze P "__static_attributes__" 268 (.ref 69), ze P "__doc__" 269 .none] 2 } (.node { cls := .none, data := .func (zf "unexpected" "unexpected" 11 0 .none .none) } (.node (zc "read_text" 516 "read_text" #[.int 179 0, .int 1 0, .int 0 0, .int 0 0, .int 3 0, .ref 257, .bool true, .int 181 0, .ref 258, .none, .ref 259, .ref 260, .ref 261, .int 520 0, .int 179 0] 521) .nil .nil) (.node { cls := .type "function", data := .func (zg "read_notrack" "read_notrack" 45 3 .none .none (zv "siftwall.readrule" 523) (.ref 389)) } .nil .nil)) (.node { cls := .none, data := .func (zf "want_word" "Reader.want_word" 19 0 .none .none) } (.node (zc "read_quota" 598 "read_quota" #[.int 228 0, .int 1 0, .int 0 0, .int 0 0, .int 3 0, .ref 321, .bool true, .int 181 0, .ref 322, .none, .ref 323, .ref 324, .ref 325, .int 605 0, .int 228 0] 606) .nil .nil) ztl)) (.node zt (.node zt zol ztl) (.node zo (.node { cls := .type "tuple", data := .seq #[zv "reader" 647, zv "is_over" 648, zv "rate" 649, zv "unit" 650, zv "is_octets" 651, zv "burst" 652] } .nil .nil) (.node { cls := .none, data := .func (zf "print_statement" "print_statement" 57 0 .none .none) } .nil .nil)))) (.node { cls := .type "tuple", data := .seq #[.ref 38] } (.node (zc "number_word" 285 "number_word" #[.int 30 0, .int 1 0, .int 0 0, .int 0 0, .int 3 0, .ref 81, .bool true, .int 181 0, .ref 82, .none, .ref 83, .ref 84, .ref 85, .int 289 0, .int 30 0] 290) (.node { cls := .type "function", data := .func (zg "__init__" "Reader.__init__" 12 3 .none .none (zv "siftwall.tokens" 292) (.ref 149)) } (.node { cls := .type "tuple", data := .seq #[.int 4 543] } .nil .nil) (.node { cls := .type "dict", data := .dict #[ze P "__module__" 699 (zv "siftwall.fields" 690), ze P "__firstlineno__" 703 (.int 310 702), ze P "__init__" 712 (.ref 404), ze P "__static_attributes__" 715 (.ref 405), ze P "__dict__" 717 (.ref 408), ze P "__weakref__" 719 (.ref 409), ze P "__doc__" 720 .none] 4 } .nil .nil)) (.node { cls := .type "function", data := .func (zg "fault" "Reader.fault" 21 3 .none .none (zv "siftwall.tokens" 292) (.ref 213)) } ztl (.node { cls := .type "tuple", data := .seq #[zv "tongue" 797, zv "statement" 798, zv "text" 799] } .nil .nil))) (.node { cls := .type "tuple", data := .seq #[zv "text" 334, zv "tokens" 335, zv "at" 336, zv "row" 337, zv "begin" 338, zv "sign" 339, zv "column" 340, zv "behind" 341] } (.node { cls := .type "tuple", data := .seq #[zv "self" 420, zv "text" 421] } ztl (.node (zc "print_counter" 749 "print_counter" #[.int 329 0, .int 2 0, .int 0 0, .int 0 0, .int 3 0, .ref 433, .bool true, .int 181 0, .ref 434, .none, .ref 435, .ref 436, .ref 437, .int 754 0, .int 329 0] 755) .nil .nil)) (.node zt (.node { cls := .none, data := .func (zf "meter_words" "meter_words" 43 0 .none .none) } .nil .nil) .nil)))) (.node zo (.node zo (.node { cls := .none, data := .func (zf "based_number" "based_number" 3 0 .none .none) } (.node (zc "Reader" 363 "Reader" #[.int 111 0, .int 0 0, .int 0 0, .int 0 0, .int 0 0, .ref 140, .bool false, .int 181 0, .ref 141, .none, .none, .none, .none, .int 366 0, .int 111 0] 367) (.node { cls := .type "function", data := .func (zg "size_unit" "size_unit" 28 3 .none .none (zv "siftwall.readrule" 523) (.ref 269)) } .nil .nil) ztl) (.node (zc "skip_rows" 440 "Reader.skip_rows" #[.int 148 0, .int 1 0, .int 0 0, .int 0 0, .int 3 0, .ref 201, .bool true, .int 181 0, .ref 202, .none, .ref 203, .ref 204, .ref 205, .int 444 0, .int 148 0] 445) (.node { cls := .type "function", data := .func (zg "cut_word" "cut_word" 37 3 .none .none (zv "siftwall.readrule" 523) (.ref 333)) } .nil .nil) zol)) (.node zo (.node zo (.node { cls := .type "tuple", data := .seq #[zv "reader" 575, zv "packets" 576] } .nil .nil) (.node { cls := .none, data := .func (zf "print_size" "print_size" 49 0 .none .none) } .nil .nil)) (.node { cls := .type "tuple", data := .seq #[zv "reader" 492, zv "word" 493] } ztl .nil))) (.node zt (.node { cls := .type "function", data := .func (zg "is_word_sign" "is_word_sign" 5 3 .none .none (zv "siftwall.tokens" 292) (.ref 93)) } (.node { cls := .type "function", data := .func (zg "look" "Reader.look" 13 3 (.ref 151) .none (zv "siftwall.tokens" 292) (.ref 157)) } ztl (.node { cls := .type "tuple", data := .seq #[zv "text" 728] } .nil .nil)) (.node zt zol ztl)) (.node zt (.node zt (.node { cls := .none, data := .func (zf "read_quota_body" "read_quota_body" 35 0 .none .none) } .nil .nil) (.node { cls := .type "function", data := .func (zg "print_quota" "print_quota" 51 3 .none .none (zv "siftwall.printrule" 723) (.ref 445)) } .nil .nil)) (.node { cls := .none, data := .func (zf "number_to" "number_to" 26 0 .none .none) } (.node (zc "read_log" 674 "read_log" #[.int 292 0, .int 1 0, .int 0 0, .int 0 0, .int 3 0, .ref 377, .bool true, .int 181 0, .ref 378, .none, .ref 379, .ref 380, .ref 381, .int 680 0, .int 292 0] 681) .nil .nil) .nil))))))))
noncomputable def sM57 (w : World) (os : OsState) : SharedT := ⟨tM57 w.params, 489, {}, #[], {}, 822, os⟩
noncomputable def posM57 : Pos := ⟨367, 0, 367, 8⟩
noncomputable def sts57 : List Stmt := ((behindTheImports pw).take 58).drop 43
theorem run57 (w : World) : (fun os => segRunT treeTable pw w 11 ann 1 640 (sM42 w os) (piecesOf sts57 envT cT posM42 [topFrame posA])) = fun os => some (.next, sM57 w os, cT, posM57) := by
  rw [PySem.W.Fast.te10110043849684766642, PySem.W.Fast.te14364793385576792824]
  kernel_rfl
noncomputable def tM72 (P : Params) : BT := (.node (boot_o_0 P) (.node (boot_o_1 P) (.node { cls := .type "dict", data := .dict #[ze P "__name__" 165 (zv "law_pq1093_01" 820), ze P "__doc__" 166 .none, ze P "__package__" 167 .none, ze P "__loader__" 168 (.builtin "__main__.__loader__#opaque"), ze P "__spec__" 169 .none, ze P "__annotations__" 170 (.ref 6), ze P "__builtins__" 171 (.ref 4), ze P "__file__" 173 (zv "/claim/cut.py" 172), ze P "__cached__" 174 .none, ze P "_wall" 193 (.ref 21), ze P "WallFault" 225 (.ref 38), ze P "Misused" 241 (.ref 51), ze P "BadText" 271 (.ref 71), ze P "based_number" 284 (.ref 80), ze P "number_word" 291 (.ref 87), ze P "is_word_sign" 300 (.ref 94), ze P "run_end" 308 (.ref 101), ze P "string_end" 319 (.ref 108), ze P "put_run" 330 (.ref 115), ze P "read_tokens" 344 (.ref 122), ze P "token_words" 351 (.ref 129), ze P "unexpected" 360 (.ref 136), ze P "Reader" 469 (.ref 217), ze P "expected" 477 (.ref 228), ze P "number_here" 486 (.ref 235), ze P "keyword" 496 (.ref 242), ze P "out_of_range" 505 (.ref 249), ze P "number_to" 515 (.ref 256), ze P "read_text" 522 (.ref 263), ze P "size_unit" 533 (.ref 270), ze P "sized" 542 (.ref 277), ze P "read_size" 555 (.ref 285), ze P "read_over" 563 (.ref 292), ze P "read_object" 571 (.ref 299), ze P "read_counter_body" 579 (.ref 306), ze P "read_counter" 588 (.ref 313), ze P "read_quota_body" 597 (.ref 320), ze P "read_quota" 607 (.ref 327), ze P "cut_word" 616 (.ref 334), ze P "is_stroke" 623 (.ref 341), ze P "read_unit" 631 (.ref 348), ze P "read_rate" 643 (.ref 355), ze P "read_limit_body" 655 (.ref 362), ze P "read_limit" 667 (.ref 369), ze P "meter_words" 673 (.ref 376), ze P "read_log" 682 (.ref 383), ze P "read_notrack" 689 (.ref 390), ze P "Tongue" 722 (.ref 407), ze P "quoted" 731 (.ref 418), ze P "print_units" 741 (.ref 425), ze P "print_size" 748 (.ref 432), ze P "print_counter" 756 (.ref 439), ze P "print_quota" 765 (.ref 446), ze P "print_limit" 779 (.ref 453), ze P "print_object" 787 (.ref 460), ze P "meter_printers" 793 (.ref 467), ze P "print_log" 802 (.ref 474), ze P "print_notrack" 810 (.ref 481), ze P "print_statement" 819 (.ref 488), ze P "_law_draw" 830 (.ref 495), ze P "_law_number" 840 (.ref 502), ze P "_law_octets" 849 (.ref 509), ze P "_law_sized" 855 (.ref 514), ze P "_law_quoted" 864 (.ref 521), ze P "_law_over" 872 (.ref 528), ze P "_law_counter" 883 (.ref 535), ze P "_law_quota" 894 (.ref 542), ze P "_law_limit" 909 (.ref 549), ze P "_law_object" 919 (.ref 556), ze P "_law_log" 930 (.ref 563), ze P "_law_statement" 939 (.ref 570), ze P "_law_read" 950 (.ref 577), ze P "_law_written" 956 (.ref 582), ze P "law" 974 (.ref 589)] 74 } (.node (boot_o_7 P) (.node zt (.node { cls := .type "tuple", data := .seq #[zv "self" 211, zv "why" 212] } (.node zo (.node { cls := .none, data := .func (zf "token_words" "token_words" 10 0 .none .none) } (.node (zc "number_to" 506 "number_to" #[.int 172 0, .int 2 0, .int 0 0, .int 0 0, .int 3 0, .ref 250, .bool true, .int 181 0, .ref 251, .none, .ref 252, .ref 253, .ref 254, .int 513 0, .int 172 0] 514) zol .nil) (.node { cls := .type "function", data := .func (zg "read_log" "read_log" 44 3 .none .none (zv "siftwall.readrule" 523) (.ref 382)) } .nil .nil)) (.node { cls := .none, data := .func (zf "want_sign" "Reader.want_sign" 18 0 .none .none) } (.node (zc "read_quota_body" 589 "read_quota_body" #[.int 221 0, .int 1 0, .int 0 0, .int 0 0, .int 3 0, .ref 314, .bool true, .int 181 0, .ref 315, .none, .ref 316, .ref 317, .ref 318, .int 595 0, .int 221 0] 596) (.node { cls := .none, data := .func (zf "_law_read" "_law_read" 70 0 .none .none) } .nil .nil) .nil) ztl)) (.node zt (.node zt (.node zo ztl .nil) ztl) (.node zo (.node { cls := .type "tuple", data := .seq #[zv "reader" 635, zv "head" 636, zv "tail" 637, zv "rate" 638, zv "size" 639, zv "unit" 640] } .nil .nil) (.node { cls := .none, data := .func (zf "print_notrack" "print_notrack" 56 0 .none .none) } .nil .nil)))) (.node (zc "Misused" 228 "Misused" #[.int 11 0, .int 0 0, .int 0 0, .int 0 0, .int 0 0, .ref 45, .bool false, .int 181 0, .ref 46, .none, .none, .none, .none, .int 231 0, .int 11 0] 232) (.node (zc "based_number" 274 "based_number" #[.int 20 0, .int 2 0, .int 0 0, .int 0 0, .int 3 0, .ref 74, .bool true, .int 181 0, .ref 75, .none, .ref 76, .ref 77, .ref 78, .int 282 0, .int 20 0] 283) (.node { cls := .type "frame", slots := #[some (.ref 142), some (.ref 3), some (.ref 139), none, some (zv "siftwall.tokens" 292), none, some (.ref 0)] } (.node zt (.node (zc "_law_over" 865 "_law_over" #[.int 392 0, .int 2 0, .int 0 0, .int 0 0, .int 3 0, .ref 522, .bool true, .int 181 0, .ref 523, .none, .ref 524, .ref 525, .ref 526, .int 870 0, .int 392 0] 871) .nil .nil) .nil) zol) (.node { cls := .type "function", data := .func (zg "skip_rows" "Reader.skip_rows" 20 3 .none .none (zv "siftwall.tokens" 292) (.ref 206)) } ztl ztl)) (.node { cls := .type "tuple", data := .seq #[zv "tokens" 323, zv "run" 324, zv "row" 325, zv "column" 326, zv "is_cut" 327] } (.node { cls := .type "tuple", data := .seq #[zv "self" 411, zv "text" 412, zv "token" 413] } (.node zt (.node { cls := .type "tuple", data := .seq #[zv "pen" 923, zv "level" 924, zv "prefix" 925, zv "told" 926, zv "parts" 927] } .nil .nil) .nil) (.node (zc "print_size" 742 "print_size" #[.int 327 0, .int 1 0, .int 0 0, .int 0 0, .int 3 0, .ref 426, .bool true, .int 181 0, .ref 427, .none, .ref 428, .ref 429, .ref 430, .int 746 0, .int 327 0] 747) .nil .nil)) (.node zt (.node { cls := .none, data := .func (zf "read_limit" "read_limit" 42 0 .none .none) } .nil .nil) (.node { cls := .type "function", data := .func (zg "_law_draw" "_law_draw" 58 3 .none .none (zv "law_pq1093_01" 820) (.ref 494)) } .nil .nil))))) (.node { cls := .type "builtin_function_or_method", data := .fields #[.builtin "type.__prepare__", .type "type"] } (.node { cls := .type "getset_descriptor", data := .fields #[zv "__weakref__" 219, .ref 38, .builtin "ExceptionGroup.__weakref__", .none] } (.node { cls := .type "type", data := .cls { name := Str.ofString "BadText", bases := [.ref 38], mro := [.ref 71, .ref 38, .type "Exception", .type "BaseException", .type "object"], ns := 70, qualname := Str.ofString "BadText" }, slots := #[some (.ref 54), none, some (zv "BadText" 242), some (zv "BadText" 250), some (.builtin "Exception.__new__"), some (.bool true)] } (.node (zc "unexpected" 352 "unexpected" #[.int 108 0, .int 2 0, .int 0 0, .int 0 0, .int 3 0, .ref 130, .bool true, .int 181 0, .ref 131, .none, .ref 132, .ref 133, .ref 134, .int 358 0, .int 108 0] 359) (.node { cls := .type "function", data := .func (zg "read_text" "read_text" 27 3 .none .none (zv "siftwall.readexpr" 487) (.ref 262)) } (.node { cls := .none, data := .func (zf "_law_quoted" "_law_quoted" 62 0 .none .none) } .nil .nil) .nil) ztl) (.node (zc "want_word" 433 "Reader.want_word" #[.int 145 0, .int 1 0, .int 0 0, .int 0 0, .int 3 0, .ref 194, .bool true, .int 181 0, .ref 195, .none, .ref 196, .ref 197, .ref 198, .int 437 0, .int 145 0] 438) (.node { cls := .type "function", data := .func (zg "read_quota" "read_quota" 36 3 .none .none (zv "siftwall.readrule" 523) (.ref 326)) } ztl .nil) zol)) (.node zo (.node zo (.node { cls := .type "tuple", data := .seq #[zv "reader" 567, zv "kind" 568] } zol .nil) (.node { cls := .none, data := .func (zf "print_units" "print_units" 48 0 .none .none) } .nil .nil)) (.node { cls := .type "tuple", data := .seq #[zv "reader" 481, zv "token" 482, zv "number" 483] } ztl (.node (zc "print_statement" 811 "print_statement" #[.int 363 0, .int 3 0, .int 0 0, .int 0 0, .int 3 0, .ref 482, .bool true, .int 181 0, .ref 483, .none, .ref 484, .ref 485, .ref 486, .int 817 0, .int 363 0] 818) .nil .nil)))) (.node { cls := .type "builtin_function_or_method", data := .fields #[.builtin "type.__prepare__", .type "type"] } (.node { cls := .type "function", data := .func (zg "number_word" "number_word" 4 3 .none .none (zv "siftwall.types" 272) (.ref 86)) } (.node { cls := .type "tuple", data := .seq #[.int 0 382] } (.node zt (.node { cls := .type "function", data := .func (zg "_law_counter" "_law_counter" 64 3 .none .none (zv "law_pq1093_01" 820) (.ref 534)) } .nil .nil) .nil) (.node { cls := .type "type", data := .cls { name := Str.ofString "Tongue", bases := [.type "object"], mro := [.ref 407, .type "object"], ns := 406, qualname := Str.ofString "Tongue" }, slots := #[none, none, some (zv "Tongue" 692), some (zv "Tongue" 700), some (.builtin "object.__new__"), some (.bool true)] } .nil .nil)) (.node { cls := .type "tuple", data := .seq #[zv "at" 456, zv "family" 457, zv "known" 458, zv "table" 459, zv "tokens" 460, zv "tongue" 461] } zol ztl)) (.node zt (.node zt (.node { cls := .none, data := .func (zf "read_counter" "read_counter" 34 0 .none .none) } ztl .nil) (.node { cls := .type "function", data := .func (zg "print_counter" "print_counter" 50 3 .none .none (zv "siftwall.printrule" 723) (.ref 438)) } .nil .nil)) (.node { cls := .none, data := .func (zf "out_of_range" "out_of_range" 25 0 .none .none) } (.node (zc "meter_words" 668 "meter_words" #[.int 290 0, .int 0 0, .int 0 0, .int 0 0, .int 3 0, .ref 370, .bool true, .int 181 0, .ref 371, .none, .ref 372, .ref 373, .ref 374, .int 671 0, .int 290 0] 672) .nil .nil) ztl))))) (.node zt (.node { cls := .none, data := .func (zf "_wall" "_wall" 0 0 .none .none) } (.node { cls := .type "function", data := .func (zg "__init__" "WallFault.__init__" 1 3 .none .none (zv "siftwall.faults" 194) (.ref 34)) } (.node (zc "__init__" 256 "BadText.__init__" #[.int 15 0, .int 4 0, .int 0 0, .int 0 0, .int 3 0, .ref 62, .bool true, .int 181 0, .ref 63, .none, .ref 64, .ref 65, .ref 66, .int 263 0, .int 15 0] 264) (.node zo (.node { cls := .type "tuple", data := .seq #[zv "reader" 519] } ztl .nil) ztl) (.node zo (.node { cls := .type "tuple", data := .seq #[zv "reader" 601, zv "is_over" 602, zv "octets" 603, zv "used" 604] } zol .nil) (.node { cls := .none, data := .func (zf "print_limit" "print_limit" 52 0 .none .none) } .nil .nil))) (.node { cls := .none, data := .func (zf "run_end" "run_end" 6 0 .none .none) } (.node { cls := .none, data := .func (zf "take" "Reader.take" 14 0 .none .none) } (.node (zc "read_over" 556 "read_over" #[.int 200 0, .int 1 0, .int 0 0, .int 0 0, .int 3 0, .ref 286, .bool true, .int 181 0, .ref 287, .none, .ref 288, .ref 289, .ref 290, .int 561 0, .int 200 0] 562) (.node { cls := .none, data := .func (zf "_law_limit" "_law_limit" 66 0 .none .none) } .nil .nil) .nil) ztl) (.node (zc "expected" 470 "expected" #[.int 154 0, .int 2 0, .int 0 0, .int 0 0, .int 3 0, .ref 222, .bool true, .int 181 0, .ref 223, .none, .ref 224, .ref 225, .ref 226, .int 475 0, .int 154 0] 476) (.node { cls := .type "function", data := .func (zg "read_rate" "read_rate" 40 3 .none .none (zv "siftwall.readrule" 523) (.ref 354)) } .nil .nil) zol))) (.node { cls := .type "type", data := .cls { name := Str.ofString "Misused", bases := [.ref 38], mro := [.ref 51, .ref 38, .type "Exception", .type "BaseException", .type "object"], ns := 50, qualname := Str.ofString "Misused" }, slots := #[some (.ref 42), none, some (zv "Misused" 226), some (zv "Misused" 234), some (.builtin "Exception.__new__"), some (.bool true)] } (.node { cls := .type "tuple", data := .seq #[zv "word" 288] } (.node zt (.node { cls := .none, data := .func (zf "sized" "sized" 29 0 .none .none) } (.node { cls := .type "tuple", data := .seq #[zv "pen" 876, zv "packets" 877, zv "octets" 878, zv "is_short" 879, zv "told" 880] } .nil .nil) .nil) (.node (zc "__init__" 704 "Tongue.__init__" #[.int 312 0, .int 3 0, .int 0 0, .int 0 0, .int 3 0, .ref 398, .bool true, .int 181 0, .ref 399, .none, .ref 400, .ref 401, .ref 402, .int 710 0, .int 312 0] 711) .nil .nil)) (.node zt (.node { cls := .none, data := .func (zf "is_stroke" "is_stroke" 38 0 .none .none) } .nil .nil) (.node { cls := .type "function", data := .func (zg "meter_printers" "meter_printers" 54 3 .none .none (zv "siftwall.printrule" 723) (.ref 466)) } .nil .nil))) (.node { cls := .type "function", data := .func (zg "put_run" "put_run" 8 3 .none .none (zv "siftwall.tokens" 292) (.ref 114)) } (.node { cls := .type "function", data := .func (zg "is_word" "Reader.is_word" 16 3 .none .none (zv "siftwall.tokens" 292) (.ref 178)) } (.node zt (.node { cls := .type "function", data := .func (zg "_law_log" "_law_log" 68 3 .none .none (zv "law_pq1093_01" 820) (.ref 562)) } .nil .nil) .nil) (.node { cls := .type "tuple", data := .seq #[zv "tongue" 752, zv "statement" 753] } .nil .nil)) (.node zt zol ztl)))) (.node (zc "WallFault" 198 "WallFault" #[.int 5 0, .int 0 0, .int 0 0, .int 0 0, .int 0 0, .ref 25, .bool false, .int 181 0, .ref 26, .none, .none, .none, .none, .int 201 0, .int 5 0] 202) (.node { cls := .type "builtin_function_or_method", data := .fields #[.builtin "type.__prepare__", .type "type"] } (.node zo (.node { cls := .type "dict", data := .dict #[ze P "__module__" 368 (zv "siftwall.tokens" 292), ze P "__qualname__" 370 (zv "Reader" 369), ze P "__firstlineno__" 372 (.int 111 371), ze P "__init__" 381 (.ref 150), ze P "look" 391 (.ref 158), ze P "take" 399 (.ref 165), ze P "is_sign" 407 (.ref 172), ze P "is_word" 416 (.ref 179), ze P "skip_sign" 424 (.ref 186), ze P "want_sign" 432 (.ref 193), ze P "want_word" 439 (.ref 200), ze P "skip_rows" 446 (.ref 207), ze P "fault" 455 (.ref 214), ze P "__static_attributes__" 462 (.ref 215)] 14 } (.node zt zol .nil) (.node { cls := .none, data := .fields #[.int 312 0, .int 4 0, .ref 403] } .nil .nil)) (.node { cls := .type "tuple", data := .seq #[zv "self" 443] } (.node zt (.node { cls := .none, data := .func (zf "law" "law" 72 0 .none .none) } .nil .nil) .nil) (.node (zc "print_object" 780 "print_object" #[.int 350 0, .int 2 0, .int 0 0, .int 0 0, .int 3 0, .ref 454, .bool true, .int 181 0, .ref 455, .none, .ref 456, .ref 457, .ref 458, .int 785 0, .int 350 0] 786) .nil .nil))) (.node (zc "string_end" 309 "string_end" #[.int 41 0, .int 4 0, .int 0 0, .int 0 0, .int 3 0, .ref 102, .bool true, .int 181 0, .ref 103, .none, .ref 104, .ref 105, .ref 106, .int 317 0, .int 41 0] 318) (.node (zc "is_sign" 400 "Reader.is_sign" #[.int 132 0, .int 2 0, .int 0 0, .int 0 0, .int 3 0, .ref 166, .bool true, .int 181 0, .ref 167, .none, .ref 168, .ref 169, .ref 170, .int 405 0, .int 132 0] 406) (.node { cls := .type "function", data := .func (zg "read_object" "read_object" 32 3 .none .none (zv "siftwall.readrule" 523) (.ref 298)) } (.node (zc "_law_object" 910 "_law_object" #[.int 419 0, .int 1 0, .int 0 0, .int 0 0, .int 3 0, .ref 550, .bool true, .int 181 0, .ref 551, .none, .ref 552, .ref 553, .ref 554, .int 917 0, .int 419 0] 918) .nil .nil) .nil) zol) (.node { cls := .type "function", data := .func (zg "number_here" "number_here" 23 3 .none .none (zv "siftwall.tokens" 292) (.ref 234)) } ztl (.node { cls := .type "tuple", data := .seq #[zv "pen" 825, zv "many" 826, zv "drawn" 827] } .nil .nil)))) (.node (zc "BadText" 244 "BadText" #[.int 13 0, .int 0 0, .int 0 0, .int 0 0, .int 0 0, .ref 57, .bool false, .int 181 0, .ref 58, .none, .none, .none, .none, .int 247 0, .int 13 0] 248) (.node zt (.node zt (.node { cls := .none, data := .func (zf "read_size" "read_size" 30 0 .none .none) } ztl .nil) (.node { cls := .type "builtin_function_or_method", data := .fields #[.builtin "object.__init_subclass__", .ref 407] } .nil .nil)) (.node { cls := .type "getset_descriptor", data := .fields #[zv "__weakref__" 465, .ref 217, .builtin "ExceptionGroup.__weakref__", .none] } (.node (zc "read_unit" 624 "read_unit" #[.int 244 0, .int 2 0, .int 0 0, .int 0 0, .int 3 0, .ref 342, .bool true, .int 181 0, .ref 343, .none, .ref 344, .ref 345, .ref 346, .int 629 0, .int 244 0] 630) .nil .nil) ztl)) (.node zt (.node zt (.node zo ztl .nil) ztl) (.node zo (.node { cls := .type "tuple", data := .seq #[zv "reader" 677, zv "told" 678, zv "word" 679] } .nil .nil) (.node { cls := .none, data := .func (zf "_law_octets" "_law_octets" 60 0 .none .none) } .nil .nil))))))) (.node (boot_o_5 P) (.node (boot_o_9 P) (.node { cls := .type "tuple", data := .seq #[zv "k" 190] } (.node { cls := .none, data := .func (zf "__init__" "WallFault.__init__" 1 0 .none .none) } (.node zt (.node { cls := .type "function", data := .func (zg "token_words" "token_words" 10 3 .none .none (zv "siftwall.tokens" 292) (.ref 128)) } (.node zt (.node (zc "_law_sized" 850 "_law_sized" #[.int 384 0, .int 3 0, .int 0 0, .int 0 0, .int 3 0, .ref 510, .bool true, .int 181 0, .ref 511, .none, .none, .none, .ref 512, .int 853 0, .int 384 0] 854) .nil .nil) .nil) zol) (.node { cls := .type "function", data := .func (zg "want_sign" "Reader.want_sign" 18 3 .none .none (zv "siftwall.tokens" 292) (.ref 192)) } (.node zt (.node { cls := .type "function", data := .func (zg "_law_read" "_law_read" 70 3 .none .none (zv "law_pq1093_01" 820) (.ref 576)) } .nil .nil) .nil) (.node { cls := .type "tuple", data := .seq #[zv "tongue" 769, zv "statement" 770, zv "is_over" 771, zv "rate" 772, zv "unit" 773, zv "burst" 774, zv "is_octets" 775, zv "text" 776] } .nil .nil))) (.node { cls := .type "tuple", data := .seq #[zv "text" 304, zv "at" 305] } (.node { cls := .type "tuple", data := .seq #[zv "self" 395, zv "token" 396] } (.node zt (.node { cls := .type "tuple", data := .seq #[zv "pen" 898, zv "is_octets" 899, zv "is_over" 900, zv "rate" 901, zv "unit" 902, zv "burst" 903, zv "words" 904, zv "is_left_out" 905, zv "size" 906] } .nil .nil) .nil) (.node (zc "quoted" 725 "quoted" #[.int 316 0, .int 1 0, .int 0 0, .int 0 0, .int 3 0, .ref 412, .bool true, .int 181 0, .ref 413, .none, .ref 414, .ref 415, .ref 416, .int 729 0, .int 316 0] 730) .nil .nil)) (.node zt (.node { cls := .none, data := .func (zf "read_rate" "read_rate" 40 0 .none .none) } .nil .nil) (.node { cls := .type "function", data := .func (zg "print_notrack" "print_notrack" 56 3 .none .none (zv "siftwall.printrule" 723) (.ref 480)) } .nil .nil)))) (.node zt (.node zt (.node zo (.node { cls := .type "tuple", data := .seq #[zv "reader" 537, zv "n" 538, zv "unit" 539] } ztl .nil) ztl) (.node zo (.node { cls := .type "tuple", data := .seq #[zv "token" 620] } .nil .nil) (.node { cls := .none, data := .func (zf "meter_printers" "meter_printers" 54 0 .none .none) } .nil .nil))) (.node { cls := .none, data := .func (zf "put_run" "put_run" 8 0 .none .none) } (.node { cls := .none, data := .func (zf "is_word" "Reader.is_word" 16 0 .none .none) } (.node (zc "read_counter_body" 572 "read_counter_body" #[.int 208 0, .int 1 0, .int 0 0, .int 0 0, .int 3 0, .ref 300, .bool true, .int 181 0, .ref 301, .none, .ref 302, .ref 303, .ref 304, .int 577 0, .int 208 0] 578) (.node { cls := .none, data := .func (zf "_law_log" "_law_log" 68 0 .none .none) } .nil .nil) .nil) ztl) (.node (zc "keyword" 489 "keyword" #[.int 166 0, .int 2 0, .int 0 0, .int 0 0, .int 3 0, .ref 236, .bool true, .int 181 0, .ref 237, .none, .ref 238, .ref 239, .ref 240, .int 494 0, .int 166 0] 495) (.node { cls := .type "function", data := .func (zg "read_limit" "read_limit" 42 3 .none .none (zv "siftwall.readrule" 523) (.ref 368)) } .nil .nil) zol)))) (.node zt (.node { cls := .type "builtin_function_or_method", data := .fields #[.builtin "object.__init_subclass__", .ref 38] } (.node { cls := .type "builtin_function_or_method", data := .fields #[.builtin "object.__init_subclass__", .ref 71] } (.node zt (.node zo (.node { cls := .type "function", data := .func (zg "_law_quoted" "_law_quoted" 62 3 .none .none (zv "law_pq1093_01" 820) (.ref 520)) } .nil .nil) .nil) (.node { cls := .type "dict", data := .dict #[ze P "__module__" 699 (zv "siftwall.fields" 690), ze P "__qualname__" 701 (zv "Tongue" 700), ze P "__firstlineno__" 703 (.int 310 702), ze P "__init__" 712 (.ref 404), ze P "__static_attributes__" 715 (.ref 405)] 5 } .nil .nil)) (.node zt (.node zo (.node { cls := .type "tuple", data := .seq #[zv "script" 960, zv "gaps" 961, zv "told" 962, zv "statements" 963, zv "text" 964, zv "k" 965, zv "cell" 966, zv "statement" 967, zv "words" 968, zv "word" 969, zv "got" 970, zv "written" 971] } .nil .nil) .nil) ztl)) (.node zt (.node zt (.node { cls := .none, data := .func (zf "read_object" "read_object" 32 0 .none .none) } ztl .nil) (.node { cls := .type "function", data := .func (zg "print_units" "print_units" 48 3 .none .none (zv "siftwall.printrule" 723) (.ref 424)) } .nil .nil)) (.node { cls := .none, data := .func (zf "number_here" "number_here" 23 0 .none .none) } (.node (zc "read_limit_body" 644 "read_limit_body" #[.int 272 0, .int 1 0, .int 0 0, .int 0 0, .int 3 0, .ref 356, .bool true, .int 181 0, .ref 357, .none, .ref 358, .ref 359, .ref 360, .int 653 0, .int 272 0] 654) .nil .nil) ztl))) (.node zt (.node zo (.node zo (.node { cls := .type "tuple", data := .seq #[zv "reader" 547, zv "many" 548, zv "n" 549, zv "token" 550, zv "unit" 551, zv "octets" 552] } zol .nil) (.node { cls := .type "getset_descriptor", data := .fields #[zv "__weakref__" 718, .ref 407, .builtin "ExceptionGroup.__weakref__", .none] } .nil .nil)) (.node { cls := .type "type", data := .cls { name := Str.ofString "Reader", bases := [.type "object"], mro := [.ref 217, .type "object"], ns := 216, qualname := Str.ofString "Reader" }, slots := #[none, none, some (zv "Reader" 361), some (zv "Reader" 369), some (.builtin "object.__new__"), some (.bool true)] } ztl (.node (zc "print_log" 794 "print_log" #[.int 354 0, .int 2 0, .int 0 0, .int 0 0, .int 3 0, .ref 468, .bool true, .int 181 0, .ref 469, .none, .ref 470, .ref 471, .ref 472, .int 800 0, .int 354 0] 801) .nil .nil))) (.node (zc "read_tokens" 331 "read_tokens" #[.int 62 0, .int 1 0, .int 0 0, .int 0 0, .int 3 0, .ref 116, .bool true, .int 181 0, .ref 117, .none, .ref 118, .ref 119, .ref 120, .int 342 0, .int 62 0] 343) (.node (zc "skip_sign" 417 "Reader.skip_sign" #[.int 139 0, .int 2 0, .int 0 0, .int 0 0, .int 3 0, .ref 180, .bool true, .int 181 0, .ref 181, .none, .ref 182, .ref 183, .ref 184, .int 422 0, .int 139 0] 423) (.node { cls := .type "function", data := .func (zg "read_counter" "read_counter" 34 3 .none .none (zv "siftwall.readrule" 523) (.ref 312)) } (.node (zc "_law_statement" 931 "_law_statement" #[.int 434 0, .int 1 0, .int 0 0, .int 0 0, .int 3 0, .ref 564, .bool true, .int 181 0, .ref 565, .none, .ref 566, .ref 567, .ref 568, .int 937 0, .int 434 0] 938) .nil .nil) .nil) zol) (.node { cls := .type "function", data := .func (zg "out_of_range" "out_of_range" 25 3 .none .none (zv "siftwall.readexpr" 487) (.ref 248)) } ztl (.node { cls := .type "tuple", data := .seq #[zv "pen" 844, zv "some" 845, zv "place" 846] } .nil .nil)))))) (.node (zc "<module>" 182 "<module>" #[.int 1 0, .int 0 0, .int 0 0, .int 0 0, .int 0 0, .ref 11, .bool false, .int 181 0, .ref 12, .none, .none, .none, .none, .int 185 0, .int 1 0] 186) (.node { cls := .type "function", data := .func (zg "_wall" "_wall" 0 3 .none .none (zv "__main__" 164) (.ref 20)) } (.node { cls := .type "dict", data := .dict #[ze P "__module__" 203 (zv "siftwall.faults" 194), ze P "__firstlineno__" 207 (.int 5 206), ze P "__init__" 215 (.ref 35), ze P "__static_attributes__" 218 (.ref 36), ze P "__weakref__" 220 (.ref 39), ze P "__doc__" 221 .none] 3 } (.node { cls := .type "tuple", data := .seq #[zv "column" 266, zv "row" 267] } (.node zt (.node { cls := .none, data := .func (zf "read_text" "read_text" 27 0 .none .none) } (.node { cls := .type "tuple", data := .seq #[zv "pen" 859, zv "text" 860, zv "is_word" 861] } .nil .nil) .nil) (.node (zc "read_notrack" 683 "read_notrack" #[.int 306 0, .int 1 0, .int 0 0, .int 0 0, .int 3 0, .ref 384, .bool true, .int 181 0, .ref 385, .none, .ref 386, .ref 387, .ref 388, .int 687 0, .int 306 0] 688) .nil .nil)) (.node zt (.node { cls := .none, data := .func (zf "read_quota" "read_quota" 36 0 .none .none) } (.node (zc "_law_written" 951 "_law_written" #[.int 452 0, .int 1 0, .int 0 0, .int 0 0, .int 3 0, .ref 578, .bool true, .int 181 0, .ref 579, .none, .none, .none, .ref 580, .int 954 0, .int 452 0] 955) .nil .nil) .nil) (.node { cls := .type "function", data := .func (zg "print_limit" "print_limit" 52 3 .none .none (zv "siftwall.printrule" 723) (.ref 452)) } .nil .nil))) (.node { cls := .type "function", data := .func (zg "run_end" "run_end" 6 3 .none .none (zv "siftwall.tokens" 292) (.ref 100)) } (.node { cls := .type "function", data := .func (zg "take" "Reader.take" 14 3 .none .none (zv "siftwall.tokens" 292) (.ref 164)) } (.node zt (.node { cls := .type "function", data := .func (zg "_law_limit" "_law_limit" 66 3 .none .none (zv "law_pq1093_01" 820) (.ref 548)) } .nil .nil) .nil) (.node { cls := .type "tuple", data := .seq #[zv "octets" 735, zv "many" 736, zv "units" 737, zv "rank" 738] } .nil .nil)) (.node zt zol ztl))) (.node { cls := .type "builtin_function_or_method", data := .fields #[.builtin "object.__init_subclass__", .ref 51] } (.node { cls := .none, data := .func (zf "number_word" "number_word" 4 0 .none .none) } (.node (zc "__init__" 373 "Reader.__init__" #[.int 113 0, .int 3 0, .int 0 0, .int 0 0, .int 3 0, .ref 144, .bool true, .int 181 0, .ref 145, .none, .ref 146, .ref 147, .ref 148, .int 379 0, .int 113 0] 380) (.node { cls := .type "function", data := .func (zg "sized" "sized" 29 3 .none .none (zv "siftwall.readrule" 523) (.ref 276)) } (.node { cls := .none, data := .func (zf "_law_counter" "_law_counter" 64 0 .none .none) } .nil .nil) .nil) (.node { cls := .type "tuple", data := .seq #[zv "fields" 713, zv "types" 714] } .nil .nil)) (.node (zc "fault" 447 "Reader.fault" #[.int 151 0, .int 2 0, .int 0 0, .int 0 0, .int 3 0, .ref 208, .bool true, .int 181 0, .ref 209, .none, .ref 210, .ref 211, .ref 212, .int 453 0, .int 151 0] 454) (.node { cls := .type "function", data := .func (zg "is_stroke" "is_stroke" 38 3 .none .none (zv "siftwall.readrule" 523) (.ref 340)) } .nil .nil) zol)) (.node zo (.node zo (.node { cls := .type "tuple", data := .seq #[zv "reader" 583, zv "packets" 584, zv "octets" 585] } zol .nil) (.node { cls := .none, data := .func (zf "print_counter" "print_counter" 50 0 .none .none) } .nil .nil)) (.node { cls := .type "tuple", data := .seq #[zv "reader" 500, zv "text" 501, zv "top" 502] } ztl (.node (zc "_law_number" 831 "_law_number" #[.int 372 0, .int 2 0, .int 0 0, .int 0 0, .int 3 0, .ref 496, .bool true, .int 181 0, .ref 497, .none, .ref 498, .ref 499, .ref 500, .int 838 0, .int 372 0] 839) .nil .nil))))) (.node zt (.node zt (.node zt (.node { cls := .none, data := .fields #[.int 113 0, .int 4 0, .ref 149, .int 121 0, .int 4 0, .ref 157, .int 127 0, .int 4 0, .ref 164, .int 132 0, .int 4 0, .ref 171, .int 135 0, .int 4 0, .ref 178, .int 139 0, .int 4 0, .ref 185, .int 142 0, .int 4 0, .ref 192, .int 145 0, .int 4 0, .ref 199, .int 148 0, .int 4 0, .ref 206, .int 151 0, .int 4 0, .ref 213] } (.node (zc "size_unit" 525 "size_unit" #[.int 184 0, .int 2 0, .int 0 0, .int 0 0, .int 3 0, .ref 264, .bool true, .int 181 0, .ref 265, .none, .ref 266, .ref 267, .ref 268, .int 531 0, .int 184 0] 532) ztl .nil) (.node { cls := .type "frame", slots := #[some (.ref 396), some (.ref 3), some (.ref 393), none, some (zv "siftwall.fields" 690), none, some (.ref 0)] } .nil .nil)) (.node { cls := .none, data := .func (zf "skip_rows" "Reader.skip_rows" 20 0 .none .none) } (.node (zc "cut_word" 608 "cut_word" #[.int 234 0, .int 1 0, .int 0 0, .int 0 0, .int 3 0, .ref 328, .bool true, .int 181 0, .ref 329, .none, .ref 330, .ref 331, .ref 332, .int 614 0, .int 234 0] 615) (.node { cls := .type "function", data := .func (zg "law" "law" 72 3 .none .none (zv "law_pq1093_01" 820) (.ref 588)) } .nil .nil) .nil) ztl)) (.node zt (.node zt (.node zo ztl .nil) ztl) (.node zo (.node { cls := .type "tuple", data := .seq #[zv "reader" 659, zv "is_over" 660, zv "rate" 661, zv "unit" 662, zv "burst" 663, zv "is_octets" 664] } .nil .nil) (.node { cls := .none, data := .func (zf "_law_draw" "_law_draw" 58 0 .none .none) } .nil .nil)))) (.node { cls := .type "tuple", data := .seq #[.int 0 254, .int 0 255] } (.node (zc "is_word_sign" 294 "is_word_sign" #[.int 35 0, .int 1 0, .int 0 0, .int 0 0, .int 3 0, .ref 88, .bool true, .int 181 0, .ref 89, .none, .ref 90, .ref 91, .ref 92, .int 298 0, .int 35 0] 299) (.node (zc "look" 383 "Reader.look" #[.int 121 0, .int 2 0, .int 0 0, .int 0 0, .int 3 0, .ref 152, .bool true, .int 181 0, .ref 153, .none, .ref 154, .ref 155, .ref 156, .int 389 0, .int 121 0] 390) (.node { cls := .type "function", data := .func (zg "read_size" "read_size" 30 3 (.ref 278) .none (zv "siftwall.readrule" 523) (.ref 284)) } (.node (zc "_law_quota" 884 "_law_quota" #[.int 399 0, .int 1 0, .int 0 0, .int 0 0, .int 3 0, .ref 536, .bool true, .int 181 0, .ref 537, .none, .ref 538, .ref 539, .ref 540, .int 892 0, .int 399 0] 893) .nil .nil) .nil) zol) (.node { cls := .type "builtin_function_or_method", data := .fields #[.builtin "object.__init_subclass__", .ref 217] } ztl (.node { cls := .type "tuple", data := .seq #[zv "tongue" 806, zv "statement" 807] } .nil .nil))) (.node { cls := .type "tuple", data := .seq #[zv "token" 348] } (.node { cls := .type "tuple", data := .seq #[zv "self" 428, zv "text" 429] } (.node zt (.node { cls := .type "tuple", data := .seq #[zv "text" 943, zv "reader" 944, zv "words" 945, zv "got" 946, zv "word" 947] } .nil .nil) .nil) (.node (zc "print_quota" 757 "print_quota" #[.int 331 0, .int 2 0, .int 0 0, .int 0 0, .int 3 0, .ref 440, .bool true, .int 181 0, .ref 441, .none, .ref 442, .ref 443, .ref 444, .int 763 0, .int 331 0] 764) .nil .nil)) (.node zt (.node { cls := .none, data := .func (zf "read_log" "read_log" 44 0 .none .none) } .nil .nil) (.node { cls := .type "function", data := .func (zg "_law_octets" "_law_octets" 60 3 .none .none (zv "law_pq1093_01" 820) (.ref 508)) } .nil .nil)))))))) (.node { cls := .none, data := .dict #[ze P "type.__subclasses__.Exception.0" 222 (.int 38 0), ze P "type.__subclasses__.Exception.n" 223 (.int 1 0)] 2 } (.node (boot_o_4 P) (.node (boot_o_8 P) (.node zo (.node zt (.node { cls := .type "tuple", data := .seq #[zv "self" 259, zv "why" 260, zv "row" 261, zv "column" 262] } (.node (zc "token_words" 345 "token_words" #[.int 100 0, .int 1 0, .int 0 0, .int 0 0, .int 3 0, .ref 123, .bool true, .int 181 0, .ref 124, .none, .ref 125, .ref 126, .ref 127, .int 349 0, .int 100 0] 350) (.node { cls := .type "function", data := .func (zg "number_to" "number_to" 26 3 .none .none (zv "siftwall.readexpr" 487) (.ref 255)) } (.node { cls := .none, data := .func (zf "_law_sized" "_law_sized" 61 0 .none .none) } .nil .nil) .nil) ztl) (.node (zc "want_sign" 425 "Reader.want_sign" #[.int 142 0, .int 2 0, .int 0 0, .int 0 0, .int 3 0, .ref 187, .bool true, .int 181 0, .ref 188, .none, .ref 189, .ref 190, .ref 191, .int 430 0, .int 142 0] 431) (.node { cls := .type "function", data := .func (zg "read_quota_body" "read_quota_body" 35 3 .none .none (zv "siftwall.readrule" 523) (.ref 319)) } (.node (zc "_law_read" 940 "_law_read" #[.int 442 0, .int 1 0, .int 0 0, .int 0 0, .int 3 0, .ref 571, .bool true, .int 181 0, .ref 572, .none, .ref 573, .ref 574, .ref 575, .int 948 0, .int 442 0] 949) .nil .nil) .nil) zol)) (.node zo (.node zo (.node { cls := .type "tuple", data := .seq #[zv "reader" 559, zv "is_over" 560] } zol .nil) (.node { cls := .none, data := .func (zf "quoted" "quoted" 47 0 .none .none) } .nil .nil)) (.node { cls := .type "tuple", data := .seq #[zv "reader" 473, zv "what" 474] } ztl (.node (zc "print_notrack" 803 "print_notrack" #[.int 361 0, .int 2 0, .int 0 0, .int 0 0, .int 3 0, .ref 475, .bool true, .int 181 0, .ref 476, .none, .ref 477, .ref 478, .ref 479, .int 808 0, .int 361 0] 809) .nil .nil)))) (.node { cls := .type "frame", slots := #[some (.ref 47), some (.ref 3), some (.ref 44), none, some (zv "siftwall.faults" 194), none, some (.ref 0)] } (.node { cls := .type "function", data := .func (zg "based_number" "based_number" 3 3 .none .none (zv "siftwall.types" 272) (.ref 79)) } (.node zt (.node zo (.node { cls := .type "function", data := .func (zg "_law_over" "_law_over" 63 3 .none .none (zv "law_pq1093_01" 820) (.ref 527)) } .nil .nil) .nil) (.node { cls := .type "tuple", data := .seq #[zv "self" 707, zv "fields" 708, zv "types" 709] } .nil .nil)) (.node zt zol ztl)) (.node zt (.node zt (.node { cls := .none, data := .func (zf "read_counter_body" "read_counter_body" 33 0 .none .none) } ztl .nil) (.node { cls := .type "function", data := .func (zg "print_size" "print_size" 49 3 .none .none (zv "siftwall.printrule" 723) (.ref 431)) } .nil .nil)) (.node { cls := .none, data := .func (zf "keyword" "keyword" 24 0 .none .none) } (.node (zc "read_limit" 656 "read_limit" #[.int 284 0, .int 1 0, .int 0 0, .int 0 0, .int 3 0, .ref 363, .bool true, .int 181 0, .ref 364, .none, .ref 365, .ref 366, .ref 367, .int 665 0, .int 284 0] 666) .nil .nil) ztl)))) (.node { cls := .type "dict", data := .dict #[ze P "__module__" 203 (zv "siftwall.faults" 194), ze P "__qualname__" 205 (zv "WallFault" 204), ze P "__firstlineno__" 207 (.int 5 206), ze P "__init__" 215 (.ref 35), ze P "__static_attributes__" 218 (.ref 36)] 5 } (.node { cls := .type "super", data := .fields #[.ref 38, .ref 38, .ref 38] } (.node { cls := .type "super", data := .fields #[.ref 71, .ref 71, .ref 71] } (.node { cls := .type "function", data := .func (zg "unexpected" "unexpected" 11 3 .none .none (zv "siftwall.tokens" 292) (.ref 135)) } (.node zt (.node (zc "_law_quoted" 856 "_law_quoted" #[.int 388 0, .int 1 0, .int 0 0, .int 0 0, .int 3 0, .ref 515, .bool true, .int 181 0, .ref 516, .none, .ref 517, .ref 518, .ref 519, .int 862 0, .int 388 0] 863) .nil .nil) .nil) (.node { cls := .type "builtin_function_or_method", data := .fields #[.builtin "type.__prepare__", .type "type"] } .nil .nil)) (.node { cls := .type "function", data := .func (zg "want_word" "Reader.want_word" 19 3 .none .none (zv "siftwall.tokens" 292) (.ref 199)) } (.node zt zol .nil) (.node { cls := .type "tuple", data := .seq #[zv "tongue" 783, zv "statement" 784] } .nil .nil))) (.node { cls := .type "tuple", data := .seq #[zv "text" 312, zv "at" 313, zv "row" 314, zv "column" 315, zv "behind" 316] } (.node { cls := .type "tuple", data := .seq #[zv "self" 403, zv "text" 404] } (.node zt (.node { cls := .type "tuple", data := .seq #[zv "pen" 913, zv "kind" 914, zv "name" 915, zv "told" 916] } .nil .nil) .nil) (.node (zc "print_units" 732 "print_units" #[.int 320 0, .int 2 0, .int 0 0, .int 0 0, .int 3 0, .ref 419, .bool true, .int 181 0, .ref 420, .none, .ref 421, .ref 422, .ref 423, .int 739 0, .int 320 0] 740) .nil .nil)) (.node zt (.node { cls := .none, data := .func (zf "read_limit_body" "read_limit_body" 41 0 .none .none) } .nil .nil) (.node { cls := .type "function", data := .func (zg "print_statement" "print_statement" 57 3 .none .none (zv "siftwall.printrule" 723) (.ref 487)) } .nil .nil)))) (.node { cls := .type "dict", data := .dict #[ze P "__module__" 249 (zv "siftwall.faults" 194), ze P "__qualname__" 251 (zv "BadText" 250), ze P "__firstlineno__" 253 (.int 13 252), ze P "__init__" 265 (.ref 68), ze P "__static_attributes__" 268 (.ref 69)] 5 } (.node zt (.node zt (.node zo ztl .nil) (.node { cls := .type "getset_descriptor", data := .fields #[zv "__dict__" 716, .ref 407, .builtin "function.__dict__", .builtin "function.__dict__#set"] } .nil .nil)) (.node { cls := .type "dict", data := .dict #[ze P "__module__" 368 (zv "siftwall.tokens" 292), ze P "__firstlineno__" 372 (.int 111 371), ze P "__init__" 381 (.ref 150), ze P "look" 391 (.ref 158), ze P "take" 399 (.ref 165), ze P "is_sign" 407 (.ref 172), ze P "is_word" 416 (.ref 179), ze P "skip_sign" 424 (.ref 186), ze P "want_sign" 432 (.ref 193), ze P "want_word" 439 (.ref 200), ze P "skip_rows" 446 (.ref 207), ze P "fault" 455 (.ref 214), ze P "__static_attributes__" 462 (.ref 215), ze P "__dict__" 464 (.ref 218), ze P "__weakref__" 466 (.ref 219), ze P "__doc__" 467 .none] 4 } (.node { cls := .type "tuple", data := .seq #[zv "reader" 627, zv "tail" 628] } .nil .nil) (.node { cls := .none, data := .func (zf "print_log" "print_log" 55 0 .none .none) } .nil .nil))) (.node { cls := .none, data := .func (zf "read_tokens" "read_tokens" 9 0 .none .none) } (.node { cls := .none, data := .func (zf "skip_sign" "Reader.skip_sign" 17 0 .none .none) } (.node (zc "read_counter" 580 "read_counter" #[.int 215 0, .int 1 0, .int 0 0, .int 0 0, .int 3 0, .ref 307, .bool true, .int 181 0, .ref 308, .none, .ref 309, .ref 310, .ref 311, .int 586 0, .int 215 0] 587) (.node { cls := .none, data := .func (zf "_law_statement" "_law_statement" 69 0 .none .none) } .nil .nil) .nil) ztl) (.node (zc "out_of_range" 497 "out_of_range" #[.int 170 0, .int 3 0, .int 0 0, .int 0 0, .int 3 0, .ref 243, .bool true, .int 181 0, .ref 244, .none, .ref 245, .ref 246, .ref 247, .int 503 0, .int 170 0] 504) (.node { cls := .type "function", data := .func (zg "meter_words" "meter_words" 43 3 .none .none (zv "siftwall.readrule" 523) (.ref 375)) } .nil .nil) zol))))) (.node { cls := .none, data := .fields #[.int 1 0, .int 0 0, .ref 20, .int 5 0, .int 0 0, .ref 27, .int 11 0, .int 0 0, .ref 47, .int 13 0, .int 0 0, .ref 59, .int 20 0, .int 0 0, .ref 79, .int 30 0, .int 0 0, .ref 86, .int 35 0, .int 0 0, .ref 93, .int 37 0, .int 0 0, .ref 100, .int 41 0, .int 0 0, .ref 107, .int 48 0, .int 0 0, .ref 114, .int 62 0, .int 0 0, .ref 121, .int 100 0, .int 0 0, .ref 128, .int 108 0, .int 0 0, .ref 135, .int 111 0, .int 0 0, .ref 142, .int 154 0, .int 0 0, .ref 227, .int 156 0, .int 0 0, .ref 234, .int 166 0, .int 0 0, .ref 241, .int 170 0, .int 0 0, .ref 248, .int 172 0, .int 0 0, .ref 255, .int 179 0, .int 0 0, .ref 262, .int 184 0, .int 0 0, .ref 269, .int 187 0, .int 0 0, .ref 276, .int 191 0, .int 0 0, .ref 284, .int 200 0, .int 0 0, .ref 291, .int 205 0, .int 0 0, .ref 298, .int 208 0, .int 0 0, .ref 305, .int 215 0, .int 0 0, .ref 312, .int 221 0, .int 0 0, .ref 319, .int 228 0, .int 0 0, .ref 326, .int 234 0, .int 0 0, .ref 333, .int 242 0, .int 0 0, .ref 340, .int 244 0, .int 0 0, .ref 347, .int 255 0, .int 0 0, .ref 354, .int 272 0, .int 0 0, .ref 361, .int 284 0, .int 0 0, .ref 368, .int 290 0, .int 0 0, .ref 375, .int 292 0, .int 0 0, .ref 382, .int 306 0, .int 0 0, .ref 389, .int 310 0, .int 0 0, .ref 396, .int 316 0, .int 0 0, .ref 417, .int 320 0, .int 0 0, .ref 424, .int 327 0, .int 0 0, .ref 431, .int 329 0, .int 0 0, .ref 438, .int 331 0, .int 0 0, .ref 445, .int 339 0, .int 0 0, .ref 452, .int 350 0, .int 0 0, .ref 459, .int 352 0, .int 0 0, .ref 466, .int 354 0, .int 0 0, .ref 473, .int 361 0, .int 0 0, .ref 480, .int 363 0, .int 0 0, .ref 487, .int 368 0, .int 0 0, .ref 494, .int 372 0, .int 0 0, .ref 501, .int 380 0, .int 0 0, .ref 508, .int 384 0, .int 0 0, .ref 513, .int 388 0, .int 0 0, .ref 520, .int 392 0, .int 0 0, .ref 527, .int 394 0, .int 0 0, .ref 534, .int 399 0, .int 0 0, .ref 541, .int 405 0, .int 0 0, .ref 548, .int 419 0, .int 0 0, .ref 555, .int 423 0, .int 0 0, .ref 562, .int 434 0, .int 0 0, .ref 569, .int 442 0, .int 0 0, .ref 576, .int 452 0, .int 0 0, .ref 581, .int 456 0, .int 0 0, .ref 588] } (.node (zc "_wall" 187 "_wall" #[.int 1 0, .int 1 0, .int 0 0, .int 0 0, .int 3 0, .ref 15, .bool true, .int 181 0, .ref 16, .none, .ref 17, .ref 18, .ref 19, .int 191 0, .int 1 0] 192) (.node { cls := .type "tuple", data := .seq #[zv "at" 216, zv "why" 217] } (.node { cls := .type "function", data := .func (zg "__init__" "BadText.__init__" 2 3 (.ref 61) .none (zv "siftwall.faults" 194) (.ref 67)) } (.node { cls := .type "tuple", data := .seq #[zv "token" 355, zv "what" 356, zv "why" 357] } (.node zt zol .nil) (.node { cls := .none, data := .func (zf "read_notrack" "read_notrack" 45 0 .none .none) } .nil .nil)) (.node { cls := .type "tuple", data := .seq #[zv "self" 436] } (.node zt (.node { cls := .none, data := .func (zf "_law_written" "_law_written" 71 0 .none .none) } .nil .nil) .nil) (.node (zc "print_limit" 766 "print_limit" #[.int 339 0, .int 2 0, .int 0 0, .int 0 0, .int 3 0, .ref 447, .bool true, .int 181 0, .ref 448, .none, .ref 449, .ref 450, .ref 451, .int 777 0, .int 339 0] 778) .nil .nil))) (.node (zc "run_end" 301 "run_end" #[.int 37 0, .int 2 0, .int 0 0, .int 0 0, .int 3 0, .ref 95, .bool true, .int 181 0, .ref 96, .none, .ref 97, .ref 98, .ref 99, .int 306 0, .int 37 0] 307) (.node (zc "take" 392 "Reader.take" #[.int 127 0, .int 1 0, .int 0 0, .int 0 0, .int 3 0, .ref 159, .bool true, .int 181 0, .ref 160, .none, .ref 161, .ref 162, .ref 163, .int 397 0, .int 127 0] 398) (.node { cls := .type "function", data := .func (zg "read_over" "read_over" 31 3 .none .none (zv "siftwall.readrule" 523) (.ref 291)) } (.node (zc "_law_limit" 895 "_law_limit" #[.int 405 0, .int 2 0, .int 0 0, .int 0 0, .int 3 0, .ref 543, .bool true, .int 181 0, .ref 544, .none, .ref 545, .ref 546, .ref 547, .int 907 0, .int 405 0] 908) .nil .nil) .nil) zol) (.node { cls := .type "function", data := .func (zg "expected" "expected" 22 3 .none .none (zv "siftwall.tokens" 292) (.ref 227)) } ztl (.node { cls := .type "tuple", data := .seq #[zv "tongue" 814, zv "printers" 815, zv "statement" 816] } .nil .nil)))) (.node { cls := .type "super", data := .fields #[.ref 51, .ref 51, .ref 51] } (.node zt (.node { cls := .none, data := .func (zf "__init__" "Reader.__init__" 12 0 .none .none) } (.node (zc "sized" 534 "sized" #[.int 187 0, .int 3 0, .int 0 0, .int 0 0, .int 3 0, .ref 271, .bool true, .int 181 0, .ref 272, .none, .ref 273, .ref 274, .ref 275, .int 540 0, .int 187 0] 541) ztl .nil) (.node { cls := .type "function", data := .func (zg "__init__" "Tongue.__init__" 46 3 .none .none (zv "siftwall.fields" 690) (.ref 403)) } .nil .nil)) (.node { cls := .none, data := .func (zf "fault" "Reader.fault" 21 0 .none .none) } (.node (zc "is_stroke" 617 "is_stroke" #[.int 242 0, .int 1 0, .int 0 0, .int 0 0, .int 3 0, .ref 335, .bool true, .int 181 0, .ref 336, .none, .ref 337, .ref 338, .ref 339, .int 621 0, .int 242 0] 622) .nil .nil) ztl)) (.node zt (.node zt (.node zo ztl .nil) ztl) (.node zo ztl (.node { cls := .none, data := .func (zf "_law_number" "_law_number" 59 0 .none .none) } .nil .nil))))) (.node { cls := .type "frame", slots := #[some (.ref 27), some (.ref 3), some (.ref 24), none, some (zv "siftwall.faults" 194), none, some (.ref 0)] } (.node { cls := .type "dict", data := .dict #[ze P "__module__" 233 (zv "siftwall.faults" 194), ze P "__qualname__" 235 (zv "Misused" 234), ze P "__firstlineno__" 237 (.int 11 236), ze P "__static_attributes__" 238 (.ref 49)] 4 } (.node { cls := .type "tuple", data := .seq #[zv "digits" 277, zv "base" 278, zv "number" 279, zv "sign" 280, zv "digit" 281] } (.node zt (.node { cls := .none, data := .func (zf "size_unit" "size_unit" 28 0 .none .none) } (.node { cls := .type "tuple", data := .seq #[zv "pen" 868, zv "is_over" 869] } .nil .nil) .nil) (.node (zc "Tongue" 694 "Tongue" #[.int 310 0, .int 0 0, .int 0 0, .int 0 0, .int 0 0, .ref 394, .bool false, .int 181 0, .ref 395, .none, .none, .none, .none, .int 697 0, .int 310 0] 698) .nil .nil)) (.node zt (.node { cls := .none, data := .func (zf "cut_word" "cut_word" 37 0 .none .none) } (.node (zc "law" 957 "law" #[.int 456 0, .int 1 0, .int 0 0, .int 0 0, .int 3 0, .ref 583, .bool true, .int 181 0, .ref 584, .none, .ref 585, .ref 586, .ref 587, .int 972 0, .int 456 0] 973) .nil .nil) .nil) (.node { cls := .type "function", data := .func (zg "print_object" "print_object" 53 3 .none .none (zv "siftwall.printrule" 723) (.ref 459)) } .nil .nil))) (.node { cls := .type "function", data := .func (zg "string_end" "string_end" 7 3 .none .none (zv "siftwall.tokens" 292) (.ref 107)) } (.node { cls := .type "function", data := .func (zg "is_sign" "Reader.is_sign" 15 3 .none .none (zv "siftwall.tokens" 292) (.ref 171)) } (.node zt (.node { cls := .type "function", data := .func (zg "_law_object" "_law_object" 67 3 .none .none (zv "law_pq1093_01" 820) (.ref 555)) } .nil .nil) .nil) (.node { cls := .type "tuple", data := .seq #[zv "octets" 745] } .nil .nil)) (.node zt zol ztl))) (.node { cls := .type "frame", slots := #[some (.ref 59), some (.ref 3), some (.ref 56), none, some (zv "siftwall.faults" 194), none, some (.ref 0)] } (.node { cls := .none, data := .func (zf "is_word_sign" "is_word_sign" 5 0 .none .none) } (.node { cls := .none, data := .func (zf "look" "Reader.look" 13 0 .none .none) } (.node (zc "read_size" 544 "read_size" #[.int 191 0, .int 2 0, .int 0 0, .int 0 0, .int 3 0, .ref 279, .bool true, .int 181 0, .ref 280, .none, .ref 281, .ref 282, .ref 283, .int 553 0, .int 191 0] 554) (.node { cls := .none, data := .func (zf "_law_quota" "_law_quota" 65 0 .none .none) } .nil .nil) .nil) ztl) (.node { cls := .type "super", data := .fields #[.ref 217, .ref 217, .ref 217] } (.node { cls := .type "function", data := .func (zg "read_unit" "read_unit" 39 3 .none .none (zv "siftwall.readrule" 523) (.ref 347)) } .nil .nil) zol)) (.node zo (.node zo (.node { cls := .type "tuple", data := .seq #[zv "reader" 592, zv "is_over" 593, zv "octets" 594] } zol .nil) (.node { cls := .none, data := .func (zf "print_quota" "print_quota" 51 0 .none .none) } .nil .nil)) (.node { cls := .type "tuple", data := .seq #[zv "reader" 509, zv "top" 510, zv "token" 511, zv "n" 512] } ztl (.node (zc "_law_octets" 841 "_law_octets" #[.int 380 0, .int 1 0, .int 0 0, .int 0 0, .int 3 0, .ref 503, .bool true, .int 181 0, .ref 504, .none, .ref 505, .ref 506, .ref 507, .int 847 0, .int 380 0] 848) .nil .nil))))))) (.node (boot_o_6 P) (.node (boot_o_10 P) (.node zt (.node (zc "__init__" 208 "WallFault.__init__" #[.int 7 0, .int 2 0, .int 0 0, .int 0 0, .int 3 0, .ref 29, .bool true, .int 181 0, .ref 30, .none, .ref 31, .ref 32, .ref 33, .int 213 0, .int 7 0] 214) (.node { cls := .none, data := .func (zf "__init__" "BadText.__init__" 2 0 .none .none) } (.node zt (.node zo (.node { cls := .type "function", data := .func (zg "_law_sized" "_law_sized" 61 3 .none .none (zv "law_pq1093_01" 820) (.ref 513)) } .nil .nil) .nil) (.node { cls := .type "tuple", data := .seq #[zv "reader" 686] } .nil .nil)) (.node zt (.node zo ztl .nil) ztl)) (.node zt (.node zt (.node { cls := .none, data := .func (zf "read_over" "read_over" 31 0 .none .none) } ztl .nil) (.node { cls := .type "function", data := .func (zg "quoted" "quoted" 47 3 .none .none (zv "siftwall.printrule" 723) (.ref 417)) } .nil .nil)) (.node { cls := .none, data := .func (zf "expected" "expected" 22 0 .none .none) } (.node (zc "read_rate" 632 "read_rate" #[.int 255 0, .int 1 0, .int 0 0, .int 0 0, .int 3 0, .ref 349, .bool true, .int 181 0, .ref 350, .none, .ref 351, .ref 352, .ref 353, .int 641 0, .int 255 0] 642) .nil .nil) ztl))) (.node { cls := .type "dict", data := .dict #[ze P "__module__" 233 (zv "siftwall.faults" 194), ze P "__firstlineno__" 237 (.int 11 236), ze P "__static_attributes__" 238 (.ref 49), ze P "__doc__" 239 .none] 2 } (.node zo (.node { cls := .type "tuple", data := .seq #[zv "self" 376, zv "tokens" 377, zv "tongue" 378] } (.node zt zol .nil) (.node { cls := .none, data := .func (zf "__init__" "Tongue.__init__" 46 0 .none .none) } .nil .nil)) (.node { cls := .type "tuple", data := .seq #[zv "self" 450, zv "why" 451, zv "token" 452] } ztl (.node (zc "meter_printers" 788 "meter_printers" #[.int 352 0, .int 0 0, .int 0 0, .int 0 0, .int 3 0, .ref 461, .bool true, .int 181 0, .ref 462, .none, .ref 463, .ref 464, .ref 465, .int 791 0, .int 352 0] 792) .nil .nil))) (.node (zc "put_run" 320 "put_run" #[.int 48 0, .int 4 0, .int 0 0, .int 0 0, .int 3 0, .ref 109, .bool true, .int 181 0, .ref 110, .none, .ref 111, .ref 112, .ref 113, .int 328 0, .int 48 0] 329) (.node (zc "is_word" 408 "Reader.is_word" #[.int 135 0, .int 2 0, .int 0 0, .int 0 0, .int 3 0, .ref 173, .bool true, .int 181 0, .ref 174, .none, .ref 175, .ref 176, .ref 177, .int 414 0, .int 135 0] 415) (.node { cls := .type "function", data := .func (zg "read_counter_body" "read_counter_body" 33 3 .none .none (zv "siftwall.readrule" 523) (.ref 305)) } (.node (zc "_law_log" 920 "_law_log" #[.int 423 0, .int 1 0, .int 0 0, .int 0 0, .int 3 0, .ref 557, .bool true, .int 181 0, .ref 558, .none, .ref 559, .ref 560, .ref 561, .int 928 0, .int 423 0] 929) .nil .nil) .nil) zol) (.node { cls := .type "function", data := .func (zg "keyword" "keyword" 24 3 .none .none (zv "siftwall.readexpr" 487) (.ref 241)) } ztl (.node { cls := .type "tuple", data := .seq #[zv "pen" 834, zv "n" 835, zv "way" 836, zv "digits" 837] } .nil .nil))))) (.node { cls := .none, data := .fields #[.int 7 0, .int 4 0, .ref 34] } (.node { cls := .type "tuple", data := .seq #[.ref 38] } (.node zt (.node { cls := .type "builtin_function_or_method", data := .fields #[.builtin "type.__prepare__", .type "type"] } (.node { cls := .type "tuple", data := .seq #[zv "word" 528, zv "many" 529, zv "units" 530] } ztl .nil) ztl) (.node zo (.node { cls := .type "tuple", data := .seq #[zv "reader" 611, zv "token" 612, zv "at" 613] } ztl .nil) (.node { cls := .none, data := .func (zf "print_object" "print_object" 53 0 .none .none) } .nil .nil))) (.node { cls := .none, data := .func (zf "string_end" "string_end" 7 0 .none .none) } (.node { cls := .none, data := .func (zf "is_sign" "Reader.is_sign" 15 0 .none .none) } (.node (zc "read_object" 564 "read_object" #[.int 205 0, .int 2 0, .int 0 0, .int 0 0, .int 3 0, .ref 293, .bool true, .int 181 0, .ref 294, .none, .ref 295, .ref 296, .ref 297, .int 569 0, .int 205 0] 570) (.node { cls := .none, data := .func (zf "_law_object" "_law_object" 67 0 .none .none) } .nil .nil) .nil) ztl) (.node (zc "number_here" 478 "number_here" #[.int 156 0, .int 1 0, .int 0 0, .int 0 0, .int 3 0, .ref 229, .bool true, .int 181 0, .ref 230, .none, .ref 231, .ref 232, .ref 233, .int 484 0, .int 156 0] 485) (.node { cls := .type "function", data := .func (zg "read_limit_body" "read_limit_body" 41 3 .none .none (zv "siftwall.readrule" 523) (.ref 361)) } .nil .nil) zol))) (.node { cls := .none, data := .fields #[.int 15 0, .int 4 0, .ref 67] } (.node { cls := .type "tuple", data := .seq #[zv "sign" 297] } (.node { cls := .type "tuple", data := .seq #[zv "self" 386, zv "ahead" 387, zv "place" 388] } (.node zt (.node { cls := .type "tuple", data := .seq #[zv "pen" 887, zv "is_over" 888, zv "octets" 889, zv "used" 890, zv "words" 891] } .nil .nil) .nil) (.node { cls := .type "super", data := .fields #[.ref 407, .ref 407, .ref 407] } .nil .nil)) (.node { cls := .type "getset_descriptor", data := .fields #[zv "__dict__" 463, .ref 217, .builtin "function.__dict__", .builtin "function.__dict__#set"] } (.node { cls := .none, data := .func (zf "read_unit" "read_unit" 39 0 .none .none) } .nil .nil) (.node { cls := .type "function", data := .func (zg "print_log" "print_log" 55 3 .none .none (zv "siftwall.printrule" 723) (.ref 473)) } .nil .nil))) (.node { cls := .type "function", data := .func (zg "read_tokens" "read_tokens" 9 3 .none .none (zv "siftwall.tokens" 292) (.ref 121)) } (.node { cls := .type "function", data := .func (zg "skip_sign" "Reader.skip_sign" 17 3 .none .none (zv "siftwall.tokens" 292) (.ref 185)) } (.node zt (.node { cls := .type "function", data := .func (zg "_law_statement" "_law_statement" 69 3 .none .none (zv "law_pq1093_01" 820) (.ref 569)) } .nil .nil) .nil) (.node { cls := .type "tuple", data := .seq #[zv "tongue" 760, zv "statement" 761, zv "text" 762] } .nil .nil)) (.node zt zol ztl))))) (.node { cls := .type "frame", slots := #[some (.ref 13), some (.ref 3), some (.ref 3), none, some (zv "__main__" 164), none, some (.ref 0)] } (.node { cls := .type "tuple", data := .seq #[.type "Exception"] } (.node { cls := .type "type", data := .cls { name := Str.ofString "WallFault", bases := [.type "Exception"], mro := [.ref 38, .type "Exception", .type "BaseException", .type "object"], ns := 37, qualname := Str.ofString "WallFault", subclasses := [.ref 51, .ref 71] }, slots := #[some (.ref 22), none, some (zv "WallFault" 196), some (zv "WallFault" 204), some (.builtin "Exception.__new__"), some (.bool true)] } (.node { cls := .type "dict", data := .dict #[ze P "__module__" 249 (zv "siftwall.faults" 194), ze P "__firstlineno__" 253 (.int 13 252), ze P "__init__" 265 (.ref 68), ze P "__static_attributes__" 268 (.ref 69), ze P "__doc__" 269 .none] 2 } (.node { cls := .none, data := .func (zf "unexpected" "unexpected" 11 0 .none .none) } (.node (zc "read_text" 516 "read_text" #[.int 179 0, .int 1 0, .int 0 0, .int 0 0, .int 3 0, .ref 257, .bool true, .int 181 0, .ref 258, .none, .ref 259, .ref 260, .ref 261, .int 520 0, .int 179 0] 521) ztl .nil) (.node { cls := .type "function", data := .func (zg "read_notrack" "read_notrack" 45 3 .none .none (zv "siftwall.readrule" 523) (.ref 389)) } .nil .nil)) (.node { cls := .none, data := .func (zf "want_word" "Reader.want_word" 19 0 .none .none) } (.node (zc "read_quota" 598 "read_quota" #[.int 228 0, .int 1 0, .int 0 0, .int 0 0, .int 3 0, .ref 321, .bool true, .int 181 0, .ref 322, .none, .ref 323, .ref 324, .ref 325, .int 605 0, .int 228 0] 606) (.node { cls := .type "function", data := .func (zg "_law_written" "_law_written" 71 3 .none .none (zv "law_pq1093_01" 820) (.ref 581)) } .nil .nil) .nil) ztl)) (.node zt (.node zt (.node zo ztl .nil) ztl) (.node zo (.node { cls := .type "tuple", data := .seq #[zv "reader" 647, zv "is_over" 648, zv "rate" 649, zv "unit" 650, zv "is_octets" 651, zv "burst" 652] } .nil .nil) (.node { cls := .none, data := .func (zf "print_statement" "print_statement" 57 0 .none .none) } .nil .nil)))) (.node { cls := .type "tuple", data := .seq #[.ref 38] } (.node (zc "number_word" 285 "number_word" #[.int 30 0, .int 1 0, .int 0 0, .int 0 0, .int 3 0, .ref 81, .bool true, .int 181 0, .ref 82, .none, .ref 83, .ref 84, .ref 85, .int 289 0, .int 30 0] 290) (.node { cls := .type "function", data := .func (zg "__init__" "Reader.__init__" 12 3 .none .none (zv "siftwall.tokens" 292) (.ref 149)) } (.node { cls := .type "tuple", data := .seq #[.int 4 543] } (.node (zc "_law_counter" 873 "_law_counter" #[.int 394 0, .int 1 0, .int 0 0, .int 0 0, .int 3 0, .ref 529, .bool true, .int 181 0, .ref 530, .none, .ref 531, .ref 532, .ref 533, .int 881 0, .int 394 0] 882) .nil .nil) .nil) (.node { cls := .type "dict", data := .dict #[ze P "__module__" 699 (zv "siftwall.fields" 690), ze P "__firstlineno__" 703 (.int 310 702), ze P "__init__" 712 (.ref 404), ze P "__static_attributes__" 715 (.ref 405), ze P "__dict__" 717 (.ref 408), ze P "__weakref__" 719 (.ref 409), ze P "__doc__" 720 .none] 4 } .nil .nil)) (.node { cls := .type "function", data := .func (zg "fault" "Reader.fault" 21 3 .none .none (zv "siftwall.tokens" 292) (.ref 213)) } ztl (.node { cls := .type "tuple", data := .seq #[zv "tongue" 797, zv "statement" 798, zv "text" 799] } .nil .nil))) (.node { cls := .type "tuple", data := .seq #[zv "text" 334, zv "tokens" 335, zv "at" 336, zv "row" 337, zv "begin" 338, zv "sign" 339, zv "column" 340, zv "behind" 341] } (.node { cls := .type "tuple", data := .seq #[zv "self" 420, zv "text" 421] } (.node zt (.node { cls := .type "tuple", data := .seq #[zv "number" 934, zv "pen" 935, zv "sort" 936] } .nil .nil) .nil) (.node (zc "print_counter" 749 "print_counter" #[.int 329 0, .int 2 0, .int 0 0, .int 0 0, .int 3 0, .ref 433, .bool true, .int 181 0, .ref 434, .none, .ref 435, .ref 436, .ref 437, .int 754 0, .int 329 0] 755) .nil .nil)) (.node zt (.node { cls := .none, data := .func (zf "meter_words" "meter_words" 43 0 .none .none) } .nil .nil) (.node { cls := .type "function", data := .func (zg "_law_number" "_law_number" 59 3 .none .none (zv "law_pq1093_01" 820) (.ref 501)) } .nil .nil))))) (.node zo (.node zo (.node { cls := .none, data := .func (zf "based_number" "based_number" 3 0 .none .none) } (.node (zc "Reader" 363 "Reader" #[.int 111 0, .int 0 0, .int 0 0, .int 0 0, .int 0 0, .ref 140, .bool false, .int 181 0, .ref 141, .none, .none, .none, .none, .int 366 0, .int 111 0] 367) (.node { cls := .type "function", data := .func (zg "size_unit" "size_unit" 28 3 .none .none (zv "siftwall.readrule" 523) (.ref 269)) } (.node { cls := .none, data := .func (zf "_law_over" "_law_over" 63 0 .none .none) } .nil .nil) .nil) ztl) (.node (zc "skip_rows" 440 "Reader.skip_rows" #[.int 148 0, .int 1 0, .int 0 0, .int 0 0, .int 3 0, .ref 201, .bool true, .int 181 0, .ref 202, .none, .ref 203, .ref 204, .ref 205, .int 444 0, .int 148 0] 445) (.node { cls := .type "function", data := .func (zg "cut_word" "cut_word" 37 3 .none .none (zv "siftwall.readrule" 523) (.ref 333)) } .nil .nil) zol)) (.node zo (.node zo (.node { cls := .type "tuple", data := .seq #[zv "reader" 575, zv "packets" 576] } zol .nil) (.node { cls := .none, data := .func (zf "print_size" "print_size" 49 0 .none .none) } .nil .nil)) (.node { cls := .type "tuple", data := .seq #[zv "reader" 492, zv "word" 493] } ztl (.node (zc "_law_draw" 822 "_law_draw" #[.int 368 0, .int 2 0, .int 0 0, .int 0 0, .int 3 0, .ref 489, .bool true, .int 181 0, .ref 490, .none, .ref 491, .ref 492, .ref 493, .int 828 0, .int 368 0] 829) .nil .nil)))) (.node zt (.node { cls := .type "function", data := .func (zg "is_word_sign" "is_word_sign" 5 3 .none .none (zv "siftwall.tokens" 292) (.ref 93)) } (.node { cls := .type "function", data := .func (zg "look" "Reader.look" 13 3 (.ref 151) .none (zv "siftwall.tokens" 292) (.ref 157)) } (.node zt (.node { cls := .type "function", data := .func (zg "_law_quota" "_law_quota" 65 3 .none .none (zv "law_pq1093_01" 820) (.ref 541)) } .nil .nil) .nil) (.node { cls := .type "tuple", data := .seq #[zv "text" 728] } .nil .nil)) (.node zt zol ztl)) (.node zt (.node zt (.node { cls := .none, data := .func (zf "read_quota_body" "read_quota_body" 35 0 .none .none) } ztl .nil) (.node { cls := .type "function", data := .func (zg "print_quota" "print_quota" 51 3 .none .none (zv "siftwall.printrule" 723) (.ref 445)) } .nil .nil)) (.node { cls := .none, data := .func (zf "number_to" "number_to" 26 0 .none .none) } (.node (zc "read_log" 674 "read_log" #[.int 292 0, .int 1 0, .int 0 0, .int 0 0, .int 3 0, .ref 377, .bool true, .int 181 0, .ref 378, .none, .ref 379, .ref 380, .ref 381, .int 680 0, .int 292 0] 681) .nil .nil) ztl))))))))
noncomputable def sM72 (w : World) (os : OsState) : SharedT := ⟨tM72 w.params, 590, {}, #[], {}, 975, os⟩
noncomputable def posM72 : Pos := ⟨456, 0, 470, 95⟩
noncomputable def sts72 : List Stmt := ((behindTheImports pw).take 73).drop 58
theorem run72 (w : World) : (fun os => segRunT treeTable pw w 11 ann 1 530 (sM57 w os) (piecesOf sts72 envT cT posM57 [topFrame posA])) = fun os => some (.next, sM72 w os, cT, posM72) := by
  rw [PySem.W.Fast.te10110043849684766642, PySem.W.Fast.te14364793385576792824]
  kernel_rfl
theorem sts_all : behindTheImports pw = (sts15 ++ (sts18 ++ (sts42 ++ (sts57 ++ sts72)))) := by kernel_rfl
end Mine
end
end

section
set_option maxRecDepth 100000
open PySem PySem.W PyProof.Rows
namespace Mine
theorem sd1 : namesResolve PySem.Challenge.rw_pq1093_01.row.prog = true := by
  rw [PySem.W.Fast.te8377067652309620493]; kernel_rfl
theorem noRoad_cut (n : Nat) {lk : Look} {l : List Stmt} (h1 : noRoadLSs lk (l.take n) = true) (h2 : noRoadLSs lk (l.drop n) = true) : noRoadLSs lk l = true := by
  have cat : ∀ a b : List Stmt, noRoadLSs lk a = true → noRoadLSs lk b = true → noRoadLSs lk (a ++ b) = true := by
    intro a b x y
    induction a with
    | nil => exact y
    | cons s r ih =>
      have z : (noRoadLS lk s && noRoadLSs lk r) = true := x
      rw [Bool.and_eq_true] at z
      show (noRoadLS lk s && noRoadLSs lk (r ++ b)) = true
      rw [z.1, ih z.2]; rfl
  rw [← List.take_append_drop n l]
  exact cat _ _ h1 h2
theorem out_vars : readsOut PySem.Challenge.rw_pq1093_01.row.prog PySem.Challenge.rw_pq1093_01.row.prog.main.body (Str.ofString "vars") = false := by
  rw [PySem.W.Fast.te13343964577679436407]; kernel_rfl
theorem out_dir : readsOut PySem.Challenge.rw_pq1093_01.row.prog PySem.Challenge.rw_pq1093_01.row.prog.main.body (Str.ofString "dir") = false := by
  rw [PySem.W.Fast.te13343964577679436407]; kernel_rfl
theorem out_locals : readsOut PySem.Challenge.rw_pq1093_01.row.prog PySem.Challenge.rw_pq1093_01.row.prog.main.body (Str.ofString "locals") = false := by
  rw [PySem.W.Fast.te13343964577679436407]; kernel_rfl
theorem bare_is : List.filter (readsOut PySem.Challenge.rw_pq1093_01.row.prog PySem.Challenge.rw_pq1093_01.row.prog.main.body) [Str.ofString "vars", Str.ofString "dir", Str.ofString "locals"] = [] := by
  rw [List.filter_cons_of_neg (by rw [out_vars]; decide), List.filter_cons_of_neg (by rw [out_dir]; decide), List.filter_cons_of_neg (by rw [out_locals]; decide)]; rfl
theorem strict_is : (!(importedModules PySem.Challenge.rw_pq1093_01.row.prog.main.body).all cThrough.contains) = false := by kernel_rfl
theorem sd2a : noRoadLSs { strict := false, foot := none, bare := [] } (PySem.Challenge.rw_pq1093_01.row.prog.main.body.take 44) = true := by
  rw [PySem.W.Fast.te8326940854005059898]; kernel_rfl
theorem sd2b : noRoadLSs { strict := false, foot := none, bare := [] } (PySem.Challenge.rw_pq1093_01.row.prog.main.body.drop 44) = true := by
  rw [PySem.W.Fast.te8326940854005059898]; kernel_rfl
theorem sd2 : noRoadLSs { strict := !(importedModules PySem.Challenge.rw_pq1093_01.row.prog.main.body).all cThrough.contains, foot := none, bare := List.filter (readsOut PySem.Challenge.rw_pq1093_01.row.prog PySem.Challenge.rw_pq1093_01.row.prog.main.body) [Str.ofString "vars", Str.ofString "dir", Str.ofString "locals"] } PySem.Challenge.rw_pq1093_01.row.prog.main.body = true := by
  rw [strict_is, bare_is]
  exact noRoad_cut 44 sd2a sd2b
theorem sd3 : (namesMeet PySem.Challenge.rw_pq1093_01.row.prog PySem.Challenge.rw_pq1093_01.row.prog.main.body fun x n => attrL n) = true := by
  rw [PySem.W.Fast.te17119622794617984870]; kernel_rfl
theorem sd4 : noRoadLSs { strict := true, foot := some PySem.Challenge.rw_pq1093_01.bound', writes := PySem.Challenge.rw_pq1093_01.writes, may := PySem.Challenge.rw_pq1093_01.may } PySem.Challenge.rw_pq1093_01.footing = true := by
  rw [PySem.W.Fast.te8326940854005059898]; kernel_rfl
theorem sd5 : (namesMeet PySem.Challenge.rw_pq1093_01.prog PySem.Challenge.rw_pq1093_01.footing fun sc n =>
      (![Str.ofString "type", Str.ofString "isinstance", Str.ofString "issubclass", Str.ofString "getattr", Str.ofString "hasattr"].contains n || List.lookup n sc.names == some NameKind.globalImplicit) &&
        (PySem.Challenge.rw_pq1093_01.may != some n || sc.kind == ScopeKind.module || List.lookup n sc.names == some NameKind.globalImplicit)) = true := by
  rw [PySem.W.Fast.te17119622794617984870]; kernel_rfl
theorem sd6 : (namesMeet PySem.Challenge.rw_pq1093_01.prog PySem.Challenge.rw_pq1093_01.above fun x n => !PySem.Challenge.rw_pq1093_01.own.contains n) = true := by
  rw [PySem.W.Fast.te17119622794617984870]; kernel_rfl
theorem sd7 : (namesMeet PySem.Challenge.rw_pq1093_01.prog PySem.Challenge.rw_pq1093_01.footing fun sc n => sc.kind == ScopeKind.module || List.lookup n sc.names != some NameKind.globalExplicit) = true := by
  rw [PySem.W.Fast.te17119622794617984870]; kernel_rfl
theorem sd8 : (PySem.Challenge.rw_pq1093_01.bound'.all fun n => !builtinNamed n || PySem.Challenge.rw_pq1093_01.about == [n] || !PySem.Challenge.rw_pq1093_01.reads n) = true := by
  rw [PySem.W.Fast.te6984425678791042302]; kernel_rfl
theorem said_looks : looksOpen PySem.Challenge.rw_pq1093_01.row.prog = true := by
  delta looksOpen
  repeat' with_reducible refine look_both ?_ ?_
  · kernel_rfl
  · kernel_rfl
  · exact sd1
  · kernel_rfl
  · exact sd2
  · exact sd3
theorem said_row : PySem.Challenge.rw_pq1093_01.row.wellSaid = true := by
  delta OpenRow.wellSaid
  refine look_both (look_both ?_ (by kernel_rfl)) (by kernel_rfl)
  delta OpenRow.partSaid
  repeat' with_reducible refine look_both ?_ ?_
  · exact said_looks
  all_goals kernel_rfl
theorem said : PySem.Challenge.rw_pq1093_01.wellSaid = true := by
  delta OpenLaw.wellSaid
  repeat' with_reducible refine look_both ?_ ?_
  · exact said_row
  all_goals first | with_reducible exact sd4 | with_reducible exact sd5 | with_reducible exact sd6 | with_reducible exact sd7 | with_reducible exact sd8 | (rw [PySem.W.Fast.te17119622794617984870]; kernel_rfl) | kernel_rfl
end Mine
end

section
set_option maxRecDepth 100000
open PySem PySem.W PyProof.Rows
noncomputable section
namespace Mine
/-- the objects of a state that the walk looks at -/
noncomputable def keys : List Nat := [0, 1, 3, 217, 216, 407, 406, 151, 278] ++ fns ++ fns.map (· - 1)
noncomputable def fragAt (t : BT) (n a : Nat) : Option (Nat × Obj) := bif Nat.blt a n then ((t.get a).bind alive).map fun o => (a, o) else .none
noncomputable def fragT (t : BT) (n : Nat) : Frag := keys.filterMap (fragAt t n)
theorem fragOn_in {t : BT} {n : Nat} {life : Life} : ∀ l : List Nat, Frag.In (l.filterMap (fragAt t n)) (absHeap t n life) := by
  intro l
  induction l with
  | nil => intro a o e; cases e
  | cons b l ih =>
    intro a o e
    have ih' := ih a o
    rw [List.filterMap_cons] at e
    cases hb : fragAt t n b with
    | none => rw [hb] at e; exact ih' e
    | some x =>
      rw [hb] at e
      unfold fragAt at hb
      cases hn : Nat.blt b n with
      | false => rw [hn] at hb; cases hb
      | true =>
        rw [hn] at hb
        obtain ⟨y, h1, h2⟩ := Option.map_eq_some_iff.mp hb
        subst h2
        simp only [List.lookup_cons] at e
        by_cases q : a = b
        · subst q
          rw [beq_self_eq_true] at e
          obtain ⟨o', e1, e2⟩ := Option.bind_eq_some_iff.mp h1
          rw [abs_get (Nat.le_of_ble_eq_true hn) e1, e2]; exact e
        · rw [beq_eq_false_iff_ne.mpr q] at e
          exact ih' e
theorem fragT_in (s : SharedT) : (fragT s.tree s.n).In s.abs.heap := fragOn_in _

noncomputable def nogl : List Str := [Str.ofString "len", Str.ofString "str", Str.ofString "repr", Str.ofString "range"]
noncomputable def glB (K : Frag) (p : Str × Addr) : Bool := match nsIn K mainGlobals p.1 with | some (some (.ref b)) => b == p.2 | _ => false
noncomputable def noglB (K : Frag) (x : Str) : Bool := match nsIn K mainGlobals x with | some .none => true | _ => false
noncomputable def isV (a : Option (Option Value)) (v : Value) : Bool := match a with | some (some u) => decide (u = v) | _ => false
noncomputable def methB (K : Frag) (t : Addr × Nat × Addr) : Bool := plainGet K t.1 (nm t.2.1) && isV (findIn K (.ref t.1) (nm t.2.1)) (.ref t.2.2) && isV (some (typeIn K (.ref t.2.2))) (.type "function") && Nat.blt t.2.1 12
noncomputable def attrB (K : Frag) (t : Addr × Nat) : Bool := plainGet K t.1 (nm t.2) && hasDictIn K t.1 && (match findIn K (.ref t.1) (nm t.2) with | some a => noGet K a | _ => false) && isV (findIn K (.ref t.1) "__setattr__") (.builtin "object.__setattr__") &&
  plainOver K t.1 && (match takerIn K t.1 (nm t.2) with | some .none => true | _ => false) && Nat.blt t.2 12
noncomputable def clsB (K : Frag) (t : Addr × Addr) : Bool := makesIn K t.1 && keepIn K (.ref t.1) && isV (findIn K (.ref t.1) "__init__") (.ref t.2) && isV (some (typeIn K (.ref t.2))) (.type "function")
noncomputable def okR (b : Bool) (K : Frag) : Bool := b && gl.all (glB K) && fns.all (fun f => keepIn K (.ref f)) && nogl.all (noglB K) && meths.all (methB K) && attrs.all (attrB K) && clss.all (clsB K)
noncomputable def okB (K : Frag) : Bool := okR (fns.all (rowOk K)) K

noncomputable def nar (f : Nat) : Nat := match tbl f with | some (_, _, np) => np | .none => 99
noncomputable def nmsOf (f : Nat) : List Str := match tbl f with | some (_, n, _) => n | .none => []
/-- the functions of k arguments -/
noncomputable def fk (k : Nat) : List Nat := fns.filter fun f => !(Nat.beq f 158 || Nat.beq f 285) && Nat.beq (nar f) k
noncomputable def bnd (K : Frag) (f : Nat) (vs : List Value) : Option (Sem (List (Str × Value))) := (fdIn K f).map fun fd => bindArgs fd ⟨vs, []⟩
noncomputable def bndG (f k : Nat) (vs : List Value) : Option (Sem (List (Str × Value))) := some (pure (((nmsOf f).take k).zip vs))
noncomputable def argsG (a b : Str) (p q : Pos) (d : List PySem.Expr) : Arguments := { posonlyargs := [], args := [{ arg := a, annotation := none, pos := p }, { arg := b, annotation := none, pos := q }], vararg := none, kwonlyargs := [], kw_defaults := [], kwarg := none, defaults := d }
noncomputable def obsB (b : Bool) (K : Frag) := (okR b K, (fk 0).map (fun f => bnd K f []), (fk 1).map (fun f v0 => bnd K f [v0]), (fk 2).map (fun f v0 v1 => bnd K f [v0, v1]), (fk 3).map (fun f v0 v1 v2 => bnd K f [v0, v1, v2]), (fk 4).map (fun f v0 v1 v2 v3 => bnd K f [v0, v1, v2, v3]),
  ((fdIn K 158).map (fun fd => (fd.params, fd.defaults)), K.lookup 151), ((fdIn K 285).map (fun fd => (fd.params, fd.defaults)), K.lookup 278))
noncomputable def obsK (K : Frag) := obsB (fns.all (rowOk K)) K
theorem obsK_is (K : Frag) : obsK K = obsB (fns.all (rowOk K)) K := rfl
noncomputable def goodK := (true, (fk 0).map (fun f => bndG f 0 []), (fk 1).map (fun f v0 => bndG f 1 [v0]), (fk 2).map (fun f v0 v1 => bndG f 2 [v0, v1]), (fk 3).map (fun f v0 v1 v2 => bndG f 3 [v0, v1, v2]), (fk 4).map (fun f v0 v1 v2 v3 => bndG f 4 [v0, v1, v2, v3]),
  (some (argsG (Str.ofString "self") (Str.ofString "ahead") ⟨121, 13, 121, 17⟩ ⟨121, 19, 121, 24⟩ [.Constant (.int 0) 0 ⟨121, 25, 121, 26⟩], Value.ref 151), some ({ cls := .type "tuple", data := .seq #[.int 0 382] } : Obj)),
  (some (argsG (Str.ofString "reader") (Str.ofString "many") ⟨191, 14, 191, 20⟩ ⟨191, 22, 191, 26⟩ [.Constant (.int 4) 0 ⟨191, 27, 191, 28⟩], Value.ref 278), some ({ cls := .type "tuple", data := .seq #[.int 4 543] } : Obj)))
/-- what the end of the top is looked at for -/
noncomputable def Fits (h : Heap) : Prop := ∃ K : Frag, K.In h ∧ obsK K = goodK
noncomputable def hook : Hook := ⟨Prop, fun s => Fits s.heap, fun _ => True, fun _ h => Fits h, fun _ _ e => of_eq_true e, fun _ _ _ ⟨K, x, e⟩ k => ⟨K, x.keeps k, e⟩⟩
end Mine
end
end

section
set_option maxRecDepth 100000
open PySem PySem.W PyProof.Rows
noncomputable section
namespace Mine
noncomputable def xtv (s : Shared) : Bool := xlAt qv [] s && recOk (RowW.records PySem.Challenge.rw_pq1093_01.row.toRowW) s
noncomputable def endS (w : World) (s : Shared) : Bool := staticsOk (importedModules pw.main.body) (boot_heap w.params) s.heap && namesBound pw s.heap && gensDone s && laidKept (boot_heap w.params) s.heap
/-- all that is asked of the top's end -/
theorem end_looks (w : World) : (fun os => endS w (sM72 w os).abs) = fun _ => true := by
  delta endS
  kernel_rfl
theorem end_open (w : World) : (fun os => openSeen qv loo (importedModules pw.main.body) xtv true (sM72 w os).abs) = fun _ => openGood qv loo := by
  rw [PySem.W.Fast.te4187177175401517315]
  kernel_rfl
noncomputable abbrev kE (w : World) (os : OsState) : Frag := fragT (sM72 w os).tree (sM72 w os).n
theorem all_cut {α : Type} (n : Nat) {f : α → Bool} {l : List α} (h1 : (l.take n).all f = true) (h2 : (l.drop n).all f = true) : l.all f = true := by
  rw [← List.take_append_drop n l, List.all_append, h1, h2]; rfl
theorem end_r1 (w : World) : (fun os => (fns.take 24).all (rowOk (kE w os))) = fun _ => true := by kernel_rfl
theorem end_r2 (w : World) : (fun os => ((fns.drop 24).take 24).all (rowOk (kE w os))) = fun _ => true := by kernel_rfl
theorem end_r3 (w : World) : (fun os => ((fns.drop 24).drop 24).all (rowOk (kE w os))) = fun _ => true := by kernel_rfl
theorem end_rows (w : World) (os : OsState) : fns.all (rowOk (kE w os)) = true := all_cut 24 (congrFun (end_r1 w) os) (all_cut 24 (congrFun (end_r2 w) os) (congrFun (end_r3 w) os))
theorem end_rest (w : World) : (fun os => obsB true (kE w os)) = fun _ => goodK := by kernel_rfl
theorem end_obs (w : World) (os : OsState) : obsK (kE w os) = goodK := by
  rw [obsK_is, end_rows]; exact congrFun (end_rest w) os
theorem topRun_le {tb : String → Option Builtin} {p : Program} {w : World} {m : Nat} {an : Option Value} {n N : Nat} {s r : Shared} {t : Thread} (h : topRun tb p w m an n s t = some r) (le : n ≤ N) : topRun tb p w m an N s t = some r := by
  have := topRun_mono (N - n) _ _ _ _ h
  rwa [Nat.add_sub_cancel' le] at this
theorem top_run {w : World} {os : OsState} : topRun treeTable pw w 11 ann 6888 ⟨boot_heap w.params, #[], boot_drawn, boot_toks, os⟩ (topStub pw) = some (sM72 w os).abs := by
  have k5 := piece_app (rest := []) (segRun_of (congrFun (run72 w) os)) (fin_run (sM72 w os).abs cT posM72 posA)
  have k4 := piece_app (segRun_of (congrFun (run57 w) os)) k5
  have k3 := piece_app (segRun_of (congrFun (run42 w) os)) k4
  have k2 := piece_app (segRun_of (congrFun (run18 w) os)) k3
  have k1 := piece_app (segRun_of (congrFun (run15 w) os)) k2
  rw [List.append_nil, ← sts_all] at k1
  exact topRun_le (go_top (congrFun (pre_run w) os) (piece_block (congrFun (block_run w) os) k1)) (by decide)
theorem from_run {w : World} {os : OsState} {s : Shared} (e1 : topRun treeTable pw w 11 ann 6888 ⟨boot_heap w.params, #[], boot_drawn, boot_toks, os⟩ (topStub pw) = some s)
    (e3 : endS w s = true) : topFrom treeTable pw w 6888 ⟨boot_heap w.params, #[], boot_drawn, boot_toks, os⟩ = some s := by
  have z := size_run w
  simp only [Prod.mk.injEq] at z
  obtain ⟨z1, z2, z3⟩ := z
  unfold topFrom
  dsimp only
  rw [z1, z2, z3]
  dsimp only
  rw [e1]
  unfold endS at e3
  show (match staticsOk (importedModules pw.main.body) (boot_heap w.params) s.heap && namesBound pw s.heap && gensDone s && laidKept (boot_heap w.params) s.heap with | true => _ | false => _) = _
  rw [e3]
theorem some_map {α β γ : Type} {x : Option α} {f : α → Option β} {g : β → γ} {a : α} {b : β} {c : γ} (h1 : x = some a) (h2 : f a = some b) (h3 : g b = c) : (x.bind f).map g = some c := by rw [h1, Option.bind_some, h2, Option.map_some, h3]
theorem pair_is {α β : Type} {a a' : α} {b b' : β} (h1 : a = a') (h2 : b = b') : (a, b) = (a', b') := by rw [h1, h2]
theorem left_run : LeftO pw qv loo xtv hook.obs hook.val 6888 := fun w => by
  obtain ⟨⟨h0, gs, d, k, os⟩, e, e'⟩ := Option.map_eq_some_iff.mp (open_run w)
  simp only [Prod.mk.injEq] at e'
  obtain ⟨rfl, rfl, rfl, rfl⟩ := e'
  unfold openEnds
  exact some_map e (from_run top_run (congrFun (end_looks w) os)) (pair_is (congrFun (end_open w) os) (eq_true ⟨_, fragT_in (sM72 w os), end_obs w os⟩))
theorem law_some : (defOf qv PySem.Challenge.rw_pq1093_01.row.name).isSome = true := by kernel_rfl
noncomputable def lawD : DefRec × List (Str × PySem.Expr) := (defOf qv PySem.Challenge.rw_pq1093_01.row.name).get law_some
theorem law_def : defOf qv PySem.Challenge.rw_pq1093_01.row.name = some (lawD.1, lawD.2) := (Option.some_get law_some).symm
theorem law_the : PySem.Challenge.rw_pq1093_01.row.prog.theDef PySem.Challenge.rw_pq1093_01.row.name = some (lawD.1.params, lawD.1.body, lawD.1.scope) := by kernel_rfl
theorem law_kw : kwWritten? lawD.1.params.kwonlyargs lawD.1.params.kw_defaults = some lawD.2 := by kernel_rfl
theorem well_ok : (chainsOk qv && opensWell PySem.Challenge.rw_pq1093_01.row.prog && (frees PySem.Challenge.rw_pq1093_01.row.toRowW && PySem.Challenge.rw_pq1093_01.row.within.isEmpty)) = true := by kernel_rfl
open TablesWhole in
theorem tab_cut (n : Nat) {top : PySem.Scope} {cx : TablesWhole.Ctx} {sc : PySem.Scope} {l : List Stmt} (h1 : wSs holds top cx sc (l.take n) = true) (h2 : wSs holds top cx sc (l.drop n) = true) : wSs holds top cx sc l = true := by
  have cat : ∀ a b : List Stmt, wSs holds top cx sc a = true → wSs holds top cx sc b = true → wSs holds top cx sc (a ++ b) = true := by
    intro a b x y
    induction a with
    | nil => exact y
    | cons s r ih =>
      have z : (wS holds top cx sc s && wSs holds top cx sc r) = true := x
      rw [Bool.and_eq_true] at z
      show (wS holds top cx sc s && wSs holds top cx sc (r ++ b)) = true
      rw [z.1, ih z.2]; rfl
  rw [← List.take_append_drop n l]
  exact cat _ _ h1 h2
open TablesWhole in
theorem tab_of {m : Module} (h0 : noTwice m.scope = true) (t : wSs gather m.scope ⟨m.scope, [], [], [], none⟩ m.scope m.body = []) (h : wSs holds m.scope ⟨m.scope, [], [], [], none⟩ m.scope m.body = true) : wModule holds m = true := by
  unfold wModule
  rw [t]
  show (true && (noTwice m.scope && (wSs holds m.scope ⟨m.scope, [], [], [], none⟩ m.scope m.body && true))) = true
  rw [h0, h]; rfl
open TablesWhole in
theorem tab0 : noTwice PySem.Challenge.rw_pq1093_01.row.prog.main.scope = true := by kernel_rfl
open TablesWhole in
theorem tab1 : wSs gather PySem.Challenge.rw_pq1093_01.row.prog.main.scope ⟨PySem.Challenge.rw_pq1093_01.row.prog.main.scope, [], [], [], none⟩ PySem.Challenge.rw_pq1093_01.row.prog.main.scope PySem.Challenge.rw_pq1093_01.row.prog.main.body = [] := by
  rw [PySem.W.Fast.te16421684217811934046]; kernel_rfl
open TablesWhole in
theorem tab2 : wSs holds PySem.Challenge.rw_pq1093_01.row.prog.main.scope ⟨PySem.Challenge.rw_pq1093_01.row.prog.main.scope, [], [], [], none⟩ PySem.Challenge.rw_pq1093_01.row.prog.main.scope (PySem.Challenge.rw_pq1093_01.row.prog.main.body.take 40) = true := by
  rw [PySem.W.Fast.te16421684217811934046]; kernel_rfl
open TablesWhole in
theorem tab3 : wSs holds PySem.Challenge.rw_pq1093_01.row.prog.main.scope ⟨PySem.Challenge.rw_pq1093_01.row.prog.main.scope, [], [], [], none⟩ PySem.Challenge.rw_pq1093_01.row.prog.main.scope (PySem.Challenge.rw_pq1093_01.row.prog.main.body.drop 40) = true := by
  rw [PySem.W.Fast.te16421684217811934046]; kernel_rfl
theorem tab_prog {p : Program} (h : TablesWhole.wModule TablesWhole.holds p.main = true) (h1 : p.modules = []) (h2 : p.parses = []) (h3 : p.harvested = []) : p.tablesWhole = true := by
  unfold Program.tablesWhole TablesWhole.wProgram
  rw [h, h1, h2, h3]; rfl
theorem tables_ok : PySem.Challenge.rw_pq1093_01.row.prog.tablesWhole = true := tab_prog (tab_of tab0 tab1 (tab_cut 40 tab2 tab3)) (by kernel_rfl) (by kernel_rfl) (by kernel_rfl)
theorem head (h : WalkO qv loo (XL qv []) hook.says PySem.Challenge.rw_pq1093_01.row.toRowW lawD.1 lawD.2 fun f vs => PySem.call f vs) : PySem.Challenge.rw_pq1093_01.Holds := by
  refine holds_law said fun said => ?_
  refine holds_open (q := qv) (loose := loo) (Xt := xtv) (XP := XL qv []) (Yf := Hook.obs hook) (Ya := Hook.val hook) (YP := Hook.says hook) (N := 6888) left_run (Hook.of hook) (Hook.keeps hook) (fun s e => xl_of s (Bool.and_eq_true_iff.mp e).1) XL.keeps law_def law_the law_kw (fun s e => recFacts_of (Bool.and_eq_true_iff.mp e).2) (by rfl) said well_ok ⟨rfl, rfl, rfl, rfl, rfl, tables_ok⟩ ?_ h
  w_witness2
end Mine
end
end

section
set_option maxRecDepth 100000
open PySem PySem.W PyProof.Rows
noncomputable section
namespace Mine
theorem isV_is {a : Option (Option Value)} {v : Value} (h : isV a v = true) : a = some (some v) := by
  unfold isV at h
  split at h
  · rename_i u; rw [of_decide_eq_true h]
  · cases h
section
variable {K : Frag} (ok : obsK K = goodK)
include ok
theorem ok_all : okB K = true := congrArg (·.1) ok
theorem ok_rows : ∀ f ∈ fns, rowOk K f = true := by
  have := ok_all ok
  simp only [okB, okR, Bool.and_eq_true] at this
  exact List.all_eq_true.mp this.1.1.1.1.1.1
theorem ok_gl : ∀ p ∈ gl, glB K p = true := by
  have := ok_all ok
  simp only [okB, okR, Bool.and_eq_true] at this
  exact List.all_eq_true.mp this.1.1.1.1.1.2
theorem keepB : ∀ f ∈ fns, keepIn K (.ref f) = true := by
  have := ok_all ok
  simp only [okB, okR, Bool.and_eq_true] at this
  exact List.all_eq_true.mp this.1.1.1.1.2
theorem ok_nogl : ∀ x ∈ nogl, noglB K x = true := by
  have := ok_all ok
  simp only [okB, okR, Bool.and_eq_true] at this
  exact List.all_eq_true.mp this.1.1.1.2
theorem meths_ok : ∀ c m f, meths.contains (c, m, f) = true → MethF K c m f ∧ m < 12 := by
  intro c m f h
  rw [List.contains_iff_mem] at h
  have := ok_all ok
  simp only [okB, okR, Bool.and_eq_true] at this
  have := List.all_eq_true.mp this.1.1.2 _ h
  simp only [methB, Bool.and_eq_true] at this
  exact ⟨⟨this.1.1.1, isV_is this.1.1.2, Option.some.inj (isV_is this.1.2)⟩, Nat.le_of_ble_eq_true this.2⟩
theorem attrs_ok : ∀ c n, attrs.contains (c, n) = true → AttrF K c n ∧ n < 12 := by
  intro c m h
  rw [List.contains_iff_mem] at h
  have := ok_all ok
  simp only [okB, okR, Bool.and_eq_true] at this
  have := List.all_eq_true.mp this.1.2 _ h
  simp only [attrB, Bool.and_eq_true] at this
  obtain ⟨⟨⟨⟨⟨⟨a1, a2⟩, a3⟩, a4⟩, a5⟩, a6⟩, a7⟩ := this
  refine ⟨⟨a1, a2, ?_, isV_is a4, a5, ?_⟩, Nat.le_of_ble_eq_true a7⟩
  · split at a3
    · exact ⟨_, by assumption, a3⟩
    · cases a3
  · split at a6
    · assumption
    · cases a6
theorem clss_ok : ∀ c i, clss.contains (c, i) = true → ClsF K c i := by
  intro c m h
  rw [List.contains_iff_mem] at h
  have := ok_all ok
  simp only [okB, okR, Bool.and_eq_true] at this
  have := List.all_eq_true.mp this.2 _ h
  simp only [clsB, Bool.and_eq_true] at this
  exact ⟨this.1.1.1, this.1.1.2, isV_is this.1.2, Option.some.inj (isV_is this.2), this.1.1.2⟩
theorem mg_gl {h : Heap} {mg : Str → Option Value} (X : K.In h) (G : h.Ns mainGlobals mg) : ∀ x a, gl.lookup x = some a → mg x = some (.ref a) := by
  intro x a hl
  have h1 := ok_gl ok _ (mem_of_lookup hl)
  unfold glB at h1
  dsimp only at h1
  split at h1
  · rename_i b e
    rw [beq_iff_eq] at h1
    subst h1
    exact mg_of X G e
  · cases h1
theorem mg_no {h : Heap} {mg : Str → Option Value} (X : K.In h) (G : h.Ns mainGlobals mg) {x : Str} (hx : x ∈ nogl) : mg x = none := by
  have h1 := ok_nogl ok _ hx
  unfold noglB at h1
  split at h1
  · rename_i e; exact mg_none_of X G e
  · cases h1
/-- the world at the law's start -/
theorem world_of {p q : Program} {w : World} {loose : List Str} {mg mb : Str → Option Value} {h : Heap} (X : K.In h) (T : TopRead q loose mg mb h) (os : OsState) (M : Mods ⟨p, w, h, os⟩) : Wd ⟨p, w, h, os⟩ K mg mb :=
  ⟨X, M, T.g, T.b, T.nolimit, fun b => by
    cases b
    · exact ⟨mg_no ok X T.g (by simp [biName, nogl]), (T.builtins _ (by decide)).trans (by kernel_rfl)⟩
    · exact ⟨mg_no ok X T.g (by simp [biName, nogl]), (T.builtins _ (by decide)).trans (by kernel_rfl)⟩
    · exact ⟨mg_no ok X T.g (by simp [biName, nogl]), (T.builtins _ (by decide)).trans (by kernel_rfl)⟩, mg_no ok X T.g (by simp [nogl]), (T.builtins _ (by decide)).trans (by kernel_rfl)⟩
end
end Mine
end
end

section
set_option maxRecDepth 100000
open PySem PySem.W PyProof.Rows
noncomputable section
namespace Mine

/-- the arguments that are left out -/
noncomputable def extra : Nat → List D → List D
  | 158, [_] => [.int 0]
  | 285, [_] => [.int 4]
  | _, _ => []

noncomputable def BindF (K : Frag) (f : Nat) : Prop := ∀ fd m names np, fdIn K f = some fd → tbl f = some (m, names, np) → ∀ (ps : Ps) (h : Heap) (ds : List D) (vs : List Value), Rvs ps h ds vs → (ds ++ extra f ds).length = np →
  ∃ us, Rvs ps h (extra f ds) us ∧ ∀ s : Shared, K.In s.heap → BindsTo s fd ⟨vs, []⟩ ((names.take np).zip (vs ++ us))

theorem bindF_0 {K : Frag} {f : Nat} {m : MS} {names : List Str} (ht : tbl f = some (m, names, 0)) (he : ∀ ds, extra f ds = []) (hb : (fdIn K f).map (fun fd => bindArgs fd ⟨[], []⟩) = some (pure ((names.take 0).zip []))) : BindF K f := by
  intro fd m' names' np hfd ht' ps h ds vs r hl
  rw [ht] at ht'; cases ht'
  rw [he] at hl ⊢
  refine ⟨[], .nil, fun s X => ?_⟩
  rw [List.append_nil] at hl ⊢
  rw [r.length] at hl
  clear r
  obtain rfl : vs = [] := by cases vs with | nil => rfl | cons a r => simp at hl
  have e := hb 
  rw [hfd] at e
  exact BindsTo.of_eq (Option.some.inj e)

theorem bindF_1 {K : Frag} {f : Nat} {m : MS} {names : List Str} (ht : tbl f = some (m, names, 1)) (he : ∀ ds, extra f ds = []) (hb : ∀ v0 : Value, (fdIn K f).map (fun fd => bindArgs fd ⟨[v0], []⟩) = some (pure ((names.take 1).zip [v0]))) : BindF K f := by
  intro fd m' names' np hfd ht' ps h ds vs r hl
  rw [ht] at ht'; cases ht'
  rw [he] at hl ⊢
  refine ⟨[], .nil, fun s X => ?_⟩
  rw [List.append_nil] at hl ⊢
  rw [r.length] at hl
  clear r
  obtain ⟨v0, vs, rfl⟩ : ∃ a r, vs = a :: r := by cases vs with | nil => simp at hl | cons a r => exact ⟨a, r, rfl⟩
  obtain rfl : vs = [] := by cases vs with | nil => rfl | cons a r => simp at hl
  have e := hb v0
  rw [hfd] at e
  exact BindsTo.of_eq (Option.some.inj e)

theorem bindF_2 {K : Frag} {f : Nat} {m : MS} {names : List Str} (ht : tbl f = some (m, names, 2)) (he : ∀ ds, extra f ds = []) (hb : ∀ v0 v1 : Value, (fdIn K f).map (fun fd => bindArgs fd ⟨[v0, v1], []⟩) = some (pure ((names.take 2).zip [v0, v1]))) : BindF K f := by
  intro fd m' names' np hfd ht' ps h ds vs r hl
  rw [ht] at ht'; cases ht'
  rw [he] at hl ⊢
  refine ⟨[], .nil, fun s X => ?_⟩
  rw [List.append_nil] at hl ⊢
  rw [r.length] at hl
  clear r
  obtain ⟨v0, vs, rfl⟩ : ∃ a r, vs = a :: r := by cases vs with | nil => simp at hl | cons a r => exact ⟨a, r, rfl⟩
  obtain ⟨v1, vs, rfl⟩ : ∃ a r, vs = a :: r := by cases vs with | nil => simp at hl | cons a r => exact ⟨a, r, rfl⟩
  obtain rfl : vs = [] := by cases vs with | nil => rfl | cons a r => simp at hl
  have e := hb v0 v1
  rw [hfd] at e
  exact BindsTo.of_eq (Option.some.inj e)

theorem bindF_3 {K : Frag} {f : Nat} {m : MS} {names : List Str} (ht : tbl f = some (m, names, 3)) (he : ∀ ds, extra f ds = []) (hb : ∀ v0 v1 v2 : Value, (fdIn K f).map (fun fd => bindArgs fd ⟨[v0, v1, v2], []⟩) = some (pure ((names.take 3).zip [v0, v1, v2]))) : BindF K f := by
  intro fd m' names' np hfd ht' ps h ds vs r hl
  rw [ht] at ht'; cases ht'
  rw [he] at hl ⊢
  refine ⟨[], .nil, fun s X => ?_⟩
  rw [List.append_nil] at hl ⊢
  rw [r.length] at hl
  clear r
  obtain ⟨v0, vs, rfl⟩ : ∃ a r, vs = a :: r := by cases vs with | nil => simp at hl | cons a r => exact ⟨a, r, rfl⟩
  obtain ⟨v1, vs, rfl⟩ : ∃ a r, vs = a :: r := by cases vs with | nil => simp at hl | cons a r => exact ⟨a, r, rfl⟩
  obtain ⟨v2, vs, rfl⟩ : ∃ a r, vs = a :: r := by cases vs with | nil => simp at hl | cons a r => exact ⟨a, r, rfl⟩
  obtain rfl : vs = [] := by cases vs with | nil => rfl | cons a r => simp at hl
  have e := hb v0 v1 v2
  rw [hfd] at e
  exact BindsTo.of_eq (Option.some.inj e)

theorem bindF_4 {K : Frag} {f : Nat} {m : MS} {names : List Str} (ht : tbl f = some (m, names, 4)) (he : ∀ ds, extra f ds = []) (hb : ∀ v0 v1 v2 v3 : Value, (fdIn K f).map (fun fd => bindArgs fd ⟨[v0, v1, v2, v3], []⟩) = some (pure ((names.take 4).zip [v0, v1, v2, v3]))) : BindF K f := by
  intro fd m' names' np hfd ht' ps h ds vs r hl
  rw [ht] at ht'; cases ht'
  rw [he] at hl ⊢
  refine ⟨[], .nil, fun s X => ?_⟩
  rw [List.append_nil] at hl ⊢
  rw [r.length] at hl
  clear r
  obtain ⟨v0, vs, rfl⟩ : ∃ a r, vs = a :: r := by cases vs with | nil => simp at hl | cons a r => exact ⟨a, r, rfl⟩
  obtain ⟨v1, vs, rfl⟩ : ∃ a r, vs = a :: r := by cases vs with | nil => simp at hl | cons a r => exact ⟨a, r, rfl⟩
  obtain ⟨v2, vs, rfl⟩ : ∃ a r, vs = a :: r := by cases vs with | nil => simp at hl | cons a r => exact ⟨a, r, rfl⟩
  obtain ⟨v3, vs, rfl⟩ : ∃ a r, vs = a :: r := by cases vs with | nil => simp at hl | cons a r => exact ⟨a, r, rfl⟩
  obtain rfl : vs = [] := by cases vs with | nil => rfl | cons a r => simp at hl
  have e := hb v0 v1 v2 v3
  rw [hfd] at e
  exact BindsTo.of_eq (Option.some.inj e)

theorem binds_look {K : Frag} {fd : FuncData} {p1 p2 : Pos} {dfl : List PySem.Expr} {T : Addr} {k : Int} {tk : Tok} {s : Shared} (X : K.In s.heap)
    (hfd : fd.params = { posonlyargs := [], args := [{ arg := Str.ofString "self", annotation := none, pos := p1 }, { arg := Str.ofString "ahead", annotation := none, pos := p2 }], vararg := none, kwonlyargs := [], kw_defaults := [], kwarg := none, defaults := dfl })
    (hd : fd.defaults = .ref T) (hl : K.lookup T = some { cls := .type "tuple", data := .seq #[.int k tk] }) (v : Value) :
    BindsTo s fd ⟨[v], []⟩ [(Str.ofString "self", v), (Str.ofString "ahead", .int k tk)] ∧ ∀ u, BindsTo s fd ⟨[v, u], []⟩ [(Str.ofString "self", v), (Str.ofString "ahead", u)] := by
  obtain ⟨nm, q, pr, bd, sc, gl, cl, df, kd, dc, pm, an, cd, ct, bu⟩ := fd
  dsimp only at hfd hd
  subst hfd hd
  exact ⟨binds_K X rfl hl rfl rfl rfl, fun u => binds_K X rfl hl rfl rfl rfl⟩
theorem binds_size {K : Frag} {fd : FuncData} {p1 p2 : Pos} {dfl : List PySem.Expr} {T : Addr} {k : Int} {tk : Tok} {s : Shared} (X : K.In s.heap)
    (hfd : fd.params = { posonlyargs := [], args := [{ arg := Str.ofString "reader", annotation := none, pos := p1 }, { arg := Str.ofString "many", annotation := none, pos := p2 }], vararg := none, kwonlyargs := [], kw_defaults := [], kwarg := none, defaults := dfl })
    (hd : fd.defaults = .ref T) (hl : K.lookup T = some { cls := .type "tuple", data := .seq #[.int k tk] }) (v : Value) :
    BindsTo s fd ⟨[v], []⟩ [(Str.ofString "reader", v), (Str.ofString "many", .int k tk)] ∧ ∀ u, BindsTo s fd ⟨[v, u], []⟩ [(Str.ofString "reader", v), (Str.ofString "many", u)] := by
  obtain ⟨nm, q, pr, bd, sc, gl, cl, df, kd, dc, pm, an, cd, ct, bu⟩ := fd
  dsimp only at hfd hd
  subst hfd hd
  exact ⟨binds_K X rfl hl rfl rfl rfl, fun u => binds_K X rfl hl rfl rfl rfl⟩

theorem bind_158 {K : Frag} (ok : obsK K = goodK) : BindF K 158 := by
  intro fd m' names' np hfd ht' ps h ds vs r hl
  have e := congrArg (fun x => x.2.2.2.2.2.2.1.1) ok
  dsimp only [obsK, obsB, goodK] at e
  rw [hfd] at e
  have e1 := congrArg Prod.fst (Option.some.inj e)
  have e2 := congrArg Prod.snd (Option.some.inj e)
  have hT : K.lookup 151 = some { cls := .type "tuple", data := .seq #[.int 0 382] } := congrArg (fun x => x.2.2.2.2.2.2.1.2) ok
  obtain ⟨rfl, rfl⟩ : names' = n_look ∧ np = 2 := by
    have := Option.some.inj ht'
    simp only [Prod.mk.injEq] at this
    exact ⟨this.2.1.symm, this.2.2.symm⟩
  cases r with
  | nil => simp [extra] at hl
  | cons a r =>
    cases r with
    | nil => exact ⟨[.int 0 382], .cons (.int _ _) .nil, fun s X => (binds_look X e1 e2 hT _).1⟩
    | cons b r =>
      cases r with
      | nil => exact ⟨[], .nil, fun s X => (binds_look X e1 e2 hT _).2 _⟩
      | cons c r => simp [extra] at hl

theorem bind_285 {K : Frag} (ok : obsK K = goodK) : BindF K 285 := by
  intro fd m' names' np hfd ht' ps h ds vs r hl
  have e := congrArg (fun x => x.2.2.2.2.2.2.2.1) ok
  dsimp only [obsK, obsB, goodK] at e
  rw [hfd] at e
  have e1 := congrArg Prod.fst (Option.some.inj e)
  have e2 := congrArg Prod.snd (Option.some.inj e)
  have hT : K.lookup 278 = some { cls := .type "tuple", data := .seq #[.int 4 543] } := congrArg (fun x => x.2.2.2.2.2.2.2.2) ok
  obtain ⟨rfl, rfl⟩ : names' = n_read_size ∧ np = 2 := by
    have := Option.some.inj ht'
    simp only [Prod.mk.injEq] at this
    exact ⟨this.2.1.symm, this.2.2.symm⟩
  cases r with
  | nil => simp [extra] at hl
  | cons a r =>
    cases r with
    | nil => exact ⟨[.int 4 543], .cons (.int _ _) .nil, fun s X => (binds_size X e1 e2 hT _).1⟩
    | cons b r =>
      cases r with
      | nil => exact ⟨[], .nil, fun s X => (binds_size X e1 e2 hT _).2 _⟩
      | cons c r => simp [extra] at hl

theorem extra_no {f : Nat} (h : f ∈ fns) (h1 : f ≠ 158) (h2 : f ≠ 285) (ds : List D) : extra f ds = [] := by
  unfold extra
  split
  · exact absurd rfl h1
  · exact absurd rfl h2
  · rfl
theorem fk_is {f k : Nat} (h : f ∈ fk k) : f ∈ fns ∧ f ≠ 158 ∧ f ≠ 285 ∧ ∃ m, tbl f = some (m, nmsOf f, k) := by
  unfold fk at h
  rw [List.mem_filter] at h
  obtain ⟨h1, h2⟩ := h
  simp only [Bool.and_eq_true, Bool.not_eq_true', Bool.or_eq_false_iff] at h2
  refine ⟨h1, Nat.ne_of_beq_eq_false h2.1.1, Nat.ne_of_beq_eq_false h2.1.2, ?_⟩
  have h3 := Nat.eq_of_beq_eq_true h2.2
  unfold nar at h3
  unfold nmsOf
  split at h3
  · rename_i m n np e
    subst h3
    exact ⟨m, by rw [e]⟩
  · exfalso
    rename_i e
    have : fns.all (fun f => (tbl f).isSome) = true := by kernel_rfl
    have := List.all_eq_true.mp this _ h1
    rw [e] at this; cases this
theorem fk_all : ∀ f ∈ fns, f = 158 ∨ f = 285 ∨ f ∈ fk 0 ∨ f ∈ fk 1 ∨ f ∈ fk 2 ∨ f ∈ fk 3 ∨ f ∈ fk 4 := by
  have : fns.all (fun f => Nat.beq f 158 || (Nat.beq f 285 || ((fk 0).contains f || ((fk 1).contains f || ((fk 2).contains f || ((fk 3).contains f || (fk 4).contains f)))))) = true := by kernel_rfl
  intro f hf
  have := List.all_eq_true.mp this f hf
  simp only [Bool.or_eq_true, List.contains_iff_mem] at this
  rcases this with h | h | h
  · exact .inl (Nat.eq_of_beq_eq_true h)
  · exact .inr (.inl (Nat.eq_of_beq_eq_true h))
  · exact .inr (.inr h)
theorem map_at {α β : Type} {l : List α} {f g : α → β} (h : l.map f = l.map g) {a : α} (m : a ∈ l) : f a = g a := List.map_inj_left.mp h a m

theorem ok_b0 {K : Frag} (ok : obsK K = goodK) : (fk 0).map (fun f => bnd K f []) = (fk 0).map (fun f => bndG f 0 []) := congrArg (fun x => x.2.1) ok
theorem ok_b1 {K : Frag} (ok : obsK K = goodK) : (fk 1).map (fun f v0 => bnd K f [v0]) = (fk 1).map (fun f v0 => bndG f 1 [v0]) := congrArg (fun x => x.2.2.1) ok
theorem ok_b2 {K : Frag} (ok : obsK K = goodK) : (fk 2).map (fun f v0 v1 => bnd K f [v0, v1]) = (fk 2).map (fun f v0 v1 => bndG f 2 [v0, v1]) := congrArg (fun x => x.2.2.2.1) ok
theorem ok_b3 {K : Frag} (ok : obsK K = goodK) : (fk 3).map (fun f v0 v1 v2 => bnd K f [v0, v1, v2]) = (fk 3).map (fun f v0 v1 v2 => bndG f 3 [v0, v1, v2]) := congrArg (fun x => x.2.2.2.2.1) ok
theorem ok_b4 {K : Frag} (ok : obsK K = goodK) : (fk 4).map (fun f v0 v1 v2 v3 => bnd K f [v0, v1, v2, v3]) = (fk 4).map (fun f v0 v1 v2 v3 => bndG f 4 [v0, v1, v2, v3]) := congrArg (fun x => x.2.2.2.2.2.1) ok
theorem bind_ok {K : Frag} (ok : obsK K = goodK) : ∀ f ∈ fns, BindF K f := by
  intro f hf
  rcases fk_all f hf with rfl | rfl | h | h | h | h | h
  · exact bind_158 ok
  · exact bind_285 ok
  · obtain ⟨h0, h1, h2, m, h3⟩ := fk_is h
    exact bindF_0 h3 (extra_no h0 h1 h2) (map_at (ok_b0 ok) h)
  · obtain ⟨h0, h1, h2, m, h3⟩ := fk_is h
    exact bindF_1 h3 (extra_no h0 h1 h2) (fun v0 => congrFun (map_at (ok_b1 ok) h) v0)
  · obtain ⟨h0, h1, h2, m, h3⟩ := fk_is h
    exact bindF_2 h3 (extra_no h0 h1 h2) (fun v0 v1 => congrFun (congrFun (map_at (ok_b2 ok) h) v0) v1)
  · obtain ⟨h0, h1, h2, m, h3⟩ := fk_is h
    exact bindF_3 h3 (extra_no h0 h1 h2) (fun v0 v1 v2 => congrFun (congrFun (congrFun (map_at (ok_b3 ok) h) v0) v1) v2)
  · obtain ⟨h0, h1, h2, m, h3⟩ := fk_is h
    exact bindF_4 h3 (extra_no h0 h1 h2) (fun v0 v1 v2 v3 => congrFun (congrFun (congrFun (congrFun (map_at (ok_b4 ok) h) v0) v1) v2) v3)

/-- what a function does, by its small form; so deep may the calls go -/
noncomputable def SpN : Nat → Spec
  | 0 => fun _ _ _ _ => False
  | n + 1 => fun f ds st k => match tbl f with
    | some (m, names, np) => (ds ++ extra f ds).length = np ∧ X (SpN n) m ⟨(ds ++ extra f ds).map some ++ List.replicate (names.length - np) none, st⟩ (fun fl σ => match fl with | .next => k .none σ.st | .ret d => k d σ.st)
    | .none => False

theorem fnF_of {K : Frag} {f : Nat} {fd : FuncData} (hfd : fdIn K f = some fd) (h : fnB K fd = true) : FnF K f fd (bodyOf fd) := by
  simp only [fnB, Bool.and_eq_true, beq_iff_eq, List.isEmpty_iff, Bool.not_eq_true', decide_eq_true_eq, List.all_eq_true, Bool.or_eq_true] at h
  obtain ⟨⟨⟨⟨⟨⟨⟨⟨⟨h1, h2⟩, h3⟩, h4⟩, h5⟩, h6⟩, h7⟩, h8⟩, h9⟩, h10⟩ := h
  refine ⟨?_, h1, h2, h3, ?_, h5, h6, h7, h8, h9, fun x hx => ?_⟩
  · unfold fdIn at hfd
    split at hfd
    · rename_i e; cases hfd; exact ⟨_, _, _, e⟩
    · cases hfd
  · unfold bodyOf
    split at h4
    · rename_i e; rw [e]
    · cases h4
  · have := h10 _ (mem_of_lookup hx)
    simpa using this

/-- THE WALK: every function of the table does what its small form says -/
theorem walk {B : Base} {K : Frag} (ok : obsK K = goodK) {mg mb : Str → Option Value} (W : Wd B K mg mb) : ∀ (n : Nat) (f : Nat), f ∈ fns → CallOk B (SpN n) n f := by
  intro n
  induction n with
  | zero => intro f _ A _ ds vs st k ps s R _ _ _ _ hk; exact hk.elim
  | succ n ih =>
    intro f hf
    have hr := ok_rows ok f hf
    have hb := bind_ok ok f hf
    unfold rowOk at hr
    split at hr
    · rename_i fd m names np hfd ht
      simp only [Bool.and_eq_true, decide_eq_true_eq, List.all_eq_true, Bool.or_eq_true, beq_iff_eq] at hr
      obtain ⟨⟨⟨⟨hfn, hnd⟩, hnp⟩, hkn⟩, hm⟩ := hr
      have FF := fnF_of hfd hfn
      refine entry (SP := SpN n) (cx := cxOf fd names) (ps0 := names.take np) (rest := names.drop np) W FF (m := m) (fun L A' r1 r2 => ?_) hm (List.take_append_drop np names).symm hnd hkn ?_
      · refine ⟨W, FF.kind, rfl, fun _ => rfl, FF.glo, FF.bui, r1, r2, mg_gl ok W.X W.g, fun g hg => ?_, meths_ok ok, attrs_ok ok, clss_ok ok⟩
        have hg' : g ∈ fns := hasSign_mem hg
        exact ⟨ih g hg', keepB ok g hg'⟩
      · intro ds st k hk
        simp only [SpN, ht] at hk
        obtain ⟨hl, hX⟩ := hk
        refine ⟨extra f ds, by rw [hl, List.length_take]; omega, fun ps h vs r => hb fd m names np hfd ht ps h ds vs r hl, ?_⟩
        rw [List.length_drop]
        exact hX
    · cases hr
end Mine
end
end

section
set_option maxRecDepth 100000
namespace Mine
theorem Br.t {b : Bool} {P Q : Prop} (e : b = true) (h : P) : Br b P Q := ⟨fun _ => h, fun e' => by rw [e] at e'; cases e'⟩
theorem Br.f {b : Bool} {P Q : Prop} (e : b = false) (h : Q) : Br b P Q := ⟨fun e' => (by rw [e] at e'; cases e'), fun _ => h⟩

noncomputable abbrev wd : List Nat := [119, 111, 114, 100]
noncomputable abbrev sg : List Nat := [115, 116, 114, 105, 110, 103]
noncomputable abbrev tk (k x : List Nat) (a b : D) : D := .tup [.str k, .str x, a, b]
/-- the reader stands at a token -/
structure Rdr (st : List O) (r t : Nat) (toks : List D) (at' : Nat) : Prop where
  ins : ∃ a2 a3 a4 a5, st[r]? = some (.ins 217 [(0, .obj t), (1, .int at'), (2, a2), (3, a3), (4, a4), (5, a5)])
  lst : st[t]? = some (.lst toks)
  len : toks.length ≤ 1000000
  ne : r ≠ t
/-- nothing but the reader turned -/
structure Grow (r : Nat) (st st' : List O) : Prop where
  len : st.length ≤ st'.length
  keep : ∀ i : Nat, i < st.length → i ≠ r → st'[i]? = st[i]?
theorem Grow.refl (r st) : Grow r st st := ⟨Nat.le_refl _, fun _ _ _ => rfl⟩
theorem Grow.trans {r st1 st2 st3} (a : Grow r st1 st2) (b : Grow r st2 st3) : Grow r st1 st3 := ⟨Nat.le_trans a.len b.len, fun i h n => (b.keep i (Nat.lt_of_lt_of_le h a.len) n).trans (a.keep i h n)⟩

theorem nth_some {α : Type} {l : List α} {i : Nat} {x : α} (h : l[i]? = some x) : nth l i = some x := by rw [nth_eq]; exact h
theorem m6 {n : Nat} (h : n ≤ 1000000) : n ≤ line := Nat.le_trans h (by decide)
theorem leq_self (l : List Nat) : leq l l = true := by rw [leq_eq]; simp
theorem leq_ne {a b : List Nat} (h : a ≠ b) : leq a b = false := by rw [leq_eq]; exact decide_eq_false h
theorem at_lt {α : Type} {l : List α} {i : Nat} {x : α} (h : l[i]? = some x) : i < l.length := (List.getElem?_eq_some_iff.mp h).1
theorem of_nth {α : Type} {l : List α} {i : Nat} {x : α} (h : l[i]? = some x) {P : α → Prop} (p : P x) : match nth l i with | some c => P c | .none => False := by rw [nth_some h]; exact p

noncomputable def S158 (N : Nat) : Prop := ∀ (st : List O) (r t : Nat) (toks : List D) (p : Nat) (d : D) (K : D → List O → Prop), Rdr st r t toks p → toks[p]? = some d → K d st → SpN N 158 [.obj r] st K
noncomputable def S158b (N : Nat) : Prop := ∀ (st : List O) (r t : Nat) (toks : List D) (p : Nat) (d : D) (K : D → List O → Prop), Rdr st r t toks p → toks[p + 1]? = some d → K d st → SpN N 158 [.obj r, .int 1] st K
noncomputable def S165 (N : Nat) : Prop := ∀ (st : List O) (r t : Nat) (toks : List D) (p : Nat) (d : D) (K : D → List O → Prop), Rdr st r t toks p → toks[p]? = some d → (∀ st', Rdr st' r t toks (p + 1) → Grow r st st' → K d st') → SpN N 165 [.obj r] st K
noncomputable def S179 (N : Nat) : Prop := ∀ (st : List O) (r t : Nat) (toks : List D) (p : Nat) (k x w : List Nat) (a b : D) (K : D → List O → Prop), Rdr st r t toks p → toks[p]? = some (tk k x a b) → K (.bool (leq k wd && leq x w)) st → SpN N 179 [.obj r, .str w] st K

theorem Rdr.c8 {st r t toks p} (R : Rdr st r t toks p) {P : Prop} (h : P) : ∃ kvs, st[r]? = some (O.ins 217 kvs) ∧ aget 8 kvs = none ∧ P := by
  obtain ⟨⟨a2, a3, a4, a5, hr⟩, _⟩ := R; exact ⟨_, hr, rfl, h⟩
theorem Rdr.c9 {st r t toks p} (R : Rdr st r t toks p) {P : Prop} (h : P) : ∃ kvs, st[r]? = some (O.ins 217 kvs) ∧ aget 9 kvs = none ∧ P := by
  obtain ⟨⟨a2, a3, a4, a5, hr⟩, _⟩ := R; exact ⟨_, hr, rfl, h⟩
theorem Rdr.c10 {st r t toks p} (R : Rdr st r t toks p) {P : Prop} (h : P) : ∃ kvs, st[r]? = some (O.ins 217 kvs) ∧ aget 10 kvs = none ∧ P := by
  obtain ⟨⟨a2, a3, a4, a5, hr⟩, _⟩ := R; exact ⟨_, hr, rfl, h⟩
theorem p158 (N : Nat) : S158 (N + 1) := by
  intro st r t toks p d K R hd k
  have hlt := at_lt hd
  obtain ⟨⟨a2, a3, a4, a5, hr⟩, hl, hlen, _⟩ := R
  refine ⟨rfl, ?_⟩
  conv => whnf
  repeat (first | assumption | (refine ⟨_, hr, ?_⟩; conv => whnf) | (refine ⟨_, rfl, ?_⟩; conv => whnf) | (refine Br.t rfl ?_; conv => whnf) | (refine Br.f rfl ?_; conv => whnf) | (refine ⟨Nat.le_of_ble_eq_true rfl, ?_⟩; conv => whnf) | (refine ⟨by decide, ?_⟩; conv => whnf))
  refine ⟨_, hl, m6 hlen, Br.f (decide_eq_false (by omega)) ?_⟩
  conv => whnf
  repeat (first | assumption | (refine ⟨_, hr, ?_⟩; conv => whnf) | (refine ⟨_, rfl, ?_⟩; conv => whnf) | (refine Br.t rfl ?_; conv => whnf) | (refine Br.f rfl ?_; conv => whnf) | (refine ⟨Nat.le_of_ble_eq_true rfl, ?_⟩; conv => whnf) | (refine ⟨by decide, ?_⟩; conv => whnf))
  refine ⟨_, hl, m6 hlen, ?_⟩
  rw [nth_some (i := p + 0) hd]
  exact k
theorem p158b (N : Nat) : S158b (N + 1) := by
  intro st r t toks p d K R hd k
  have hlt := at_lt hd
  obtain ⟨⟨a2, a3, a4, a5, hr⟩, hl, hlen, _⟩ := R
  refine ⟨rfl, ?_⟩
  conv => whnf
  repeat (first | assumption | (refine ⟨_, hr, ?_⟩; conv => whnf) | (refine ⟨_, rfl, ?_⟩; conv => whnf) | (refine Br.t rfl ?_; conv => whnf) | (refine Br.f rfl ?_; conv => whnf) | (refine ⟨Nat.le_of_ble_eq_true rfl, ?_⟩; conv => whnf) | (refine ⟨by decide, ?_⟩; conv => whnf))
  refine ⟨_, hl, m6 hlen, Br.f (decide_eq_false (by omega)) ?_⟩
  conv => whnf
  repeat (first | assumption | (refine ⟨_, hr, ?_⟩; conv => whnf) | (refine ⟨_, rfl, ?_⟩; conv => whnf) | (refine Br.t rfl ?_; conv => whnf) | (refine Br.f rfl ?_; conv => whnf) | (refine ⟨Nat.le_of_ble_eq_true rfl, ?_⟩; conv => whnf) | (refine ⟨by decide, ?_⟩; conv => whnf))
  refine ⟨_, hl, m6 hlen, ?_⟩
  rw [nth_some hd]
  exact k
theorem p165 (N : Nat) (h : S158 N) : S165 (N + 1) := by
  intro st r t toks p d K R hd k
  refine ⟨rfl, ?_⟩
  conv => whnf
  refine R.c8 ?_
  conv => whnf
  refine h st r t toks p d _ R hd ?_
  obtain ⟨⟨a2, a3, a4, a5, hr⟩, hl, hlen, hne⟩ := R
  conv => whnf
  repeat (first | assumption | (refine ⟨_, hr, ?_⟩; conv => whnf) | (refine ⟨_, rfl, ?_⟩; conv => whnf) | (refine Br.t rfl ?_; conv => whnf) | (refine Br.f rfl ?_; conv => whnf) | (refine ⟨Nat.le_of_ble_eq_true rfl, ?_⟩; conv => whnf) | (refine ⟨by decide, ?_⟩; conv => whnf))
  refine k _ ?_ ?_
  · have hrl := at_lt hr
    refine ⟨⟨a2, a3, a4, a5, ?_⟩, ?_, hlen, hne⟩
    · exact List.getElem?_set_self hrl
    · exact (List.getElem?_set_ne hne).trans hl
  · exact ⟨by simp [St.upd, St.put], fun i hi hn => List.getElem?_set_ne (Ne.symm hn)⟩
theorem p179 (N : Nat) (h : S158 N) : S179 (N + 1) := by
  intro st r t toks p kk x w a b K R hd k
  refine ⟨rfl, ?_⟩
  conv => whnf
  refine R.c8 ?_
  conv => whnf
  refine h st r t toks p _ _ R hd ?_
  conv => whnf
  repeat (first | assumption | (refine ⟨_, rfl, ?_⟩; conv => whnf) | (refine Br.t rfl ?_; conv => whnf) | (refine Br.f rfl ?_; conv => whnf) | (refine ⟨Nat.le_of_ble_eq_true rfl, ?_⟩; conv => whnf) | (refine ⟨by decide, ?_⟩; conv => whnf))
  cases e : leq kk wd with
  | false => rw [e] at k; exact Br.f rfl k
  | true =>
    rw [e] at k
    refine Br.t rfl ?_
    conv => whnf
    repeat (first | assumption | (refine ⟨_, rfl, ?_⟩; conv => whnf) | (refine Br.t rfl ?_; conv => whnf) | (refine Br.f rfl ?_; conv => whnf) | (refine ⟨Nat.le_of_ble_eq_true rfl, ?_⟩; conv => whnf) | (refine ⟨by decide, ?_⟩; conv => whnf))
end Mine
end

section
set_option maxRecDepth 100000
namespace Mine
noncomputable abbrev hexd : List Nat := [48, 49, 50, 51, 52, 53, 54, 55, 56, 57, 97, 98, 99, 100, 101, 102]
noncomputable def dig (c : Nat) : Int := findSign (lowerSign c) hexd
/-- the figures spell the number -/
inductive Dg (b : Int) : Int → List Nat → Int → Prop
  | nil (a) : Dg b a [] a
  | cons {a c r n} : c < 128 → 0 ≤ dig c → dig c < b → 0 ≤ a → a < 2 ^ 180 → Dg b (a * b + dig c) r n → Dg b a (c :: r) n
noncomputable def S80 (N : Nat) : Prop := ∀ (w : List Nat) (b n : Int) (st : List O) (K : D → List O → Prop), 2 ≤ b → b ≤ 16 → w ≠ [] → w.length ≤ 1000 → Dg b 0 w n → K (.int n) st → SpN N 80 [.str w, .int b] st K

theorem loop80 (N : Nat) (w0 : List Nat) (b : Int) (hb : 2 ≤ b) (hb' : b ≤ 16) (st : List O) (K : Fl → St → Prop) : ∀ (w : List Nat) (a n : Int) (x3 x4 : Option D), Dg b a w n → (∀ x3 x4, K .next ⟨[some (.str w0), some (.int b), some (.int n), x3, x4], st⟩) →
    forn (X (SpN N) b0_based_number) 3 K (w.map fun c => .str [c]) ⟨[some (.str w0), some (.int b), some (.int a), x3, x4], st⟩ := by
  intro w
  induction w with
  | nil => intro a n x3 x4 h k; cases h; exact k x3 x4
  | cons c r ih =>
    intro a n x3 x4 h k
    cases h with | cons h1 h2 h3 h4 h5 h6 =>
    conv => whnf
    refine ⟨trivial, ?_⟩
    conv => whnf
    refine ⟨trivial, ?_⟩
    conv => whnf
    refine ⟨⟨fun c' hc' => ?_, Nat.le_of_ble_eq_true rfl⟩, ?_⟩
    · simp at hc'; omega
    conv => whnf
    refine ⟨Nat.le_of_ble_eq_true rfl, ?_⟩
    conv => whnf
    refine Br.f (decide_eq_false (by show ¬ dig c < 0; omega)) ?_
    conv => whnf
    refine Br.f (decide_eq_false (by show ¬ b ≤ dig c; omega)) ?_
    conv => whnf
    refine ⟨⟨by omega, by omega⟩, ?_⟩
    exact ih _ n _ _ h6 k
theorem p80 (N : Nat) : S80 (N + 1) := by
  intro w b n st K hb hb' hw hl hd k
  refine ⟨rfl, ?_⟩
  conv => whnf
  refine Br.f (leq_ne hw) ?_
  conv => whnf
  refine ⟨_, rfl, ?_, ?_⟩
  · rw [List.length_map]; exact Nat.le_trans hl (by decide)
  exact loop80 N w b hb hb' st _ w 0 n _ _ hd fun x3 x4 => by
    conv => whnf
    exact k

noncomputable def Num (w : List Nat) (n : Int) : Prop := w.length ≤ 1000 ∧ ((∃ h, w = 48 :: 120 :: h ∧ h ≠ [] ∧ Dg 16 0 h n) ∨ (w ≠ [] ∧ leq (w.take 2) [48, 120] = false ∧ Dg 10 0 w n))
noncomputable def S87 (N : Nat) : Prop := ∀ (w : List Nat) (n : Int) (st : List O) (K : D → List O → Prop), Num w n → K (.int n) st → SpN N 87 [.str w] st K
theorem small_none : small none := fun k h => by cases h
theorem small_two : small (some 2) := fun k h => by cases h; decide
theorem cut2 (w : List Nat) : cut w none (some 2) = w.take 2 := by
  show (w.drop 0).take (PySem.clipAt w.length ((2 : Nat) : Int) - 0) = _
  rw [PySem.clipAt_nat, List.drop_zero, Nat.sub_zero, ← List.take_eq_take_min]
theorem clip_of {n : Nat} {k : Nat} (h : k ≤ n) : PySem.clipAt n (k : Int) = k := by
  rw [PySem.clipAt_nat, Nat.min_eq_left h]
theorem cut_from {α : Type} (p w : List α) (k : Nat) (hk : p.length = k) : cut (p ++ w) (some (k : Int)) none = w := by
  subst hk
  simp only [cut, Option.elim]
  rw [clip_of (by simp)]
  simp
theorem cut2' (w : List Nat) : cut (48 :: 120 :: w) (some 2) none = w := cut_from [48, 120] w 2 rfl
theorem p87 (N : Nat) (h80 : S80 N) : S87 (N + 1) := by
  intro w n st K hn k
  obtain ⟨hl, hn⟩ := hn
  refine ⟨rfl, ?_⟩
  conv => whnf
  refine ⟨⟨small_none, small_two, Nat.le_trans hl (by decide)⟩, ?_⟩
  conv => whnf
  rcases hn with ⟨h, rfl, hne, hd⟩ | ⟨hne, h2, hd⟩
  · refine Br.t (by rw [cut2]; rfl) ?_
    conv => whnf
    refine ⟨⟨small_two, small_none, Nat.le_trans hl (by decide)⟩, ?_⟩
    conv => whnf
    rw [cut2']
    exact h80 h 16 n st _ (by decide) (by decide) hne (by simp at hl; omega) hd k
  · refine Br.f (by rw [cut2]; exact h2) ?_
    conv => whnf
    exact h80 w 10 n st _ (by decide) (by decide) hne hl hd k

/-- number_here, number_to -/
noncomputable def S235 (N : Nat) : Prop := ∀ (st : List O) (r t : Nat) (toks : List D) (p : Nat) (x : List Nat) (a b : D) (n : Int) (K : D → List O → Prop), Rdr st r t toks p → toks[p]? = some (tk wd x a b) → Num x n → (∀ st', Rdr st' r t toks (p + 1) → Grow r st st' → K (.int n) st') → SpN N 235 [.obj r] st K
noncomputable def S256 (N : Nat) : Prop := ∀ (st : List O) (r t : Nat) (toks : List D) (p : Nat) (x : List Nat) (a b : D) (n m : Int) (K : D → List O → Prop), Rdr st r t toks p → toks[p]? = some (tk wd x a b) → Num x n → n ≤ m → (∀ st', Rdr st' r t toks (p + 1) → Grow r st st' → K (.int n) st') → SpN N 256 [.obj r, .int m] st K
theorem p235 (N : Nat) (h158 : S158 N) (h165 : S165 N) (h87 : S87 N) : S235 (N + 1) := by
  intro st r t toks p x a b n K R hd hn k
  refine ⟨rfl, ?_⟩
  conv => whnf
  refine R.c8 ?_
  conv => whnf
  refine h158 st r t toks p _ _ R hd ?_
  conv => whnf
  repeat (first | assumption | (refine ⟨_, rfl, ?_⟩; conv => whnf) | (refine Br.t rfl ?_; conv => whnf) | (refine Br.f rfl ?_; conv => whnf) | (refine ⟨Nat.le_of_ble_eq_true rfl, ?_⟩; conv => whnf) | (refine ⟨by decide, ?_⟩; conv => whnf))
  refine h87 x n _ _ hn ?_
  conv => whnf
  repeat (first | assumption | (refine ⟨_, rfl, ?_⟩; conv => whnf) | (refine Br.t rfl ?_; conv => whnf) | (refine Br.f rfl ?_; conv => whnf) | (refine ⟨Nat.le_of_ble_eq_true rfl, ?_⟩; conv => whnf) | (refine ⟨by decide, ?_⟩; conv => whnf))
  refine R.c9 ?_
  conv => whnf
  refine h165 st r t toks p _ _ R hd fun st' R' G' => ?_
  conv => whnf
  exact k st' R' G'
theorem p256 (N : Nat) (h158 : S158 N) (h87 : S87 N) (h235 : S235 N) : S256 (N + 1) := by
  intro st r t toks p x a b n m K R hd hn hm k
  refine ⟨rfl, ?_⟩
  conv => whnf
  refine R.c8 ?_
  conv => whnf
  refine h158 st r t toks p _ _ R hd ?_
  conv => whnf
  repeat (first | assumption | (refine ⟨_, rfl, ?_⟩; conv => whnf) | (refine Br.t rfl ?_; conv => whnf) | (refine Br.f rfl ?_; conv => whnf) | (refine ⟨Nat.le_of_ble_eq_true rfl, ?_⟩; conv => whnf) | (refine ⟨by decide, ?_⟩; conv => whnf))
  refine h87 x n _ _ hn ?_
  conv => whnf
  repeat (first | assumption | (refine ⟨_, rfl, ?_⟩; conv => whnf) | (refine Br.t rfl ?_; conv => whnf) | (refine Br.f rfl ?_; conv => whnf) | (refine ⟨Nat.le_of_ble_eq_true rfl, ?_⟩; conv => whnf) | (refine ⟨by decide, ?_⟩; conv => whnf))
  refine Br.f (decide_eq_false (by omega)) ?_
  conv => whnf
  exact h235 st r t toks p x a b n _ R hd hn k
/-- keyword, read_text -/
noncomputable def S242 (N : Nat) : Prop := ∀ (st : List O) (r t : Nat) (toks : List D) (p : Nat) (x : List Nat) (a b : D) (K : D → List O → Prop), Rdr st r t toks p → toks[p]? = some (tk wd x a b) → (∀ st', Rdr st' r t toks (p + 1) → Grow r st st' → K .none st') → SpN N 242 [.obj r, .str x] st K
noncomputable def S263 (N : Nat) : Prop := ∀ (st : List O) (r t : Nat) (toks : List D) (p : Nat) (kk x : List Nat) (a b : D) (K : D → List O → Prop), Rdr st r t toks p → toks[p]? = some (tk kk x a b) → (kk = wd ∨ kk = sg) → (∀ st', Rdr st' r t toks (p + 1) → Grow r st st' → K (.str x) st') → SpN N 263 [.obj r] st K
theorem p242 (N : Nat) (h179 : S179 N) (h165 : S165 N) : S242 (N + 1) := by
  intro st r t toks p x a b K R hd k
  refine ⟨rfl, ?_⟩
  conv => whnf
  refine R.c10 ?_
  conv => whnf
  refine h179 st r t toks p _ _ _ _ _ _ R hd ?_
  conv => whnf
  refine Br.f (by simp [leq_self]) ?_
  conv => whnf
  refine R.c9 ?_
  conv => whnf
  refine h165 st r t toks p _ _ R hd fun st' R' G' => ?_
  conv => whnf
  exact k st' R' G'
theorem p263 (N : Nat) (h158 : S158 N) (h165 : S165 N) : S263 (N + 1) := by
  intro st r t toks p kk x a b K R hd hk k
  refine ⟨rfl, ?_⟩
  conv => whnf
  refine R.c8 ?_
  conv => whnf
  refine h158 st r t toks p _ _ R hd ?_
  conv => whnf
  refine ⟨Nat.le_of_ble_eq_true rfl, ?_⟩
  conv => whnf
  refine Br.f (by rcases hk with rfl | rfl <;> rfl) ?_
  conv => whnf
  refine R.c9 ?_
  conv => whnf
  refine h165 st r t toks p _ _ R hd fun st' R' G' => ?_
  conv => whnf
  refine ⟨Nat.le_of_ble_eq_true rfl, ?_⟩
  exact k st' R' G'
end Mine
end

section
set_option maxRecDepth 100000
namespace Mine
noncomputable abbrev w_bytes : List Nat := [98, 121, 116, 101, 115]
noncomputable abbrev w_kbytes : List Nat := [107, 98, 121, 116, 101, 115]
noncomputable abbrev w_mbytes : List Nat := [109, 98, 121, 116, 101, 115]
noncomputable abbrev w_gbytes : List Nat := [103, 98, 121, 116, 101, 115]
noncomputable abbrev w_over : List Nat := [111, 118, 101, 114]
noncomputable abbrev w_until : List Nat := [117, 110, 116, 105, 108]
noncomputable abbrev w_name : List Nat := [110, 97, 109, 101]
noncomputable abbrev w_packets : List Nat := [112, 97, 99, 107, 101, 116, 115]
noncomputable abbrev w_used : List Nat := [117, 115, 101, 100]
noncomputable abbrev w_burst : List Nat := [98, 117, 114, 115, 116]
noncomputable abbrev w_rate : List Nat := [114, 97, 116, 101]
noncomputable abbrev w_prefix : List Nat := [112, 114, 101, 102, 105, 120]
noncomputable abbrev w_level : List Nat := [108, 101, 118, 101, 108]
noncomputable abbrev w_counter : List Nat := [99, 111, 117, 110, 116, 101, 114]
noncomputable abbrev w_quota : List Nat := [113, 117, 111, 116, 97]
noncomputable abbrev w_limit : List Nat := [108, 105, 109, 105, 116]
noncomputable abbrev w_log : List Nat := [108, 111, 103]
noncomputable abbrev w_notrack : List Nat := [110, 111, 116, 114, 97, 99, 107]
noncomputable abbrev w_object : List Nat := [111, 98, 106, 101, 99, 116]
noncomputable abbrev w_warn : List Nat := [119, 97, 114, 110]
noncomputable abbrev w_eof : List Nat := [101, 111, 102]
noncomputable def un : Nat → List Nat
  | 0 => w_bytes | 1 => w_kbytes | 2 => w_mbytes | _ => w_gbytes
noncomputable def At (toks : List D) (p : Nat) (x : List Nat) : Prop := ∃ a b, toks[p]? = some (tk wd x a b)
noncomputable def AtS (toks : List D) (p : Nat) (x : List Nat) : Prop := ∃ kk a b, (kk = wd ∨ kk = sg) ∧ toks[p]? = some (tk kk x a b)
/-- the next sign is none of these words -/
noncomputable def Nt (toks : List D) (p : Nat) (xs : List (List Nat)) : Prop := ∃ kk x a b, toks[p]? = some (tk kk x a b) ∧ ∀ y ∈ xs, (leq kk wd && leq x y) = false
noncomputable abbrev top64 : Int := 18446744073709551615

noncomputable def S270 (N : Nat) : Prop := ∀ (i many : Nat) (st : List O) (K : D → List O → Prop), i < many → (many = 3 ∨ many = 4) → K (.int (1024 ^ i)) st → SpN N 270 [.str (un i), .int many] st K
theorem p270 (N : Nat) : S270 (N + 1) := by
  intro i many st K hi hm k
  refine ⟨rfl, ?_⟩
  conv => whnf
  refine ⟨⟨by omega, by omega, by decide⟩, ?_⟩
  conv => whnf
  have hi4 : i = 0 ∨ i = 1 ∨ i = 2 ∨ i = 3 := by omega
  rcases hm with rfl | rfl
  · have hi4 : i = 0 ∨ i = 1 ∨ i = 2 := by omega
    rcases hi4 with rfl | rfl | rfl <;>
    · refine Br.t rfl ?_
      conv => whnf
      refine ⟨trivial, ?_⟩
      conv => whnf
      refine ⟨⟨by decide, rfl⟩, ?_⟩
      conv => whnf
      refine ⟨by decide, ?_⟩
      exact k
  · rcases hi4 with rfl | rfl | rfl | rfl <;>
    · refine Br.t rfl ?_
      conv => whnf
      refine ⟨trivial, ?_⟩
      conv => whnf
      refine ⟨⟨by decide, rfl⟩, ?_⟩
      conv => whnf
      refine ⟨by decide, ?_⟩
      exact k
noncomputable def S277 (N : Nat) : Prop := ∀ (d : D) (n u : Int) (st : List O) (K : D → List O → Prop), 0 ≤ n → n ≤ top64 → 0 ≤ u → u ≤ 2 ^ 40 → n * u ≤ top64 → K (.int (n * u)) st → SpN N 277 [d, .int n, .int u] st K
theorem p277 (N : Nat) : S277 (N + 1) := by
  intro d n u st K h0 h1 h2 h3 h4 k
  have ht : top64 = 18446744073709551615 := rfl
  refine ⟨rfl, ?_⟩
  conv => whnf
  refine ⟨⟨by omega, by omega⟩, ?_⟩
  conv => whnf
  refine ⟨by decide, ?_⟩
  conv => whnf
  refine Br.f (decide_eq_false (by show ¬ (2 : Int) ^ 64 ≤ n * u; omega)) ?_
  conv => whnf
  refine ⟨⟨by omega, by omega⟩, ?_⟩
  exact k

/-- a size: a number and a unit -/
structure Sz (toks : List D) (p : Nat) (many : Nat) (v : Int) : Prop where
  ex : ∃ x n i, At toks p x ∧ Num x n ∧ 0 ≤ n ∧ n ≤ top64 ∧ At toks (p + 1) (un i) ∧ i < many ∧ v = n * 1024 ^ i ∧ v ≤ top64
noncomputable def S285 (N : Nat) : Prop := ∀ (st : List O) (r t : Nat) (toks : List D) (p : Nat) (many : Nat) (v : Int) (K : D → List O → Prop), Rdr st r t toks p → Sz toks p many v → (many = 3 ∨ many = 4) → (∀ st', Rdr st' r t toks (p + 2) → Grow r st st' → K (.int v) st') →
  SpN N 285 [.obj r, .int many] st K ∧ (many = 4 → SpN N 285 [.obj r] st K)
theorem pow40 {i : Nat} (h : i < 4) : (1024 : Int) ^ i ≤ 2 ^ 40 ∧ 0 < (1024 : Int) ^ i := by
  have : i = 0 ∨ i = 1 ∨ i = 2 ∨ i = 3 := by omega
  rcases this with rfl | rfl | rfl | rfl <;> decide
theorem p285 (N : Nat) (h256 : S256 N) (h158 : S158 N) (h270 : S270 N) (h277 : S277 N) (h165 : S165 N) : S285 (N + 1) := by
  intro st r t toks p many v K R hz hm k
  obtain ⟨x, n, i, ⟨a, b, hx⟩, hn, h0, h1, ⟨a', b', hu⟩, hi, hv, hv'⟩ := hz
  have hi4 : i < 4 := by omega
  have key : X (SpN N) m_read_size ⟨[some (.obj r), some (.int many), none, none, none, none], st⟩ (fun fl σ => match fl with | .next => K .none σ.st | .ret d => K d σ.st) := by
    conv => whnf
    refine ⟨by decide, ?_⟩
    conv => whnf
    refine h256 st r t toks p x a b n _ _ R hx hn h1 fun st1 R1 G1 => ?_
    conv => whnf
    refine R1.c8 ?_
    conv => whnf
    refine h158 st1 r t toks (p + 1) _ _ R1 hu ?_
    conv => whnf
    repeat (first | assumption | (refine ⟨_, rfl, ?_⟩; conv => whnf) | (refine Br.t rfl ?_; conv => whnf) | (refine Br.f rfl ?_; conv => whnf) | (refine ⟨Nat.le_of_ble_eq_true rfl, ?_⟩; conv => whnf) | (refine ⟨by decide, ?_⟩; conv => whnf))
    refine h270 i many st1 _ hi hm ?_
    conv => whnf
    refine Br.f (decide_eq_false (fun e => by have := (pow40 hi4).2; omega)) ?_
    conv => whnf
    refine h277 _ n _ st1 _ h0 h1 (Int.le_of_lt (pow40 hi4).2) (pow40 hi4).1 (by rw [← hv]; exact hv') ?_
    conv => whnf
    refine R1.c9 ?_
    conv => whnf
    refine h165 st1 r t toks (p + 1) _ _ R1 hu fun st2 R2 G2 => ?_
    conv => whnf
    rw [← hv]
    exact k st2 R2 (G1.trans G2)
  exact ⟨⟨rfl, key⟩, fun e => by subst e; exact ⟨rfl, key⟩⟩

/-- over, until or nothing -/
inductive Ov (toks : List D) (p : Nat) : Bool → Nat → Prop
  | over : At toks p w_over → Ov toks p true (p + 1)
  | unt : At toks p w_until → Ov toks p false (p + 1)
  | no : Nt toks p [w_over, w_until] → Ov toks p false p
noncomputable def S292 (N : Nat) : Prop := ∀ (st : List O) (r t : Nat) (toks : List D) (p q : Nat) (b : Bool) (K : D → List O → Prop), Rdr st r t toks p → Ov toks p b q → (∀ st', Rdr st' r t toks q → Grow r st st' → K (.bool b) st') → SpN N 292 [.obj r] st K
theorem p292 (N : Nat) (h179 : S179 N) (h165 : S165 N) : S292 (N + 1) := by
  intro st r t toks p q b K R ho k
  refine ⟨rfl, ?_⟩
  conv => whnf
  refine R.c10 ?_
  conv => whnf
  cases ho with
  | over h =>
    obtain ⟨a, b, h⟩ := h
    refine h179 st r t toks p _ _ _ _ _ _ R h ?_
    conv => whnf
    refine Br.t rfl ?_
    conv => whnf
    refine Br.t rfl ?_
    conv => whnf
    refine R.c9 ?_
    conv => whnf
    refine h165 st r t toks p _ _ R h fun st' R' G' => ?_
    conv => whnf
    exact k st' R' G'
  | unt h =>
    obtain ⟨a, b, h⟩ := h
    refine h179 st r t toks p _ _ _ _ _ _ R h ?_
    conv => whnf
    refine Br.f rfl ?_
    conv => whnf
    refine R.c10 ?_
    conv => whnf
    refine h179 st r t toks p _ _ _ _ _ _ R h ?_
    conv => whnf
    refine Br.t rfl ?_
    conv => whnf
    refine R.c9 ?_
    conv => whnf
    refine h165 st r t toks p _ _ R h fun st' R' G' => ?_
    conv => whnf
    exact k st' R' G'
  | no h =>
    obtain ⟨kk, x, a, b, h, hn⟩ := h
    refine h179 st r t toks p _ _ _ _ _ _ R h ?_
    conv => whnf
    have e1 := hn w_over (by simp)
    have e2 := hn w_until (by simp)
    refine Br.f e1 ?_
    conv => whnf
    refine R.c10 ?_
    conv => whnf
    refine h179 st r t toks p _ _ _ _ _ _ R h ?_
    conv => whnf
    refine Br.f e2 ?_
    conv => whnf
    have := k st R (.refl ..)
    rw [← e1] at this
    exact this
noncomputable def S299 (N : Nat) : Prop := ∀ (st : List O) (r t : Nat) (toks : List D) (p : Nat) (kind x : List Nat) (K : D → List O → Prop), Rdr st r t toks p → At toks p w_name → AtS toks (p + 1) x → (∀ st', Rdr st' r t toks (p + 2) → Grow r st st' → K (.tup [.str w_object, .str kind, .str x]) st') → SpN N 299 [.obj r, .str kind] st K
theorem p299 (N : Nat) (h263 : S263 N) (h165 : S165 N) : S299 (N + 1) := by
  intro st r t toks p kind x K R h1 h2 k
  obtain ⟨a, b, h1⟩ := h1
  obtain ⟨kk, a2, b2, hk, h2⟩ := h2
  refine ⟨rfl, ?_⟩
  conv => whnf
  refine R.c9 ?_
  conv => whnf
  refine h165 st r t toks p _ _ R h1 fun st1 R1 G1 => ?_
  conv => whnf
  refine h263 st1 r t toks (p + 1) kk x a2 b2 _ R1 h2 hk fun st2 R2 G2 => ?_
  conv => whnf
  exact k st2 R2 (G1.trans G2)
end Mine
end

section
set_option maxRecDepth 100000
namespace Mine
/-- the two numbers of a counter -/
inductive Ctr (toks : List D) (p : Nat) : Int → Int → Nat → Prop
  | no : Nt toks p [w_packets] → Ctr toks p 0 0 p
  | yes {x n y m} : At toks p w_packets → At toks (p + 1) x → Num x n → n ≤ top64 → At toks (p + 2) w_bytes → At toks (p + 3) y → Num y m → m ≤ top64 → Ctr toks p n m (p + 4)
noncomputable def S306 (N : Nat) : Prop := ∀ (st : List O) (r t : Nat) (toks : List D) (p q : Nat) (n m : Int) (K : D → List O → Prop), Rdr st r t toks p → Ctr toks p n m q → (∀ st', Rdr st' r t toks q → Grow r st st' → K (.tup [.int n, .int m]) st') → SpN N 306 [.obj r] st K
theorem p306 (N : Nat) (h179 : S179 N) (h165 : S165 N) (h256 : S256 N) (h242 : S242 N) : S306 (N + 1) := by
  intro st r t toks p q n m K R hc k
  refine ⟨rfl, ?_⟩
  conv => whnf
  refine R.c10 ?_
  conv => whnf
  cases hc with
  | no h =>
    obtain ⟨kk, x, a, b, h, hn⟩ := h
    refine h179 st r t toks p _ _ _ _ _ _ R h ?_
    conv => whnf
    refine Br.t (by rw [hn w_packets (by simp)]; rfl) ?_
    conv => whnf
    exact k st R (.refl ..)
  | yes h1 h2 h3 h4 h5 h6 h7 h8 =>
    obtain ⟨a, b, h1⟩ := h1
    obtain ⟨a2, b2, h2⟩ := h2
    obtain ⟨a5, b5, h5⟩ := h5
    obtain ⟨a6, b6, h6⟩ := h6
    refine h179 st r t toks p _ _ _ _ _ _ R h1 ?_
    conv => whnf
    refine Br.f rfl ?_
    conv => whnf
    refine R.c9 ?_
    conv => whnf
    refine h165 st r t toks p _ _ R h1 fun st1 R1 G1 => ?_
    conv => whnf
    refine ⟨by decide, ?_⟩
    conv => whnf
    refine h256 st1 r t toks (p + 1) _ a2 b2 _ _ _ R1 h2 h3 h4 fun st2 R2 G2 => ?_
    conv => whnf
    refine h242 st2 r t toks (p + 2) _ a5 b5 _ R2 h5 fun st3 R3 G3 => ?_
    conv => whnf
    refine ⟨by decide, ?_⟩
    conv => whnf
    refine h256 st3 r t toks (p + 3) _ a6 b6 _ _ _ R3 h6 h7 h8 fun st4 R4 G4 => ?_
    conv => whnf
    exact k st4 R4 (((G1.trans G2).trans G3).trans G4)

/-- a whole counter, quota or limit that is given by its name, or told -/
inductive SpC (toks : List D) (p : Nat) : D → Nat → Prop
  | obj {x} : At toks p w_counter → At toks (p + 1) w_name → AtS toks (p + 2) x → SpC toks p (.tup [.str w_object, .str w_counter, .str x]) (p + 3)
  | told {n m q} : At toks p w_counter → Nt toks (p + 1) [w_name] → Ctr toks (p + 1) n m q → SpC toks p (.tup [.str w_counter, .int n, .int m]) q
noncomputable def Sread (f N : Nat) (Sp : List D → Nat → D → Nat → Prop) : Prop := ∀ (st : List O) (r t : Nat) (toks : List D) (p q : Nat) (v : D) (K : D → List O → Prop), Rdr st r t toks p → Sp toks p v q → (∀ st', Rdr st' r t toks q → Grow r st st' → K v st') → SpN N f [.obj r] st K
theorem p313 (N : Nat) (h179 : S179 N) (h165 : S165 N) (h299 : S299 N) (h306 : S306 N) : Sread 313 (N + 1) SpC := by
  intro st r t toks p q v K R hc k
  refine ⟨rfl, ?_⟩
  conv => whnf
  refine R.c9 ?_
  conv => whnf
  cases hc with
  | obj h0 h1 h2 =>
    obtain ⟨a, b, h0⟩ := h0
    obtain ⟨a1, b1, h1'⟩ := id h1
    refine h165 st r t toks p _ _ R h0 fun st1 R1 G1 => ?_
    conv => whnf
    refine R1.c10 ?_
    conv => whnf
    refine h179 st1 r t toks (p + 1) _ _ _ _ _ _ R1 h1' ?_
    conv => whnf
    refine Br.t rfl ?_
    conv => whnf
    refine h299 st1 r t toks (p + 1) w_counter _ _ R1 h1 h2 fun st2 R2 G2 => ?_
    conv => whnf
    exact k st2 R2 (G1.trans G2)
  | told h0 h1 h2 =>
    obtain ⟨a, b, h0⟩ := h0
    obtain ⟨kk, x, a1, b1, h1, hn⟩ := h1
    refine h165 st r t toks p _ _ R h0 fun st1 R1 G1 => ?_
    conv => whnf
    refine R1.c10 ?_
    conv => whnf
    refine h179 st1 r t toks (p + 1) _ _ _ _ _ _ R1 h1 ?_
    conv => whnf
    refine Br.f (hn w_name (by simp)) ?_
    conv => whnf
    refine h306 st1 r t toks (p + 1) q _ _ _ R1 h2 fun st2 R2 G2 => ?_
    conv => whnf
    exact k st2 R2 (G1.trans G2)

inductive QB (toks : List D) (p : Nat) : Bool → Int → Int → Nat → Prop
  | no {b p1 o} : Ov toks p b p1 → Sz toks p1 4 o → Nt toks (p1 + 2) [w_used] → QB toks p b o 0 (p1 + 2)
  | yes {b p1 o u} : Ov toks p b p1 → Sz toks p1 4 o → At toks (p1 + 2) w_used → Sz toks (p1 + 3) 4 u → QB toks p b o u (p1 + 5)
noncomputable def S320 (N : Nat) : Prop := ∀ (st : List O) (r t : Nat) (toks : List D) (p q : Nat) (b : Bool) (n m : Int) (K : D → List O → Prop), Rdr st r t toks p → QB toks p b n m q → (∀ st', Rdr st' r t toks q → Grow r st st' → K (.tup [.bool b, .int n, .int m]) st') → SpN N 320 [.obj r] st K
theorem p320 (N : Nat) (h292 : S292 N) (h285 : S285 N) (h179 : S179 N) (h165 : S165 N) : S320 (N + 1) := by
  intro st r t toks p q b n m K R hc k
  refine ⟨rfl, ?_⟩
  conv => whnf
  cases hc with
  | no h1 h2 h3 =>
    obtain ⟨kk, x, a, b', h3, hn⟩ := h3
    refine h292 st r t toks p _ _ _ R h1 fun st1 R1 G1 => ?_
    conv => whnf
    refine (h285 st1 r t toks _ 4 _ _ R1 h2 (.inr rfl) fun st2 R2 G2 => ?_).2 rfl
    conv => whnf
    refine R2.c10 ?_
    conv => whnf
    refine h179 st2 r t toks _ _ _ _ _ _ _ R2 h3 ?_
    conv => whnf
    refine Br.t (by rw [hn w_used (by simp)]; rfl) ?_
    conv => whnf
    exact k st2 R2 (G1.trans G2)
  | yes h1 h2 h3 h4 =>
    obtain ⟨a, b', h3⟩ := h3
    refine h292 st r t toks p _ _ _ R h1 fun st1 R1 G1 => ?_
    conv => whnf
    refine (h285 st1 r t toks _ 4 _ _ R1 h2 (.inr rfl) fun st2 R2 G2 => ?_).2 rfl
    conv => whnf
    refine R2.c10 ?_
    conv => whnf
    refine h179 st2 r t toks _ _ _ _ _ _ _ R2 h3 ?_
    conv => whnf
    refine Br.f rfl ?_
    conv => whnf
    refine R2.c9 ?_
    conv => whnf
    refine h165 st2 r t toks _ _ _ R2 h3 fun st3 R3 G3 => ?_
    conv => whnf
    refine (h285 st3 r t toks _ 4 _ _ R3 h4 (.inr rfl) fun st4 R4 G4 => ?_).2 rfl
    conv => whnf
    exact k st4 R4 (((G1.trans G2).trans G3).trans G4)
inductive SpQ (toks : List D) (p : Nat) : D → Nat → Prop
  | obj {x} : At toks p w_quota → At toks (p + 1) w_name → AtS toks (p + 2) x → SpQ toks p (.tup [.str w_object, .str w_quota, .str x]) (p + 3)
  | told {b n m q} : At toks p w_quota → Nt toks (p + 1) [w_name] → QB toks (p + 1) b n m q → SpQ toks p (.tup [.str w_quota, .bool b, .int n, .int m]) q
theorem p327 (N : Nat) (h179 : S179 N) (h165 : S165 N) (h299 : S299 N) (h320 : S320 N) : Sread 327 (N + 1) SpQ := by
  intro st r t toks p q v K R hc k
  refine ⟨rfl, ?_⟩
  conv => whnf
  refine R.c9 ?_
  conv => whnf
  cases hc with
  | obj h0 h1 h2 =>
    obtain ⟨a, b, h0⟩ := h0
    obtain ⟨a1, b1, h1'⟩ := id h1
    refine h165 st r t toks p _ _ R h0 fun st1 R1 G1 => ?_
    conv => whnf
    refine R1.c10 ?_
    conv => whnf
    refine h179 st1 r t toks (p + 1) _ _ _ _ _ _ R1 h1' ?_
    conv => whnf
    refine Br.t rfl ?_
    conv => whnf
    refine h299 st1 r t toks (p + 1) w_quota _ _ R1 h1 h2 fun st2 R2 G2 => ?_
    conv => whnf
    exact k st2 R2 (G1.trans G2)
  | told h0 h1 h2 =>
    obtain ⟨a, b, h0⟩ := h0
    obtain ⟨kk, x, a1, b1, h1, hn⟩ := h1
    refine h165 st r t toks p _ _ R h0 fun st1 R1 G1 => ?_
    conv => whnf
    refine R1.c10 ?_
    conv => whnf
    refine h179 st1 r t toks (p + 1) _ _ _ _ _ _ R1 h1 ?_
    conv => whnf
    refine Br.f (hn w_name (by simp)) ?_
    conv => whnf
    refine h320 st1 r t toks (p + 1) q _ _ _ _ R1 h2 fun st2 R2 G2 => ?_
    conv => whnf
    exact k st2 R2 (G1.trans G2)

/-- cut_word, is_stroke, read_unit -/
noncomputable def S334 (N : Nat) : Prop := ∀ (st : List O) (r t : Nat) (toks : List D) (p : Nat) (x y : List Nat) (K : D → List O → Prop), Rdr st r t toks p → x.length ≤ 1000 → y.length ≤ 1000 → 47 ∉ x →
  ((At toks p x → K (.tup [.str x, .none]) st → SpN N 334 [.obj r] st K) ∧ (At toks p (x ++ 47 :: y) → K (.tup [.str x, .str y]) st → SpN N 334 [.obj r] st K))
theorem find_no {x : List Nat} (h : 47 ∉ x) : findSign 47 x = -1 := by
  rcases findSign_spec 47 x with h1 | ⟨i, h1, h2, _⟩
  · exact h1.1
  · exact absurd (List.mem_of_getElem? h2) h
theorem find_yes {x y : List Nat} (h : 47 ∉ x) : findSign 47 (x ++ 47 :: y) = x.length := by
  rcases findSign_spec 47 (x ++ 47 :: y) with h1 | ⟨i, h1, h2, h3⟩
  · exact absurd (by simp) (h1.2 x.length)
  · rcases Nat.lt_trichotomy i x.length with hl | he | hg
    · rw [List.getElem?_append_left hl] at h2
      exact absurd (List.mem_of_getElem? h2) h
    · rw [h1, he]
    · exact absurd (by simp) (h3 x.length hg)
theorem cut_to {α : Type} (p w : List α) : cut (p ++ w) none (some (p.length : Int)) = p := by
  simp only [cut, Option.elim]
  rw [clip_of (by simp)]
  simp
theorem sml {k : Nat} (h : k ≤ 1000000) : small (some (k : Int)) := fun j e => by cases e; omega
theorem p334 (N : Nat) (h158 : S158 N) : S334 (N + 1) := by
  intro st r t toks p x y K R hl hl' hx
  refine ⟨fun ⟨a, b, h⟩ k => ?_, fun ⟨a, b, h⟩ k => ?_⟩
  · refine ⟨rfl, ?_⟩
    conv => whnf
    refine R.c8 ?_
    conv => whnf
    refine h158 st r t toks p _ _ R h ?_
    conv => whnf
    repeat (first | assumption | (refine ⟨_, rfl, ?_⟩; conv => whnf) | (refine Br.t rfl ?_; conv => whnf) | (refine Br.f rfl ?_; conv => whnf) | (refine ⟨Nat.le_of_ble_eq_true rfl, ?_⟩; conv => whnf) | (refine ⟨by decide, ?_⟩; conv => whnf))
    refine ⟨trivial, ?_⟩
    conv => whnf
    refine ⟨Nat.le_trans hl (by decide), ?_⟩
    conv => whnf
    refine Br.t (by rw [find_no hx]; rfl) ?_
    conv => whnf
    repeat (first | assumption | (refine ⟨_, rfl, ?_⟩; conv => whnf) | (refine Br.t rfl ?_; conv => whnf) | (refine Br.f rfl ?_; conv => whnf) | (refine ⟨Nat.le_of_ble_eq_true rfl, ?_⟩; conv => whnf) | (refine ⟨by decide, ?_⟩; conv => whnf))
  · refine ⟨rfl, ?_⟩
    conv => whnf
    refine R.c8 ?_
    conv => whnf
    refine h158 st r t toks p _ _ R h ?_
    conv => whnf
    repeat (first | assumption | (refine ⟨_, rfl, ?_⟩; conv => whnf) | (refine Br.t rfl ?_; conv => whnf) | (refine Br.f rfl ?_; conv => whnf) | (refine ⟨Nat.le_of_ble_eq_true rfl, ?_⟩; conv => whnf) | (refine ⟨by decide, ?_⟩; conv => whnf))
    refine ⟨trivial, ?_⟩
    conv => whnf
    have hll : (x ++ 47 :: y).length ≤ line := by
      have : (2001 : Nat) ≤ line := by decide
      simp; omega
    refine ⟨hll, ?_⟩
    conv => whnf
    refine Br.f (by rw [find_yes hx]; exact decide_eq_false (by omega)) ?_
    conv => whnf
    repeat (first | assumption | (refine ⟨_, rfl, ?_⟩; conv => whnf) | (refine Br.t rfl ?_; conv => whnf) | (refine Br.f rfl ?_; conv => whnf) | (refine ⟨Nat.le_of_ble_eq_true rfl, ?_⟩; conv => whnf) | (refine ⟨by decide, ?_⟩; conv => whnf))
    refine ⟨⟨small_none, by rw [find_yes hx]; exact sml (by omega), hll⟩, ?_⟩
    conv => whnf
    repeat (first | assumption | (refine ⟨_, rfl, ?_⟩; conv => whnf) | (refine Br.t rfl ?_; conv => whnf) | (refine Br.f rfl ?_; conv => whnf) | (refine ⟨Nat.le_of_ble_eq_true rfl, ?_⟩; conv => whnf) | (refine ⟨by decide, ?_⟩; conv => whnf))
    refine ⟨⟨by rw [find_yes hx]; exact sml (k := x.length + 1) (by omega), small_none, hll⟩, ?_⟩
    conv => whnf
    rw [find_yes hx, cut_to]
    have : cut (x ++ 47 :: y) (some ((x.length : Int) + 1)) none = y := by
      have e := cut_from (x ++ [47]) y (x.length + 1) (by simp)
      simpa using e
    rw [this]
    exact k
end Mine
end

section
set_option maxRecDepth 100000
namespace Mine
noncomputable abbrev w_second : List Nat := [115, 101, 99, 111, 110, 100]
noncomputable abbrev w_minute : List Nat := [109, 105, 110, 117, 116, 101]
noncomputable abbrev w_hour : List Nat := [104, 111, 117, 114]
noncomputable abbrev w_day : List Nat := [100, 97, 121]
noncomputable abbrev w_week : List Nat := [119, 101, 101, 107]
noncomputable def isU (u : List Nat) : Prop := u = w_second ∨ u = w_minute ∨ u = w_hour ∨ u = w_day ∨ u = w_week
theorem cut1 (c : Nat) (w : List Nat) : cut (c :: w) none (some 1) = [c] := cut_to [c] w
noncomputable def S341 (N : Nat) : Prop := ∀ (c : Nat) (w : List Nat) (a b : D) (st : List O) (K : D → List O → Prop), c ≠ 47 → w.length ≤ 2000 → K (.bool false) st → SpN N 341 [tk wd (c :: w) a b] st K
theorem p341 (N : Nat) : S341 (N + 1) := by
  intro c w a b st K hc hl k
  refine ⟨rfl, ?_⟩
  conv => whnf
  repeat (first | assumption | (refine ⟨_, rfl, ?_⟩; conv => whnf) | (refine Br.t rfl ?_; conv => whnf) | (refine Br.f rfl ?_; conv => whnf) | (refine ⟨Nat.le_of_ble_eq_true rfl, ?_⟩; conv => whnf) | (refine ⟨by decide, ?_⟩; conv => whnf))
  refine ⟨⟨small_none, sml (k := 1) (by decide), Nat.le_trans (Nat.succ_le_succ hl) (by decide)⟩, ?_⟩
  conv => whnf
  rw [cut1]
  rw [leq_ne (show [c] ≠ [47] by simpa using hc)]
  exact k
noncomputable def S348 (N : Nat) : Prop := ∀ (st : List O) (r t : Nat) (toks : List D) (p : Nat) (u x : List Nat) (K : D → List O → Prop), Rdr st r t toks p → At toks p x → isU u → (∀ st', Rdr st' r t toks (p + 1) → Grow r st st' → K (.str u) st') → SpN N 348 [.obj r, .str u] st K
theorem p348 (N : Nat) (h165 : S165 N) : S348 (N + 1) := by
  intro st r t toks p u x K R h hu k
  obtain ⟨a, b, h⟩ := h
  refine ⟨rfl, ?_⟩
  conv => whnf
  refine Br.f rfl ?_
  conv => whnf
  refine Br.f rfl ?_
  conv => whnf
  refine Br.f (by rcases hu with rfl | rfl | rfl | rfl | rfl <;> rfl) ?_
  conv => whnf
  refine Br.f rfl ?_
  conv => whnf
  rcases hu with rfl | rfl | rfl | rfl | rfl <;>
  · refine Br.f rfl ?_
    conv => whnf
    refine R.c9 ?_
    conv => whnf
    refine h165 st r t toks p _ _ R h fun st' R' G' => ?_
    conv => whnf
    exact k st' R' G'
/-- a rate -/
inductive Rt (toks : List D) (p : Nat) : Int → List Nat → Bool → Nat → Prop
  | pk {x u n} : At toks p (x ++ 47 :: u) → 47 ∉ x → Num x n → 0 ≤ n → n ≤ top64 → isU u → Rt toks p n u false (p + 1)
  | oc {x u n i} : At toks p x → 47 ∉ x → Num x n → 0 ≤ n → n ≤ top64 → isU u → i < 3 → At toks (p + 1) (un i ++ 47 :: u) → n * 1024 ^ i ≤ top64 → Rt toks p (n * 1024 ^ i) u true (p + 2)
noncomputable def S355 (N : Nat) : Prop := ∀ (st : List O) (r t : Nat) (toks : List D) (p q : Nat) (n : Int) (u : List Nat) (b : Bool) (K : D → List O → Prop), Rdr st r t toks p → Rt toks p n u b q → (∀ st', Rdr st' r t toks q → Grow r st st' → K (.tup [.int n, .str u, .bool b]) st') → SpN N 355 [.obj r] st K
theorem isU_len {u : List Nat} (h : isU u) : u.length ≤ 1000 := by rcases h with rfl | rfl | rfl | rfl | rfl <;> decide
theorem p355 (N : Nat) (h334 : S334 N) (h87 : S87 N) (h158b : S158b N) (h341 : S341 N) (h165 : S165 N) (h270 : S270 N) (h277 : S277 N) (h348 : S348 N) : S355 (N + 1) := by
  intro st r t toks p q n u b K R hr k
  have ht : top64 = 18446744073709551615 := rfl
  refine ⟨rfl, ?_⟩
  conv => whnf
  cases hr with
  | pk h1 h2 h3 h4 h5 h6 =>
    refine (h334 st r t toks p _ u _ R h3.1 (isU_len h6) h2).2 h1 ?_
    conv => whnf
    refine h87 _ n _ _ h3 ?_
    conv => whnf
    refine Br.f rfl ?_
    conv => whnf
    refine ⟨by decide, ?_⟩
    conv => whnf
    refine Br.f (decide_eq_false (by show ¬ (2 : Int) ^ 64 ≤ n; omega)) ?_
    conv => whnf
    refine Br.f rfl ?_
    conv => whnf
    refine Br.f rfl ?_
    conv => whnf
    refine h348 st r t toks p u _ _ R h1 h6 fun st' R' G' => ?_
    conv => whnf
    exact k st' R' G'
  | oc h1 h2 h3 h4 h5 h6 h7 h8 h9 =>
    rename_i x m i
    obtain ⟨a8, b8, h8⟩ := h8
    obtain ⟨a1, b1, h1'⟩ := id h1
    have hun : ∃ c w, un i = c :: w ∧ c ≠ 47 ∧ w.length ≤ 6 ∧ 47 ∉ un i ∧ (un i).length ≤ 1000 := by
      have : i = 0 ∨ i = 1 ∨ i = 2 := by omega
      rcases this with rfl | rfl | rfl <;> exact ⟨_, _, rfl, by decide, by decide, by decide, by decide⟩
    obtain ⟨c, w, e, hc, hw, h47, hul⟩ := hun
    refine (h334 st r t toks p _ [] _ R h3.1 (by decide) h2).1 h1 ?_
    conv => whnf
    refine h87 _ _ _ _ h3 ?_
    conv => whnf
    refine Br.f rfl ?_
    conv => whnf
    refine ⟨by decide, ?_⟩
    conv => whnf
    refine Br.f (decide_eq_false (by show ¬ (2 : Int) ^ 64 ≤ m; omega)) ?_
    conv => whnf
    refine Br.t rfl ?_
    conv => whnf
    refine R.c8 ?_
    conv => whnf
    refine h158b st r t toks p _ _ R h8 ?_
    conv => whnf
    have h8' : toks[p + 1]? = some (tk wd (c :: (w ++ 47 :: u)) a8 b8) := by rw [h8, e]; rfl
    rw [e]
    refine h341 c (w ++ 47 :: u) _ _ _ _ hc (by have := isU_len h6; simp; omega) ?_
    conv => whnf
    refine Br.t rfl ?_
    conv => whnf
    refine R.c9 ?_
    conv => whnf
    refine h165 st r t toks p _ _ R h1' fun st1 R1 G1 => ?_
    conv => whnf
    refine (h334 st1 r t toks (p + 1) (un i) u _ R1 hul (isU_len h6) h47).2 ⟨a8, b8, h8⟩ ?_
    conv => whnf
    refine h270 i 3 _ _ h7 (.inl rfl) ?_
    conv => whnf
    have hp := pow40 (i := i) (by omega)
    refine Br.f (decide_eq_false (fun e => by have := hp.2; omega)) ?_
    conv => whnf
    refine h277 _ m _ st1 _ h4 h5 (Int.le_of_lt hp.2) hp.1 h9 ?_
    conv => whnf
    refine h348 st1 r t toks (p + 1) u _ _ R1 ⟨a8, b8, h8⟩ h6 fun st2 R2 G2 => ?_
    conv => whnf
    have := k st2 R2 (G1.trans G2)
    have e2 : decide ((0 : Int) < 1024 ^ i) = true := decide_eq_true hp.2
    rw [← e2] at this
    exact this
inductive LB (toks : List D) (p : Nat) : Bool → Int → List Nat → Int → Bool → Nat → Prop
  | no {b p1 n u oc q} : At toks p w_rate → Ov toks (p + 1) b p1 → Rt toks p1 n u oc q → Nt toks q [w_burst] → LB toks p b n u (bif oc then 0 else 5) oc q
  | oct {b p1 n u q v} : At toks p w_rate → Ov toks (p + 1) b p1 → Rt toks p1 n u true q → At toks q w_burst → Sz toks (q + 1) 3 v → LB toks p b n u v true (q + 3)
  | pkt {b p1 n u q x v} : At toks p w_rate → Ov toks (p + 1) b p1 → Rt toks p1 n u false q → At toks q w_burst → At toks (q + 1) x → Num x v → v ≤ 4294967295 → At toks (q + 2) w_packets → LB toks p b n u v false (q + 3)
noncomputable def S362 (N : Nat) : Prop := ∀ (st : List O) (r t : Nat) (toks : List D) (p q : Nat) (b : Bool) (n : Int) (u : List Nat) (v : Int) (oc : Bool) (K : D → List O → Prop), Rdr st r t toks p → LB toks p b n u v oc q → (∀ st', Rdr st' r t toks q → Grow r st st' → K (.tup [.bool b, .int n, .str u, .int v, .bool oc]) st') → SpN N 362 [.obj r] st K
theorem p362 (N : Nat) (h242 : S242 N) (h292 : S292 N) (h355 : S355 N) (h179 : S179 N) (h165 : S165 N) (h285 : S285 N) (h256 : S256 N) : S362 (N + 1) := by
  intro st r t toks p q b n u v oc K R hl k
  refine ⟨rfl, ?_⟩
  conv => whnf
  cases hl with
  | no h1 h2 h3 h4 =>
    obtain ⟨a, b1, h1⟩ := h1
    obtain ⟨kk, x, a4, b4, h4, hn⟩ := h4
    refine h242 st r t toks p _ _ _ _ R h1 fun st1 R1 G1 => ?_
    conv => whnf
    refine h292 st1 r t toks _ _ _ _ R1 h2 fun st2 R2 G2 => ?_
    conv => whnf
    refine h355 st2 r t toks _ _ _ _ _ _ R2 h3 fun st3 R3 G3 => ?_
    conv => whnf
    refine R3.c10 ?_
    conv => whnf
    refine h179 st3 r t toks _ _ _ _ _ _ _ R3 h4 ?_
    conv => whnf
    refine Br.t (by rw [hn w_burst (by simp)]; rfl) ?_
    conv => whnf
    cases oc with
    | true =>
      refine Br.t rfl ?_
      conv => whnf
      exact k st3 R3 ((G1.trans G2).trans G3)
    | false =>
      refine Br.f rfl ?_
      conv => whnf
      exact k st3 R3 ((G1.trans G2).trans G3)
  | oct h1 h2 h3 h4 h5 =>
    obtain ⟨a, b1, h1⟩ := h1
    obtain ⟨a4, b4, h4⟩ := h4
    refine h242 st r t toks p _ _ _ _ R h1 fun st1 R1 G1 => ?_
    conv => whnf
    refine h292 st1 r t toks _ _ _ _ R1 h2 fun st2 R2 G2 => ?_
    conv => whnf
    refine h355 st2 r t toks _ _ _ _ _ _ R2 h3 fun st3 R3 G3 => ?_
    conv => whnf
    refine R3.c10 ?_
    conv => whnf
    refine h179 st3 r t toks _ _ _ _ _ _ _ R3 h4 ?_
    conv => whnf
    refine Br.f rfl ?_
    conv => whnf
    refine R3.c9 ?_
    conv => whnf
    refine h165 st3 r t toks _ _ _ R3 h4 fun st4 R4 G4 => ?_
    conv => whnf
    refine Br.t rfl ?_
    conv => whnf
    refine (h285 st4 r t toks _ 3 _ _ R4 h5 (.inl rfl) fun st5 R5 G5 => ?_).1
    conv => whnf
    exact k st5 R5 ((((G1.trans G2).trans G3).trans G4).trans G5)
  | pkt h1 h2 h3 h4 h5 h6 h7 h8 =>
    obtain ⟨a, b1, h1⟩ := h1
    obtain ⟨a4, b4, h4⟩ := h4
    obtain ⟨a5, b5, h5⟩ := h5
    obtain ⟨a8, b8, h8⟩ := h8
    refine h242 st r t toks p _ _ _ _ R h1 fun st1 R1 G1 => ?_
    conv => whnf
    refine h292 st1 r t toks _ _ _ _ R1 h2 fun st2 R2 G2 => ?_
    conv => whnf
    refine h355 st2 r t toks _ _ _ _ _ _ R2 h3 fun st3 R3 G3 => ?_
    conv => whnf
    refine R3.c10 ?_
    conv => whnf
    refine h179 st3 r t toks _ _ _ _ _ _ _ R3 h4 ?_
    conv => whnf
    refine Br.f rfl ?_
    conv => whnf
    refine R3.c9 ?_
    conv => whnf
    refine h165 st3 r t toks _ _ _ R3 h4 fun st4 R4 G4 => ?_
    conv => whnf
    refine Br.f rfl ?_
    conv => whnf
    refine ⟨by decide, ?_⟩
    conv => whnf
    refine h256 st4 r t toks _ _ a5 b5 _ _ _ R4 h5 h6 h7 fun st5 R5 G5 => ?_
    conv => whnf
    refine h242 st5 r t toks _ _ a8 b8 _ R5 h8 fun st6 R6 G6 => ?_
    conv => whnf
    exact k st6 R6 (((((G1.trans G2).trans G3).trans G4).trans G5).trans G6)
inductive SpL (toks : List D) (p : Nat) : D → Nat → Prop
  | obj {x} : At toks p w_limit → At toks (p + 1) w_name → AtS toks (p + 2) x → SpL toks p (.tup [.str w_object, .str w_limit, .str x]) (p + 3)
  | told {b n u v oc q} : At toks p w_limit → LB toks (p + 1) b n u v oc q → SpL toks p (.tup [.str w_limit, .bool b, .int n, .str u, .int v, .bool oc]) q
theorem LB.rate {toks p b n u v oc q} (h : LB toks p b n u v oc q) : At toks p w_rate := by cases h <;> assumption
theorem p369 (N : Nat) (h179 : S179 N) (h165 : S165 N) (h299 : S299 N) (h362 : S362 N) : Sread 369 (N + 1) SpL := by
  intro st r t toks p q v K R hc k
  refine ⟨rfl, ?_⟩
  conv => whnf
  refine R.c9 ?_
  conv => whnf
  cases hc with
  | obj h0 h1 h2 =>
    obtain ⟨a, b, h0⟩ := h0
    obtain ⟨a1, b1, h1'⟩ := id h1
    refine h165 st r t toks p _ _ R h0 fun st1 R1 G1 => ?_
    conv => whnf
    refine R1.c10 ?_
    conv => whnf
    refine h179 st1 r t toks (p + 1) _ _ _ _ _ _ R1 h1' ?_
    conv => whnf
    refine Br.t rfl ?_
    conv => whnf
    refine h299 st1 r t toks (p + 1) w_limit _ _ R1 h1 h2 fun st2 R2 G2 => ?_
    conv => whnf
    exact k st2 R2 (G1.trans G2)
  | told h0 h2 =>
    obtain ⟨a, b, h0⟩ := h0
    obtain ⟨a1, b1, h1⟩ := h2.rate
    refine h165 st r t toks p _ _ R h0 fun st1 R1 G1 => ?_
    conv => whnf
    refine R1.c10 ?_
    conv => whnf
    refine h179 st1 r t toks (p + 1) _ _ _ _ _ _ R1 h1 ?_
    conv => whnf
    refine Br.f rfl ?_
    conv => whnf
    refine h362 st1 r t toks (p + 1) q _ _ _ _ _ _ R1 h2 fun st2 R2 G2 => ?_
    conv => whnf
    exact k st2 R2 (G1.trans G2)
inductive SpN' (toks : List D) (p : Nat) : D → Nat → Prop
  | told : At toks p w_notrack → SpN' toks p (.tup [.str w_notrack]) (p + 1)
theorem p390 (N : Nat) (h165 : S165 N) : Sread 390 (N + 1) SpN' := by
  intro st r t toks p q v K R hc k
  refine ⟨rfl, ?_⟩
  conv => whnf
  refine R.c9 ?_
  conv => whnf
  cases hc with
  | told h0 =>
    obtain ⟨a, b, h0⟩ := h0
    refine h165 st r t toks p _ _ R h0 fun st1 R1 G1 => ?_
    conv => whnf
    exact k st1 R1 G1
end Mine
end

section
set_option maxRecDepth 100000
namespace Mine
noncomputable abbrev v_emerg : List Nat := [101, 109, 101, 114, 103]
noncomputable abbrev v_alert : List Nat := [97, 108, 101, 114, 116]
noncomputable abbrev v_crit : List Nat := [99, 114, 105, 116]
noncomputable abbrev v_err : List Nat := [101, 114, 114]
noncomputable abbrev v_warn : List Nat := [119, 97, 114, 110]
noncomputable abbrev v_notice : List Nat := [110, 111, 116, 105, 99, 101]
noncomputable abbrev v_info : List Nat := [105, 110, 102, 111]
noncomputable abbrev v_debug : List Nat := [100, 101, 98, 117, 103]
noncomputable def isL (u : List Nat) : Prop := u = v_emerg ∨ u = v_alert ∨ u = v_crit ∨ u = v_err ∨ u = v_warn ∨ u = v_notice ∨ u = v_info ∨ u = v_debug
inductive LG (toks : List D) : Nat → List (List Nat × D) → List (List Nat × D) → Nat → Prop
  | done {p kvs} : Nt toks p [w_prefix, w_level] → LG toks p kvs kvs p
  | pre {p kvs kws q x} : At toks p w_prefix → AtS toks (p + 1) x → x.length ≤ 127 → kget w_prefix kvs = .none → kvs.length ≤ 100 → LG toks (p + 2) (kput w_prefix (.str x) kvs) kws q → LG toks p kvs kws q
  | lev {p kvs kws q x} : At toks p w_level → At toks (p + 1) x → isL x → kget w_level kvs = .none → kvs.length ≤ 100 → LG toks (p + 2) (kput w_level (.str x) kvs) kws q → LG toks p kvs kws q
inductive SpG (toks : List D) (p : Nat) : D → Nat → Prop
  | told {kvs q} : At toks p w_log → LG toks (p + 1) [] kvs q → SpG toks p (.tup [.str w_log, (kget w_prefix kvs).getD (.str []), (kget w_level kvs).getD (.str w_warn)]) q
theorem Rdr.set {st r t toks p} (R : Rdr st r t toks p) {e : Nat} (o : O) (h1 : e ≠ r) (h2 : e ≠ t) : Rdr (st.set e o) r t toks p := by
  obtain ⟨⟨a2, a3, a4, a5, hr⟩, hl, hlen, hne⟩ := R
  exact ⟨⟨a2, a3, a4, a5, (List.getElem?_set_ne h1).trans hr⟩, (List.getElem?_set_ne h2).trans hl, hlen, hne⟩
structure Grow2 (r e : Nat) (st st' : List O) : Prop where
  len : st.length ≤ st'.length
  keep : ∀ i : Nat, i < st.length → i ≠ r → i ≠ e → st'[i]? = st[i]?
theorem Grow2.trans {r e st1 st2 st3} (a : Grow2 r e st1 st2) (b : Grow2 r e st2 st3) : Grow2 r e st1 st3 := ⟨Nat.le_trans a.len b.len, fun i h n m => (b.keep i (Nat.lt_of_lt_of_le h a.len) n m).trans (a.keep i h n m)⟩
theorem Grow.two {r st st'} (a : Grow r st st') (e : Nat) : Grow2 r e st st' := ⟨a.len, fun i h n _ => a.keep i h n⟩
theorem Grow2.set (r e st o) : Grow2 r e st (st.set e o) := ⟨by simp, fun i _ _ h => List.getElem?_set_ne (Ne.symm h)⟩

theorem log_loop (N : Nat) (h158 : S158 N) (h165 : S165 N) (h179 : S179 N) (h263 : S263 N) {toks : List D} {p q : Nat} {kvs kws : List (List Nat × D)} (h : LG toks p kvs kws q) : ∃ n, ∀ (st : List O) (r t e : Nat) (x2 : Option D) (K : Fl → St → Prop), Rdr st r t toks p → st[e]? = some (.dct kvs) → e ≠ r → e ≠ t →
    (∀ st' x2, Rdr st' r t toks q → st'[e]? = some (.dct kws) → Grow2 r e st st' → K .next ⟨[some (.obj r), some (.obj e), x2], st'⟩) → whn (E (SpN N) t0_read_log) (X (SpN N) b1_read_log) K n ⟨[some (.obj r), some (.obj e), x2], st⟩ := by
  induction h with
  | done h =>
    obtain ⟨kk, x, a, b, h, hn⟩ := h
    refine ⟨1, fun st r t e x2 K R he h1 h2 k => ?_⟩
    conv => whnf
    refine R.c10 ?_
    conv => whnf
    refine h179 st r t toks _ _ _ _ _ _ _ R h ?_
    conv => whnf
    refine Br.f (hn w_prefix (by simp)) ?_
    conv => whnf
    refine R.c10 ?_
    conv => whnf
    refine h179 st r t toks _ _ _ _ _ _ _ R h ?_
    conv => whnf
    refine Br.f (hn w_level (by simp)) ?_
    conv => whnf
    refine Br.f rfl ?_
    exact k st x2 R he ⟨Nat.le_refl _, fun _ _ _ _ => rfl⟩
  | pre h1 h2 h3 h4 h5 h6 ih =>
    obtain ⟨a, b, h1⟩ := h1
    obtain ⟨kk, a2, b2, hk, h2⟩ := h2
    obtain ⟨n, ih⟩ := ih
    refine ⟨n + 1, fun st r t e x2 K R he hr ht k => ?_⟩
    conv => whnf
    refine R.c10 ?_
    conv => whnf
    refine h179 st r t toks _ _ _ _ _ _ _ R h1 ?_
    conv => whnf
    refine Br.t rfl ?_
    conv => whnf
    refine Br.t rfl ?_
    conv => whnf
    refine R.c8 ?_
    conv => whnf
    refine h158 st r t toks _ _ _ R h1 ?_
    conv => whnf
    repeat (first | assumption | (refine ⟨_, rfl, ?_⟩; conv => whnf) | (refine Br.t rfl ?_; conv => whnf) | (refine Br.f rfl ?_; conv => whnf) | (refine ⟨Nat.le_of_ble_eq_true rfl, ?_⟩; conv => whnf) | (refine ⟨by decide, ?_⟩; conv => whnf))
    refine ⟨_, he, ?_⟩
    refine Br.t (by rw [h4]; rfl) ?_
    conv => whnf
    refine R.c9 ?_
    conv => whnf
    refine h165 st r t toks _ _ _ R h1 fun st1 R1 G1 => ?_
    have he1 : st1[e]? = some (.dct _) := (G1.keep e (at_lt he) hr).trans he
    conv => whnf
    repeat (first | assumption | (refine ⟨_, rfl, ?_⟩; conv => whnf) | (refine Br.t rfl ?_; conv => whnf) | (refine Br.f rfl ?_; conv => whnf) | (refine ⟨Nat.le_of_ble_eq_true rfl, ?_⟩; conv => whnf) | (refine ⟨by decide, ?_⟩; conv => whnf))
    refine R1.c8 ?_
    conv => whnf
    refine h158 st1 r t toks _ _ _ R1 h2 ?_
    conv => whnf
    repeat (first | assumption | (refine ⟨_, rfl, ?_⟩; conv => whnf) | (refine Br.t rfl ?_; conv => whnf) | (refine Br.f rfl ?_; conv => whnf) | (refine ⟨Nat.le_of_ble_eq_true rfl, ?_⟩; conv => whnf) | (refine ⟨by decide, ?_⟩; conv => whnf))
    refine ⟨Nat.le_trans h3 (by decide), ?_⟩
    conv => whnf
    refine Br.f (decide_eq_false (by omega)) ?_
    conv => whnf
    refine h263 st1 r t toks _ kk _ _ _ _ R1 h2 hk fun st2 R2 G2 => ?_
    have he2 : st2[e]? = some (.dct _) := (G2.keep e (Nat.lt_of_lt_of_le (at_lt he) G1.len) hr).trans he1
    conv => whnf
    refine ⟨_, he2, h5, ?_⟩
    refine ih (st2.set e _) r t e _ K (R2.set _ hr ht) (List.getElem?_set_self (at_lt he2)) hr ht fun st' x2 R' he' G' => k st' x2 R' he' ?_
    exact (((G1.two e).trans (G2.two e)).trans (.set r e st2 _)).trans G'
  | lev h1 h2 h3 h4 h5 h6 ih =>
    obtain ⟨a, b, h1⟩ := h1
    obtain ⟨a2, b2, h2⟩ := h2
    obtain ⟨n, ih⟩ := ih
    refine ⟨n + 1, fun st r t e x2 K R he hr ht k => ?_⟩
    conv => whnf
    refine R.c10 ?_
    conv => whnf
    refine h179 st r t toks _ _ _ _ _ _ _ R h1 ?_
    conv => whnf
    refine Br.f rfl ?_
    conv => whnf
    refine R.c10 ?_
    conv => whnf
    refine h179 st r t toks _ _ _ _ _ _ _ R h1 ?_
    conv => whnf
    refine Br.t rfl ?_
    conv => whnf
    refine R.c8 ?_
    conv => whnf
    refine h158 st r t toks _ _ _ R h1 ?_
    conv => whnf
    repeat (first | assumption | (refine ⟨_, rfl, ?_⟩; conv => whnf) | (refine Br.t rfl ?_; conv => whnf) | (refine Br.f rfl ?_; conv => whnf) | (refine ⟨Nat.le_of_ble_eq_true rfl, ?_⟩; conv => whnf) | (refine ⟨by decide, ?_⟩; conv => whnf))
    refine ⟨_, he, ?_⟩
    refine Br.t (by rw [h4]; rfl) ?_
    conv => whnf
    refine R.c9 ?_
    conv => whnf
    refine h165 st r t toks _ _ _ R h1 fun st1 R1 G1 => ?_
    have he1 : st1[e]? = some (.dct _) := (G1.keep e (at_lt he) hr).trans he
    conv => whnf
    repeat (first | assumption | (refine ⟨_, rfl, ?_⟩; conv => whnf) | (refine Br.t rfl ?_; conv => whnf) | (refine Br.f rfl ?_; conv => whnf) | (refine ⟨Nat.le_of_ble_eq_true rfl, ?_⟩; conv => whnf) | (refine ⟨by decide, ?_⟩; conv => whnf))
    refine R1.c8 ?_
    conv => whnf
    refine h158 st1 r t toks _ _ _ R1 h2 ?_
    conv => whnf
    refine ⟨Nat.le_of_ble_eq_true rfl, ?_⟩
    conv => whnf
    refine Br.f (by rcases h3 with rfl | rfl | rfl | rfl | rfl | rfl | rfl | rfl <;> rfl) ?_
    conv => whnf
    refine R1.c9 ?_
    conv => whnf
    refine h165 st1 r t toks _ _ _ R1 h2 fun st2 R2 G2 => ?_
    have he2 : st2[e]? = some (.dct _) := (G2.keep e (Nat.lt_of_lt_of_le (at_lt he) G1.len) hr).trans he1
    conv => whnf
    repeat (first | assumption | (refine ⟨_, rfl, ?_⟩; conv => whnf) | (refine Br.t rfl ?_; conv => whnf) | (refine Br.f rfl ?_; conv => whnf) | (refine ⟨Nat.le_of_ble_eq_true rfl, ?_⟩; conv => whnf) | (refine ⟨by decide, ?_⟩; conv => whnf))
    refine ⟨_, he2, h5, ?_⟩
    refine ih (st2.set e _) r t e _ K (R2.set _ hr ht) (List.getElem?_set_self (at_lt he2)) hr ht fun st' x2 R' he' G' => k st' x2 R' he' ?_
    exact (((G1.two e).trans (G2.two e)).trans (.set r e st2 _)).trans G'
theorem Rdr.push {st r t toks p} (R : Rdr st r t toks p) (o : O) : Rdr (st ++ [o]) r t toks p := by
  obtain ⟨⟨a2, a3, a4, a5, hr⟩, hl, hlen, hne⟩ := R
  exact ⟨⟨a2, a3, a4, a5, (List.getElem?_append_left (at_lt hr)).trans hr⟩, (List.getElem?_append_left (at_lt hl)).trans hl, hlen, hne⟩
theorem p383 (N : Nat) (h158 : S158 N) (h165 : S165 N) (h179 : S179 N) (h263 : S263 N) : Sread 383 (N + 1) SpG := by
  intro st r t toks p q v K R hc k
  refine ⟨rfl, ?_⟩
  conv => whnf
  refine R.c9 ?_
  conv => whnf
  cases hc with
  | told h0 h1 =>
    obtain ⟨a, b, h0⟩ := h0
    obtain ⟨n, hn⟩ := log_loop N h158 h165 h179 h263 h1
    refine h165 st r t toks p _ _ R h0 fun st1 R1 G1 => ?_
    conv => whnf
    have hr1 : st1.length ≠ r := by obtain ⟨⟨a2, a3, a4, a5, hr⟩, _⟩ := R1; have := at_lt hr; omega
    have ht1 : st1.length ≠ t := by have := at_lt R1.lst; omega
    refine ⟨n, hn (st1 ++ [.dct []]) r t st1.length _ _ (R1.push _) (by simp) hr1 ht1 fun st2 x2 R2 he2 G2 => ?_⟩
    conv => whnf
    refine ⟨⟨_, he2⟩, ?_⟩
    conv => whnf
    refine ⟨_, he2, ?_⟩
    conv => whnf
    refine ⟨⟨_, he2⟩, ?_⟩
    conv => whnf
    refine ⟨_, he2, ?_⟩
    conv => whnf
    refine k st2 R2 ⟨?_, fun i hi hn => ?_⟩
    · have := G1.len; have := G2.len; simp at this; omega
    · have l1 := G1.len
      rw [G2.keep i (by simp; omega) hn (by omega), List.getElem?_append_left (by omega)]
      exact G1.keep i hi hn
end Mine
end

section
set_option maxRecDepth 100000
namespace Mine
noncomputable abbrev wsl : List Nat := [97, 98, 99, 100, 101, 102, 103, 104, 105, 106, 107, 108, 109, 110, 111, 112, 113, 114, 115, 116, 117, 118, 119, 120, 121, 122, 65, 66, 67, 68, 69, 70, 71, 72, 73, 74, 75, 76, 77, 78, 79, 80, 81, 82, 83, 84, 85, 86, 87, 88, 89, 90, 48, 49, 50, 51, 52, 53, 54, 55, 56, 57, 95, 46, 58, 42, 43, 45, 47]
noncomputable def ws (c : Nat) : Bool := hasSign c wsl
noncomputable def S94 (N : Nat) : Prop := ∀ (c : Nat) (st : List O) (K : D → List O → Prop), K (.bool (ws c)) st → SpN N 94 [.str [c]] st K
theorem p94 (N : Nat) : S94 (N + 1) := by
  intro c st K k
  refine ⟨rfl, ?_⟩
  conv => whnf
  exact k
theorem cut_at {α : Type} (p r : List α) (k : Nat) : cut (p ++ r) (some (p.length : Int)) (some ((p.length + k : Nat) : Int)) = r.take k := by
  simp only [cut, Option.elim]
  have : PySem.clipAt (p ++ r).length ((p.length + k : Nat) : Int) = p.length + min k r.length := by
    rw [PySem.clipAt_nat, List.length_append]; omega
  rw [this, clip_of (k := p.length) (by simp), Nat.add_sub_cancel_left]
  rw [List.drop_left]
  rcases Nat.le_total k r.length with h | h
  · rw [Nat.min_eq_left h]
  · rw [Nat.min_eq_right h, List.take_of_length_le h, List.take_of_length_le (Nat.le_refl _)]
theorem nth_mid {α : Type} (p : List α) (c : α) (r : List α) : nth (p ++ c :: r) p.length = some c := by rw [nth_eq]; simp

noncomputable def S101 (N : Nat) : Prop := ∀ (pre w post : List Nat) (st : List O) (K : D → List O → Prop), (pre ++ (w ++ post)).length ≤ 1000000 → (∀ c ∈ w, ws c = true) → (∀ c r, post = c :: r → ws c = false) → K (.int ((pre.length + w.length : Nat) : Int)) st → SpN N 101 [.str (pre ++ (w ++ post)), .int pre.length] st K
theorem loop101 (N : Nat) (h94 : S94 N) (text : List Nat) (hl : text.length ≤ 1000000) (st : List O) (K : Fl → St → Prop) : ∀ (w pre post : List Nat), text = pre ++ (w ++ post) → (∀ c ∈ w, ws c = true) → (∀ c r, post = c :: r → ws c = false) →
    K .next ⟨[some (.str text), some (.int ((pre.length + w.length : Nat) : Int))], st⟩ → whn (E (SpN N) t0_run_end) (X (SpN N) b1_run_end) K (w.length + 1) ⟨[some (.str text), some (.int pre.length)], st⟩ := by
  intro w
  induction w with
  | nil =>
    intro pre post ht hw hp k
    conv => whnf
    refine ⟨m6 hl, ?_⟩
    cases post with
    | nil =>
      refine Br.f (decide_eq_false (by subst ht; simp)) ?_
      conv => whnf
      refine Br.f rfl ?_
      exact k
    | cons c r =>
      refine Br.t (decide_eq_true (by subst ht; simp; omega)) ?_
      conv => whnf
      have e : pick (pre.length : Int) text = some c := by subst ht; exact nth_mid _ _ _
      rw [e]
      refine ⟨m6 hl, ?_⟩
      conv => whnf
      refine h94 c _ _ ?_
      conv => whnf
      refine Br.f (hp c r rfl) ?_
      exact k
  | cons c w ih =>
    intro pre post ht hw hp k
    conv => whnf
    refine ⟨m6 hl, ?_⟩
    refine Br.t (decide_eq_true (by subst ht; simp; omega)) ?_
    conv => whnf
    have e : pick (pre.length : Int) text = some c := by subst ht; exact nth_mid _ _ _
    rw [e]
    refine ⟨m6 hl, ?_⟩
    conv => whnf
    refine h94 c _ _ ?_
    conv => whnf
    refine Br.t (hw c (by simp)) ?_
    conv => whnf
    have := ih (pre ++ [c]) post (by simp [ht]) (fun d hd => hw d (by simp [hd])) hp (by
      have e2 : (pre ++ [c]).length + w.length = pre.length + (c :: w).length := by simp; omega
      rw [e2]; exact k)
    have e3 : (pre ++ [c]).length = pre.length + 1 := by simp
    rw [e3] at this
    exact this
theorem p101 (N : Nat) (h94 : S94 N) : S101 (N + 1) := by
  intro pre w post st K hl hw hp k
  refine ⟨rfl, ?_⟩
  conv => whnf
  refine ⟨w.length + 1, loop101 N h94 _ hl st _ w pre post rfl hw hp ?_⟩
  exact k

noncomputable def S108 (N : Nat) : Prop := ∀ (pre s post : List Nat) (a b : D) (st : List O) (K : D → List O → Prop), (pre ++ 34 :: (s ++ 34 :: post)).length ≤ 1000000 → (∀ c ∈ s, c ≠ 34 ∧ c ≠ 10) → K (.int ((pre.length + 1 + s.length + 1 : Nat) : Int)) st → SpN N 108 [.str (pre ++ 34 :: (s ++ 34 :: post)), .int pre.length, a, b] st K
theorem loop108 (N : Nat) (text : List Nat) (hl : text.length ≤ 1000000) (x1 x2 x3 : Option D) (st : List O) (K : Fl → St → Prop) : ∀ (s pre post : List Nat) (at' : Int), at' = pre.length → text = pre ++ (s ++ 34 :: post) → (∀ c ∈ s, c ≠ 34 ∧ c ≠ 10) →
    (∀ σ, σ.st = st → K (.ret (.int ((pre.length + s.length + 1 : Nat) : Int))) σ) → whn (E (SpN N) t0_string_end) (X (SpN N) b1_string_end) K (s.length + 1) ⟨[some (.str text), x1, x2, x3, some (.int at')], st⟩ := by
  intro s
  induction s with
  | nil =>
    intro pre post at' hat ht hw k
    subst hat
    have e : pick (pre.length : Int) text = some 34 := by subst ht; exact nth_mid _ _ _
    conv => whnf
    refine ⟨m6 hl, ?_⟩
    refine Br.t (decide_eq_true (by subst ht; simp; omega)) ?_
    conv => whnf
    rw [e]
    refine ⟨m6 hl, ?_⟩
    conv => whnf
    refine Br.t rfl ?_
    conv => whnf
    rw [e]
    refine ⟨m6 hl, ?_⟩
    conv => whnf
    refine Br.t rfl ?_
    conv => whnf
    exact k _ rfl
  | cons c w ih =>
    intro pre post at' hat ht hw k
    subst hat
    have e : pick (pre.length : Int) text = some c := by subst ht; exact nth_mid _ _ _
    have hc := hw c (by simp)
    conv => whnf
    refine ⟨m6 hl, ?_⟩
    refine Br.t (decide_eq_true (by subst ht; simp; omega)) ?_
    conv => whnf
    rw [e]
    refine ⟨m6 hl, ?_⟩
    conv => whnf
    refine Br.t (by rw [leq_ne (show [c] ≠ [10] by simpa using hc.2)]; rfl) ?_
    conv => whnf
    rw [e]
    refine ⟨m6 hl, ?_⟩
    conv => whnf
    refine Br.f (leq_ne (show [c] ≠ [34] by simpa using hc.1)) ?_
    conv => whnf
    exact ih (pre ++ [c]) post _ (by simp) (by simp [ht]) (fun d hd => hw d (by simp [hd])) (fun σ hσ => by
      have e2 : (pre ++ [c]).length + w.length + 1 = pre.length + (c :: w).length + 1 := by simp; omega
      rw [e2]; exact k σ hσ)
theorem p108 (N : Nat) : S108 (N + 1) := by
  intro pre s post a b st K hl hw k
  refine ⟨rfl, ?_⟩
  conv => whnf
  refine ⟨s.length + 1, loop108 N _ hl _ _ _ st _ s (pre ++ [34]) post _ (by simp) (by simp) hw fun σ hσ => ?_⟩
  have e2 : (pre ++ [34]).length + s.length + 1 = pre.length + 1 + s.length + 1 := by simp
  rw [e2]
  conv => whnf
  rw [hσ]; exact k

/-- a plain word -/
structure Pl (w : List Nat) : Prop where
  ne : w ≠ []
  ws : ∀ c ∈ w, ws c = true
  first : ∀ c r, w = c :: r → c ≠ 58
  last : ∀ r c, w = r ++ [c] → c ≠ 58
  dot : w ≠ [46]
  stroke : w ≠ [47]
  len : w.length ≤ 1000
theorem cut_last {w : List Nat} {c : Nat} : cut (w ++ [c]) (some (-1)) none = [c] := by
  have e : PySem.clipAt (w ++ [c]).length (-1) = w.length := by
    exact (PySem.clipAt_neg _ 1 (Nat.le_refl _)).trans (by rw [List.length_append]; exact Nat.add_sub_cancel ..)
  simp only [cut, Option.elim]
  rw [e]; simp
noncomputable def S115 (N : Nat) : Prop := ∀ (w : List Nat) (t : Nat) (a b : D) (toks : List D) (st : List O) (K : D → List O → Prop), Pl w → st[t]? = some (.lst toks) → toks.length < line → (∀ i, b = .int i → True) → K .none (st.set t (.lst (toks ++ [tk wd w a b]))) → SpN N 115 [.obj t, .str w, a, b] st K
theorem p115 (N : Nat) : S115 (N + 1) := by
  intro w t a b toks st K P ht htl _ k
  have hl : w.length ≤ line := Nat.le_trans P.len (by decide)
  obtain ⟨c, r, rfl⟩ : ∃ c r, w = c :: r := by
    cases w with
    | nil => exact absurd rfl P.ne
    | cons c r => exact ⟨c, r, rfl⟩
  have hlast : leq (cut (c :: r) (some (-1)) none) [58] = false := by
    obtain ⟨q, z, e⟩ : ∃ q z, c :: r = q ++ [z] := ⟨_, _, (List.dropLast_concat_getLast (by simp)).symm⟩
    rw [e, cut_last]
    exact leq_ne (by simpa using P.last q z e)
  refine ⟨rfl, ?_⟩
  conv => whnf
  refine ⟨hl, ?_⟩
  conv => whnf
  refine Br.f (leq_ne (by simpa using P.first c r rfl)) ?_
  conv => whnf
  refine Br.f rfl ?_
  conv => whnf
  refine ⟨⟨fun k e => by cases e; decide, small_none, hl⟩, ?_⟩
  conv => whnf
  refine Br.f hlast ?_
  conv => whnf
  refine Br.f rfl ?_
  conv => whnf
  refine Br.f (leq_ne P.dot) ?_
  conv => whnf
  refine Br.f (leq_ne P.stroke) ?_
  conv => whnf
  refine Br.t (by rw [leq_ne P.ne]; rfl) ?_
  conv => whnf
  refine ⟨⟨_, ht⟩, ?_⟩
  conv => whnf
  refine ⟨_, ht, htl, ?_⟩
  conv => whnf
  refine Br.f rfl ?_
  conv => whnf
  exact k
end Mine
end

section
set_option maxRecDepth 100000
namespace Mine
inductive Itm where
  | w (s : List Nat)
  | q (s : List Nat)
noncomputable def Tk1 : Itm → D → Prop
  | .w s, d => ∃ a b : Int, d = tk wd s (.int a) (.int b)
  | .q s, d => ∃ a b : Int, d = tk sg s (.int a) (.int b)
noncomputable def Tks : List Itm → List D → Prop
  | [], [] => True
  | i :: is, d :: ds => Tk1 i d ∧ Tks is ds
  | _, _ => False
theorem Tks.snoc : ∀ {is : List Itm} {ds : List D} {i d}, Tks is ds → Tk1 i d → Tks (is ++ [i]) (ds ++ [d])
  | [], [], _, _, _, h => ⟨h, trivial⟩
  | _ :: _, _ :: _, _, _, a, h => ⟨a.1, Tks.snoc a.2 h⟩
  | [], _ :: _, _, _, a, _ => a.elim
  | _ :: _, [], _, _, a, _ => a.elim
/-- how a text is spelled -/
inductive Txt : List Itm → List Nat → Prop
  | nil : Txt [] []
  | blank {is r c} : (c = 32 ∨ c = 9) → Txt is r → Txt is (c :: r)
  | line {is r} : Txt is r → Txt is (92 :: 10 :: r)
  | word {is w post} : Pl w → (∀ c r, post = c :: r → ws c = false) → Txt is post → Txt (.w w :: is) (w ++ post)
  | str {is s post} : (∀ c ∈ s, c ≠ 34 ∧ c ≠ 10) → Txt is post → Txt (.q s :: is) (34 :: (s ++ 34 :: post))
theorem set_last {α : Type} (l : List α) (a b : α) : (l ++ [a]).set l.length b = l ++ [b] := by simp
theorem last_at {α : Type} (l : List α) (a : α) : (l ++ [a])[l.length]? = some a := by simp
theorem ws_ne {c k : Nat} (h : ws c = true) (hk : ws k = false) : c ≠ k := fun e => by rw [e, hk] at h; cases h

theorem lex (N : Nat) (h94 : S94 N) (h101 : S101 N) (h108 : S108 N) (h115 : S115 N) (text : List Nat) (hl : text.length ≤ 1000000) (st0 : List O) (K : Fl → St → Prop) (all : List Itm)
    (fin : ∀ toks (row beg : Int) x5 x6 x7, Tks all toks → toks.length ≤ text.length → K .next ⟨[some (.str text), some (.obj st0.length), some (.int text.length), some (.int row), some (.int beg), x5, x6, x7], st0 ++ [.lst toks]⟩) {is : List Itm} {rest : List Nat} (h : Txt is rest) :
    ∀ (pre : List Nat) (done : List Itm) (at' : Int), at' = pre.length → text = pre ++ rest → done ++ is = all → ∃ n, ∀ toks (row beg : Int) x5 x6 x7, Tks done toks → toks.length ≤ pre.length →
      whn (E (SpN N) t0_read_tokens) (X (SpN N) b3_read_tokens) K n ⟨[some (.str text), some (.obj st0.length), some (.int at'), some (.int row), some (.int beg), x5, x6, x7], st0 ++ [.lst toks]⟩ := by
  induction h with
  | nil =>
    intro pre done at' hat ht hd
    subst hat
    have ht' : text = pre := by simpa using ht
    have hd' : done = all := by simpa using hd
    refine ⟨1, fun toks row beg x5 x6 x7 hk hn => ?_⟩
    conv => whnf
    refine ⟨m6 hl, ?_⟩
    refine Br.f (decide_eq_false (by rw [ht']; omega)) ?_
    have := fin toks row beg x5 x6 x7 (hd' ▸ hk) (by rw [ht']; exact hn)
    rw [ht'] at this ⊢
    exact this
  | blank hc h ih =>
    rename_i is r c
    intro pre done at' hat ht hd
    subst hat
    obtain ⟨n, ih⟩ := ih (pre ++ [c]) done ((pre.length : Int) + 1) (by simp) (by simp [ht]) hd
    have e : pick (pre.length : Int) text = some c := by subst ht; exact nth_mid _ _ _
    have e2 : cut text (some (pre.length : Int)) (some ((pre.length : Int) + 2)) = (c :: r).take 2 := by subst ht; exact cut_at pre (c :: r) 2
    refine ⟨n + 1, fun toks row beg x5 x6 x7 hk hn => ?_⟩
    conv => whnf
    refine ⟨m6 hl, ?_⟩
    refine Br.t (decide_eq_true (by subst ht; simp; omega)) ?_
    conv => whnf
    rw [e]
    refine ⟨m6 hl, ?_⟩
    conv => whnf
    have hsm : small (some (pre.length : Int)) := sml (by subst ht; simp at hl; omega)
    have hsm2 : small (some ((pre.length : Int) + 2)) := fun j q => by cases q; subst ht; simp at hl; omega
    rcases hc with rfl | rfl <;>
    · refine Br.f rfl ?_
      conv => whnf
      refine Br.f rfl ?_
      conv => whnf
      refine Br.f rfl ?_
      conv => whnf
      refine Br.f rfl ?_
      conv => whnf
      refine Br.f rfl ?_
      conv => whnf
      refine Br.f rfl ?_
      conv => whnf
      refine h94 _ _ _ ?_
      conv => whnf
      refine Br.f rfl ?_
      conv => whnf
      refine ⟨⟨hsm, hsm2, m6 hl⟩, ?_⟩
      conv => whnf
      refine Br.f (by rw [e2]; cases r <;> rfl) ?_
      conv => whnf
      refine Br.f rfl ?_
      conv => whnf
      refine Br.f rfl ?_
      conv => whnf
      exact ih toks row beg _ _ _ hk (by simp; omega)
  | line h ih =>
    rename_i is r
    intro pre done at' hat ht hd
    subst hat
    obtain ⟨n, ih⟩ := ih (pre ++ [92, 10]) done ((pre.length : Int) + 1 + 1) (by simp; omega) (by simp [ht]) hd
    have e : pick (pre.length : Int) text = some 92 := by subst ht; exact nth_mid _ _ _
    have e2 : cut text (some ((pre.length : Int) + 1)) (some ((pre.length : Int) + 1 + 1)) = [10] := by
      have := cut_at (pre ++ [92]) (10 :: r) 1
      have e1 : (pre ++ [92]).length = pre.length + 1 := by simp
      rw [e1] at this
      subst ht
      simpa using this
    refine ⟨n + 1, fun toks row beg x5 x6 x7 hk hn => ?_⟩
    have hsm : small (some ((pre.length : Int) + 1)) := fun j q => by cases q; subst ht; simp at hl; omega
    have hsm2 : small (some ((pre.length : Int) + 1 + 1)) := fun j q => by cases q; subst ht; simp at hl; omega
    conv => whnf
    refine ⟨m6 hl, ?_⟩
    refine Br.t (decide_eq_true (by subst ht; simp; omega)) ?_
    conv => whnf
    rw [e]
    refine ⟨m6 hl, ?_⟩
    conv => whnf
    refine Br.f rfl ?_
    conv => whnf
    refine Br.f rfl ?_
    conv => whnf
    refine Br.f rfl ?_
    conv => whnf
    refine Br.t rfl ?_
    conv => whnf
    refine ⟨⟨hsm, hsm2, m6 hl⟩, ?_⟩
    conv => whnf
    refine Br.t (by rw [e2]; rfl) ?_
    conv => whnf
    exact ih toks _ _ _ _ _ hk (by simp; omega)
  | word P hp h ih =>
    rename_i is w post
    intro pre done at' hat ht hd
    subst hat
    obtain ⟨n, ih⟩ := ih (pre ++ w) (done ++ [.w w]) (((pre.length + w.length : Nat) : Int)) (by simp) (by simp [ht]) (by simpa using hd)
    obtain ⟨c, r, rfl⟩ : ∃ c r, w = c :: r := by
      cases w with
      | nil => exact absurd rfl P.ne
      | cons c r => exact ⟨c, r, rfl⟩
    have hc := P.ws c (by simp)
    have e : pick (pre.length : Int) text = some c := by subst ht; exact nth_mid _ _ _
    have e2 : cut text (some (pre.length : Int)) (some ((pre.length + (c :: r).length : Nat) : Int)) = c :: r := by
      have := cut_at pre ((c :: r) ++ post) (c :: r).length
      subst ht
      rw [this]; simp
    have ih' : ∀ toks (row beg : Int) x5 x6 x7 S, S = st0 ++ [O.lst toks] → Tks (done ++ [.w (c :: r)]) toks → toks.length ≤ (pre ++ c :: r).length →
      whn (E (SpN N) t0_read_tokens) (X (SpN N) b3_read_tokens) K n ⟨[some (.str text), some (.obj st0.length), some (.int (pre.length + (c :: r).length : Nat)), some (.int row), some (.int beg), x5, x6, x7], S⟩ := by
      intro toks row beg x5 x6 x7 S hS h1 h2
      subst hS
      exact ih toks row beg x5 x6 x7 h1 h2
    refine ⟨n + 1, fun toks row beg x5 x6 x7 hk hn => ?_⟩
    have hsm : small (some (pre.length : Int)) := sml (by subst ht; simp at hl; omega)
    have hsm2 : small (some ((pre.length + (c :: r).length : Nat) : Int)) := sml (by subst ht; simp at hl ⊢; omega)
    conv => whnf
    refine ⟨m6 hl, ?_⟩
    refine Br.t (decide_eq_true (by subst ht; simp; omega)) ?_
    conv => whnf
    rw [e]
    refine ⟨m6 hl, ?_⟩
    conv => whnf
    refine Br.f (leq_ne (by simpa using ws_ne hc (by rfl : ws 10 = false))) ?_
    conv => whnf
    refine Br.f (leq_ne (by simpa using ws_ne hc (by rfl : ws 59 = false))) ?_
    conv => whnf
    refine Br.f (leq_ne (by simpa using ws_ne hc (by rfl : ws 35 = false))) ?_
    conv => whnf
    refine Br.f (leq_ne (by simpa using ws_ne hc (by rfl : ws 92 = false))) ?_
    conv => whnf
    refine Br.f rfl ?_
    conv => whnf
    refine Br.f (leq_ne (by simpa using ws_ne hc (by rfl : ws 34 = false))) ?_
    conv => whnf
    refine h94 c _ _ ?_
    conv => whnf
    refine Br.t hc ?_
    conv => whnf
    have hl' := hl
    have htx : text = pre ++ ((c :: r) ++ post) := ht
    rw [htx] at hl'
    have h101' := h101 pre (c :: r) post (st0 ++ [.lst toks])
    rw [← htx] at h101'
    refine h101' _ hl (fun d hd => P.ws d hd) hp ?_
    conv => whnf
    refine ⟨⟨hsm, hsm2, m6 hl⟩, ?_⟩
    conv => whnf
    rw [e2]
    have htk : toks.length < line := by
      have : (1000001 : Nat) ≤ line := by decide
      have : pre.length ≤ text.length := by rw [htx]; simp
      omega
    refine h115 (c :: r) st0.length _ _ toks _ _ P (last_at st0 _) htk (fun _ _ => trivial) ?_
    conv => whnf
    refine ih' _ row beg _ _ _ _ (set_last st0 _ _) (hk.snoc ⟨_, _, rfl⟩) (by simp; omega)
  | str hs h ih =>
    rename_i is s post
    intro pre done at' hat ht hd
    subst hat
    obtain ⟨n, ih⟩ := ih (pre ++ 34 :: (s ++ [34])) (done ++ [.q s]) (((pre.length + 1 + s.length + 1 : Nat) : Int)) (by simp; omega) (by simp [ht]) (by simpa using hd)
    have e : pick (pre.length : Int) text = some 34 := by subst ht; exact nth_mid _ _ _
    have e2 : cut text (some ((pre.length : Int) + 1)) (some (((pre.length + 1 + s.length + 1 : Nat) : Int) - 1)) = s := by
      have := cut_at (pre ++ [34]) (s ++ 34 :: post) s.length
      have e1 : (pre ++ [34]).length = pre.length + 1 := by simp
      rw [e1] at this
      have e3 : (((pre.length + 1 + s.length + 1 : Nat) : Int) - 1) = ((pre.length + 1 + s.length : Nat) : Int) := by omega
      have e4 : ((pre.length : Int) + 1) = ((pre.length + 1 : Nat) : Int) := by omega
      rw [e3, e4]
      subst ht
      have e5 : pre ++ 34 :: (s ++ 34 :: post) = (pre ++ [34]) ++ (s ++ 34 :: post) := by simp
      rw [e5, this]; simp
    have ih' : ∀ toks (row beg : Int) x5 x6 x7 S, S = st0 ++ [O.lst toks] → Tks (done ++ [.q s]) toks → toks.length ≤ (pre ++ 34 :: (s ++ [34])).length →
      whn (E (SpN N) t0_read_tokens) (X (SpN N) b3_read_tokens) K n ⟨[some (.str text), some (.obj st0.length), some (.int (pre.length + 1 + s.length + 1 : Nat)), some (.int row), some (.int beg), x5, x6, x7], S⟩ := by
      intro toks row beg x5 x6 x7 S hS h1 h2
      subst hS
      exact ih toks row beg x5 x6 x7 h1 h2
    refine ⟨n + 1, fun toks row beg x5 x6 x7 hk hn => ?_⟩
    have hsm : small (some ((pre.length : Int) + 1)) := fun j q => by cases q; subst ht; simp at hl; omega
    have hsm2 : small (some (((pre.length + 1 + s.length + 1 : Nat) : Int) - 1)) := fun j q => by cases q; subst ht; simp at hl; omega
    conv => whnf
    refine ⟨m6 hl, ?_⟩
    refine Br.t (decide_eq_true (by subst ht; simp; omega)) ?_
    conv => whnf
    rw [e]
    refine ⟨m6 hl, ?_⟩
    conv => whnf
    refine Br.f rfl ?_
    conv => whnf
    refine Br.f rfl ?_
    conv => whnf
    refine Br.f rfl ?_
    conv => whnf
    refine Br.f rfl ?_
    conv => whnf
    refine Br.f rfl ?_
    conv => whnf
    refine Br.t rfl ?_
    conv => whnf
    have h108' := h108 pre s post
    rw [← ht] at h108'
    refine h108' _ _ (st0 ++ [.lst toks]) _ hl hs ?_
    conv => whnf
    refine ⟨⟨_, last_at st0 _⟩, ?_⟩
    conv => whnf
    refine ⟨⟨hsm, hsm2, m6 hl⟩, ?_⟩
    conv => whnf
    have htk : toks.length < line := by
      have : (1000001 : Nat) ≤ line := by decide
      have : pre.length ≤ text.length := by rw [ht]; simp
      omega
    refine ⟨toks, last_at st0 _, htk, ?_⟩
    conv => whnf
    refine ih' _ row beg _ _ _ _ (set_last st0 _ _) (hk.snoc ⟨_, _, by rw [e2]⟩) (by simp; omega)
end Mine
end

section
set_option maxRecDepth 100000
namespace Mine
noncomputable def S122 (N : Nat) : Prop := ∀ (text : List Nat) (is : List Itm) (st : List O) (K : D → List O → Prop), Txt is text → text.length ≤ 900000 → (∀ toks (a b : D), Tks is toks → toks.length ≤ 900000 → K (.obj st.length) (st ++ [.lst (toks ++ [tk w_eof [] a b])])) → SpN N 122 [.str text] st K
theorem p122 (N : Nat) (h94 : S94 N) (h101 : S101 N) (h108 : S108 N) (h115 : S115 N) : S122 (N + 1) := by
  intro text is st K ht hl k
  refine ⟨rfl, ?_⟩
  conv => whnf
  obtain ⟨n, hn⟩ := lex N h94 h101 h108 h115 text (by omega) st (fun fl σ => match fl with
      | .next => X (SpN N) (.seq (.exp (.sm .append (.loc 1) (.cons (.tup (.cons (.str [101, 111, 102]) (.cons (.str []) (.cons (.loc 3) (.cons (.bin .add (.bin .sub (.loc 2) (.loc 4)) (.int 1)) .nil))))) .nil))) (.seq (.ret (.loc 1)) .skip)) σ fun fl σ => match fl with | .next => K .none σ.st | .ret d => K d σ.st
      | .ret d => K d σ.st) is (fun toks row beg x5 x6 x7 hk hlen => by
    conv => whnf
    refine ⟨⟨_, last_at st _⟩, ?_⟩
    conv => whnf
    have htk : toks.length < line := by
      have : (1000001 : Nat) ≤ line := by decide
      omega
    refine ⟨toks, last_at st _, htk, ?_⟩
    have := k toks (.int row) (.int (text.length - beg + 1)) hk (by omega)
    rw [← set_last st (.lst toks)] at this
    exact this) ht [] [] 0 rfl rfl rfl
  exact ⟨n, hn [] 1 0 none none none trivial (Nat.le_refl _)⟩

/-- the two makers -/
noncomputable def S404 (N : Nat) : Prop := ∀ (i : Nat) (a b : D) (st : List O) (K : D → List O → Prop), st[i]? = some (.ins 407 []) → (∀ st', Grow i st st' → st'.length = st.length → K .none st') → SpN N 404 [.obj i, a, b] st K
theorem p404 (N : Nat) : S404 (N + 1) := by
  intro i a b st K hi k
  have hl := at_lt hi
  refine ⟨rfl, ?_⟩
  conv => whnf
  refine ⟨_, hi, Nat.zero_le _, ?_⟩
  conv => whnf
  refine ⟨_, List.getElem?_set_self hl, Nat.le_of_ble_eq_true rfl, ?_⟩
  conv => whnf
  refine k _ ⟨by simp [St.upd, St.new, St.put], fun j hj hn => ?_⟩ (by simp [St.upd, St.new, St.put])
  exact (List.getElem?_set_ne (Ne.symm hn)).trans (List.getElem?_set_ne (Ne.symm hn))
noncomputable def S150 (N : Nat) : Prop := ∀ (i t : Nat) (b : D) (toks : List D) (st : List O) (K : D → List O → Prop), st[i]? = some (.ins 217 []) → st[t]? = some (.lst toks) → toks.length ≤ 1000000 → i ≠ t → (∀ st', Rdr st' i t toks 0 → Grow i st st' → K .none st') → SpN N 150 [.obj i, .obj t, b] st K
theorem p150 (N : Nat) : S150 (N + 1) := by
  intro i t b toks st K hi ht hlen hne k
  have hl := at_lt hi
  refine ⟨rfl, ?_⟩
  conv => whnf
  refine ⟨_, hi, Nat.zero_le _, ?_⟩
  conv => whnf
  refine ⟨_, List.getElem?_set_self hl, Nat.le_of_ble_eq_true rfl, ?_⟩
  conv => whnf
  refine ⟨_, List.getElem?_set_self (by simp [St.upd, St.new, St.put]; omega), Nat.le_of_ble_eq_true rfl, ?_⟩
  conv => whnf
  have e3 : ((((st.set i (.ins 217 [(0, .obj t)])).set i (.ins 217 [(0, .obj t), (1, .int 0)])).set i (.ins 217 [(0, .obj t), (1, .int 0), (2, b)])) ++ [O.dct []])[i]? = some (.ins 217 [(0, .obj t), (1, .int 0), (2, b)]) := by
    rw [List.getElem?_append_left (by simp [St.upd, St.new, St.put]; omega)]
    exact List.getElem?_set_self (by simp [St.upd, St.new, St.put]; omega)
  refine ⟨_, e3, Nat.le_of_ble_eq_true rfl, ?_⟩
  conv => whnf
  refine ⟨_, List.getElem?_set_self (by simp [St.upd, St.new, St.put]; omega), Nat.le_of_ble_eq_true rfl, ?_⟩
  conv => whnf
  refine ⟨_, List.getElem?_set_self (by simp [St.upd, St.new, St.put]; omega), Nat.le_of_ble_eq_true rfl, ?_⟩
  conv => whnf
  refine k _ ⟨⟨_, _, _, _, List.getElem?_set_self (by simp [St.upd, St.new, St.put]; omega)⟩, ?_, hlen, hne⟩ ⟨by simp [St.upd, St.new, St.put], fun j hj hn => ?_⟩
  · refine (List.getElem?_set_ne hne).trans ((List.getElem?_set_ne hne).trans ((List.getElem?_set_ne hne).trans ?_))
    refine (List.getElem?_append_left (by simp [St.upd, St.new, St.put]; exact at_lt ht)).trans ?_
    exact (List.getElem?_set_ne hne).trans ((List.getElem?_set_ne hne).trans ((List.getElem?_set_ne hne).trans ht))
  · have hn' := Ne.symm hn
    refine (List.getElem?_set_ne hn').trans ((List.getElem?_set_ne hn').trans ((List.getElem?_set_ne hn').trans ?_))
    refine (List.getElem?_append_left (by simp [St.upd, St.new, St.put]; exact hj)).trans ?_
    exact (List.getElem?_set_ne hn').trans ((List.getElem?_set_ne hn').trans (List.getElem?_set_ne hn'))
noncomputable def S376 (N : Nat) : Prop := ∀ (st : List O) (K : D → List O → Prop), K (.obj st.length) (st ++ [.dct [(w_counter, .sta 313), (w_quota, .sta 327), (w_limit, .sta 369)]]) → SpN N 376 [] st K
theorem p376 (N : Nat) : S376 (N + 1) := by
  intro st K k
  refine ⟨rfl, ?_⟩
  conv => whnf
  exact k
noncomputable def S467 (N : Nat) : Prop := ∀ (st : List O) (K : D → List O → Prop), K (.obj st.length) (st ++ [.dct [(w_counter, .sta 439), (w_quota, .sta 446), (w_limit, .sta 453), (w_object, .sta 460)]]) → SpN N 467 [] st K
theorem p467 (N : Nat) : S467 (N + 1) := by
  intro st K k
  refine ⟨rfl, ?_⟩
  conv => whnf
  exact k

inductive Sp1 (toks : List D) (p : Nat) : D → Nat → Prop
  | c {v q} : SpC toks p v q → Sp1 toks p v q
  | q {v q} : SpQ toks p v q → Sp1 toks p v q
  | l {v q} : SpL toks p v q → Sp1 toks p v q
  | g {v q} : SpG toks p v q → Sp1 toks p v q
  | n {v q} : SpN' toks p v q → Sp1 toks p v q
inductive Prs (toks : List D) : Nat → List D → Prop
  | nil {p a b} : toks[p]? = some (tk w_eof [] a b) → Prs toks p []
  | cons {p v q vs} : Sp1 toks p v q → Prs toks q vs → Prs toks p (v :: vs)
noncomputable abbrev tab : List (List Nat × D) := [(w_counter, .sta 313), (w_quota, .sta 327), (w_limit, .sta 369), (w_log, .sta 383), (w_notrack, .sta 390)]
theorem sp1_at (N : Nat) (r1 : Sread 313 N SpC) (r2 : Sread 327 N SpQ) (r3 : Sread 369 N SpL) (r4 : Sread 383 N SpG) (r5 : Sread 390 N SpN') {toks p v q} (h : Sp1 toks p v q) : ∃ x a b f, toks[p]? = some (tk wd x a b) ∧ kget x tab = some (.sta f) ∧ hasSign f [313, 327, 369, 383, 390] = true ∧
    ∀ (st : List O) (r t : Nat) (K : D → List O → Prop), Rdr st r t toks p → (∀ st', Rdr st' r t toks q → Grow r st st' → K v st') → SpN N f [.obj r] st K := by
  cases h with
  | c h => cases h with
    | obj h0 h1 h2 => obtain ⟨a, b, h⟩ := id h0; exact ⟨_, a, b, 313, h, rfl, rfl, fun st r t K R k => r1 st r t toks p _ _ K R (.obj h0 h1 h2) k⟩
    | told h0 h1 h2 => obtain ⟨a, b, h⟩ := id h0; exact ⟨_, a, b, 313, h, rfl, rfl, fun st r t K R k => r1 st r t toks p _ _ K R (.told h0 h1 h2) k⟩
  | q h => cases h with
    | obj h0 h1 h2 => obtain ⟨a, b, h⟩ := id h0; exact ⟨_, a, b, 327, h, rfl, rfl, fun st r t K R k => r2 st r t toks p _ _ K R (.obj h0 h1 h2) k⟩
    | told h0 h1 h2 => obtain ⟨a, b, h⟩ := id h0; exact ⟨_, a, b, 327, h, rfl, rfl, fun st r t K R k => r2 st r t toks p _ _ K R (.told h0 h1 h2) k⟩
  | l h => cases h with
    | obj h0 h1 h2 => obtain ⟨a, b, h⟩ := id h0; exact ⟨_, a, b, 369, h, rfl, rfl, fun st r t K R k => r3 st r t toks p _ _ K R (.obj h0 h1 h2) k⟩
    | told h0 h1 => obtain ⟨a, b, h⟩ := id h0; exact ⟨_, a, b, 369, h, rfl, rfl, fun st r t K R k => r3 st r t toks p _ _ K R (.told h0 h1) k⟩
  | g h => cases h with
    | told h0 h1 => obtain ⟨a, b, h⟩ := id h0; exact ⟨_, a, b, 383, h, rfl, rfl, fun st r t K R k => r4 st r t toks p _ _ K R (.told h0 h1) k⟩
  | n h => cases h with
    | told h0 => obtain ⟨a, b, h⟩ := id h0; exact ⟨_, a, b, 390, h, rfl, rfl, fun st r t K R k => r5 st r t toks p _ _ K R (.told h0) k⟩
end Mine
end

section
set_option maxRecDepth 100000
namespace Mine
theorem read_loop (N : Nat) (h158 : S158 N) (hr : ∀ {toks p v q}, Sp1 toks p v q → ∃ x a b f, toks[p]? = some (tk wd x a b) ∧ kget x tab = some (.sta f) ∧ hasSign f [313, 327, 369, 383, 390] = true ∧
    ∀ (st : List O) (r t : Nat) (K : D → List O → Prop), Rdr st r t toks p → (∀ st', Rdr st' r t toks q → Grow r st st' → K v st') → SpN N f [.obj r] st K) {toks : List D} {p : Nat} {vs : List D} (h : Prs toks p vs) :
    ∃ n, ∀ (st : List O) (r t w g : Nat) (x0 x4 : Option D) (acc : List D) (K : Fl → St → Prop), Rdr st r t toks p → st[w]? = some (.dct tab) → st[g]? = some (.lst acc) → w ≠ r → g ≠ r → g ≠ t → g ≠ w → acc.length + vs.length ≤ 1000 →
      (∀ st' x4 q a b, Rdr st' r t toks q → toks[q]? = some (tk w_eof [] a b) → st'[g]? = some (.lst (acc ++ vs)) → Grow2 r g st st' → K .next ⟨[x0, some (.obj r), some (.obj w), some (.obj g), x4], st'⟩) →
      whn (E (SpN N) t0__law_read) (X (SpN N) b1__law_read) K n ⟨[x0, some (.obj r), some (.obj w), some (.obj g), x4], st⟩ := by
  induction h with
  | nil h =>
    refine ⟨1, fun st r t w g x0 x4 acc K R hw hg h1 h2 h3 h4 hl k => ?_⟩
    conv => whnf
    refine R.c8 ?_
    conv => whnf
    refine h158 st r t toks _ _ _ R h ?_
    conv => whnf
    refine ⟨Nat.le_of_ble_eq_true rfl, ?_⟩
    conv => whnf
    refine Br.f rfl ?_
    exact k st x4 _ _ _ R h (by simpa using hg) ⟨Nat.le_refl _, fun _ _ _ _ => rfl⟩
  | cons h hpr ih =>
    rename_i p v q vs
    obtain ⟨n, ih⟩ := ih
    obtain ⟨x, a, b, f, hx, hf, hin, hspec⟩ := hr h
    refine ⟨n + 1, fun st r t w g x0 x4 acc K R hw hg h1 h2 h3 h4 hl k => ?_⟩
    conv => whnf
    refine R.c8 ?_
    conv => whnf
    refine h158 st r t toks _ _ _ R hx ?_
    conv => whnf
    refine ⟨Nat.le_of_ble_eq_true rfl, ?_⟩
    conv => whnf
    refine Br.t rfl ?_
    conv => whnf
    refine R.c8 ?_
    conv => whnf
    refine h158 st r t toks _ _ _ R hx ?_
    conv => whnf
    refine ⟨Nat.le_of_ble_eq_true rfl, ?_⟩
    conv => whnf
    refine ⟨_, hw, ?_⟩
    refine Br.f (by rw [hf]; rfl) ?_
    conv => whnf
    refine ⟨⟨_, hg⟩, ?_⟩
    conv => whnf
    refine ⟨_, hw, ?_⟩
    rw [hf]
    conv => whnf
    refine ⟨hin, ?_⟩
    conv => whnf
    refine hspec st r t _ R fun st1 R1 G1 => ?_
    conv => whnf
    have hg1 : st1[g]? = some (.lst acc) := (G1.keep g (at_lt hg) h2).trans hg
    have hw1 : st1[w]? = some (.dct tab) := (G1.keep w (at_lt hw) h1).trans hw
    refine ⟨acc, hg1, Nat.lt_of_le_of_lt (show acc.length ≤ 1000 by omega) (by decide), ?_⟩
    refine ih (st1.set g (.lst (acc ++ [v]))) r t w g x0 _ (acc ++ [v]) K (R1.set _ h2 h3) ((List.getElem?_set_ne h4).trans hw1) (List.getElem?_set_self (at_lt hg1)) h1 h2 h3 h4 (by simp at hl ⊢; omega) fun st' x4' q' a' b' R' hq hg' G' => ?_
    refine k st' x4' q' a' b' R' hq (by simpa using hg') ?_
    exact ((G1.two g).trans (.set r g st1 _)).trans G'

noncomputable def S577 (N : Nat) : Prop := ∀ (text : List Nat) (is : List Itm) (vs : List D) (st : List O) (K : D → List O → Prop), Txt is text → text.length ≤ 900000 → (∀ (toks : List D) (a b : D), Tks is toks → Prs (toks ++ [tk w_eof [] a b]) 0 vs) → vs.length ≤ 1000 →
  (∀ st' g, st'[g]? = some (.lst vs) → st.length ≤ st'.length → st.length ≤ g → (∀ i < st.length, st'[i]? = st[i]?) → K (.obj g) st') → SpN N 577 [.str text] st K
theorem p577 (N : Nat) (h122 : S122 N) (h404 : S404 N) (h150 : S150 N) (h376 : S376 N) (h158 : S158 N) (r1 : Sread 313 N SpC) (r2 : Sread 327 N SpQ) (r3 : Sread 369 N SpL) (r4 : Sread 383 N SpG) (r5 : Sread 390 N SpN') : S577 (N + 1) := by
  intro text is vs st K ht hl hp hv k
  refine ⟨rfl, ?_⟩
  conv => whnf
  refine h122 text is st _ ht hl fun toks a b hk hlen => ?_
  have hP := hp toks a b hk
  obtain ⟨n, hn⟩ := read_loop N h158 (sp1_at N r1 r2 r3 r4 r5) hP
  conv => whnf
  refine h404 (((st ++ [O.lst (toks ++ [tk w_eof [] a b])]) ++ [O.dct []]) ++ [O.dct []]).length _ _ ((((st ++ [O.lst (toks ++ [tk w_eof [] a b])]) ++ [O.dct []]) ++ [O.dct []]) ++ [O.ins 407 []]) _ (last_at _ _) fun st1 G1 l1 => ?_
  conv => whnf
  have e1 : (((((st ++ [O.lst (toks ++ [tk w_eof [] a b])]) ++ [O.dct []]) ++ [O.dct []]) ++ [O.ins 407 []]) : List O).length = st.length + 4 := by simp
  have e0 : ((((st ++ [O.lst (toks ++ [tk w_eof [] a b])]) ++ [O.dct []]) ++ [O.dct []]) : List O).length = st.length + 3 := by simp
  rw [e1] at l1
  have t1 : st1[st.length]? = some (.lst (toks ++ [tk w_eof [] a b])) := by
    rw [G1.keep st.length (by rw [e1]; omega) (by rw [e0]; omega)]
    simp
  have b1 : ∀ i, i < st.length → st1[i]? = st[i]? := fun i hi => by
    rw [G1.keep i (by rw [e1]; omega) (by rw [e0]; omega)]
    rw [List.getElem?_append_left (by simp; omega), List.getElem?_append_left (by simp; omega), List.getElem?_append_left (by simp; omega), List.getElem?_append_left hi]
  refine h150 st1.length st.length _ (toks ++ [tk w_eof [] a b]) (st1 ++ [.ins 217 []]) _ (last_at _ _) ((List.getElem?_append_left (at_lt t1)).trans t1) (by simp; omega) (by omega) fun st2 R2 G2 => ?_
  conv => whnf
  have l2 := G2.len
  simp at l2
  have b2 : ∀ i, i < st.length → st2[i]? = st[i]? := fun i hi => by
    rw [G2.keep i (by simp; omega) (by omega), List.getElem?_append_left (by omega)]
    exact b1 i hi
  refine h376 st2 _ ?_
  conv => whnf
  refine ⟨⟨_, last_at st2 _⟩, ?_⟩
  conv => whnf
  refine ⟨_, (List.getElem?_append_left (by simp [St.new, St.put])).trans (last_at st2 _), _, last_at (st2 ++ [_]) _, by simp [St.new, St.put], Nat.le_of_ble_eq_true rfl, ?_⟩
  conv => whnf
  have R3 : Rdr ((((st2 ++ [O.dct [(w_counter, .sta 313), (w_quota, .sta 327), (w_limit, .sta 369)]]) ++ [O.dct [(w_log, .sta 383), (w_notrack, .sta 390)]]).set st2.length (.dct tab)) ++ [.lst []]) st1.length st.length (toks ++ [tk w_eof [] a b]) 0 :=
    (((R2.push _).push _).set _ (by omega) (by omega)).push _
  refine ⟨n, ?_⟩
  have e3 : (((st2 ++ [O.dct [(w_counter, .sta 313), (w_quota, .sta 327), (w_limit, .sta 369)]]) ++ [O.dct [(w_log, .sta 383), (w_notrack, .sta 390)]]).set st2.length (.dct tab)).length = st2.length + 2 := by simp
  have hR := hn _ st1.length st.length st2.length (st2.length + 2) (some (.str text)) none [] (fun fl σ => match fl with
      | .next => X (SpN N) (.seq (.ret (.ife (.cmp .eq (.idx (.meth (.loc 1) 217 8 158 .nil) (.int 0)) (.str [101, 111, 102])) (.loc 3) .none)) .skip) σ fun fl σ => match fl with | .next => K .none σ.st | .ret d => K d σ.st
      | .ret d => K d σ.st) R3 ?_ ?_ (by omega) (by omega) (by omega) (by omega) (by simpa using hv) (fun st' x4 q a' b' R' hq hg' G' => ?_)
  · have hs : ∀ (S : List O) (g : Nat), S = (((st2 ++ [O.dct [(w_counter, .sta 313), (w_quota, .sta 327), (w_limit, .sta 369)]]) ++ [O.dct [(w_log, .sta 383), (w_notrack, .sta 390)]]).set st2.length (.dct tab)) → g = S.length → g = st2.length + 2 := fun S g h h' => by rw [h', h, e3]
    rw [← e3] at hR
    exact hR
  · rw [List.getElem?_append_left (by rw [e3]; omega)]
    exact List.getElem?_set_self (by simp)
  · rw [← e3]; exact last_at _ _
  · conv => whnf
    refine R'.c8 ?_
    conv => whnf
    refine h158 st' _ _ _ q _ _ R' hq ?_
    conv => whnf
    refine ⟨Nat.le_of_ble_eq_true rfl, ?_⟩
    conv => whnf
    refine Br.t rfl ?_
    conv => whnf
    have l3 := G'.len
    simp at l3
    refine k st' (st2.length + 2) (by simpa using hg') (by omega) (by omega) fun i hi => ?_
    rw [G'.keep i (by simp; omega) (by omega) (by omega), List.getElem?_append_left (by rw [e3]; omega), List.getElem?_set_ne (by omega), List.getElem?_append_left (by simp; omega), List.getElem?_append_left (by omega)]
    exact b2 i hi
end Mine
end

section
set_option maxRecDepth 100000
namespace Mine
/-! ## the values, their words, plain -/
/-- a sign of a number -/
noncomputable def figB (c : Nat) : Bool := (decide (48 ≤ c) && decide (c ≤ 57)) || (decide (97 ≤ c) && decide (c ≤ 102)) || (decide (65 ≤ c) && decide (c ≤ 70)) || decide (c = 120)
theorem figB_lt {c : Nat} (h : figB c = true) : c < 128 := by
  simp only [figB, Bool.or_eq_true, Bool.and_eq_true, decide_eq_true_eq] at h
  omega
theorem fig_all : ∀ c < 128, figB c = true → ws c = true ∧ c ≠ 58 ∧ c ≠ 47 ∧ c ≠ 46 ∧ c ≠ 34 ∧ c ≠ 10 := by decide
theorem fig_ok {c : Nat} (h : figB c = true) : ws c = true ∧ c ≠ 58 ∧ c ≠ 47 ∧ c ≠ 46 ∧ c ≠ 34 ∧ c ≠ 10 := fig_all c (figB_lt h) h
structure Nw (w : List Nat) (n : Int) : Prop where
  num : Num w n
  ne : w ≠ []
  fig : ∀ c ∈ w, figB c = true
  len : w.length ≤ 100
theorem pl_of {w : List Nat} (h : ∀ c ∈ w, ws c = true ∧ c ≠ 58) (ne : w ≠ []) (d : w ≠ [46]) (s : w ≠ [47]) (l : w.length ≤ 1000) : Pl w where
  ne := ne
  ws := fun c hc => (h c hc).1
  first := fun c r e => (h c (by rw [e]; simp)).2
  last := fun r c e => (h c (by rw [e]; simp)).2
  dot := d
  stroke := s
  len := l
noncomputable def plB (w : List Nat) : Bool := w.all (fun c => ws c && !decide (c = 58)) && !decide (w = []) && !decide (w = [46]) && !decide (w = [47]) && decide (w.length ≤ 1000)
theorem plOf {w : List Nat} (h : plB w = true) : Pl w := by
  simp only [plB, Bool.and_eq_true, List.all_eq_true, Bool.not_eq_true', decide_eq_false_iff_not, decide_eq_true_eq] at h
  exact pl_of (fun c hc => h.1.1.1.1 c hc) h.1.1.1.2 h.1.1.2 h.1.2 h.2
theorem Nw.pl {w n} (h : Nw w n) : Pl w := by
  refine pl_of (fun c hc => ⟨(fig_ok (h.fig c hc)).1, (fig_ok (h.fig c hc)).2.1⟩) h.ne ?_ ?_ (Nat.le_trans h.len (by decide))
  · rintro rfl; exact (fig_ok (h.fig 46 (by simp))).2.2.2.1 rfl
  · rintro rfl; exact (fig_ok (h.fig 47 (by simp))).2.2.1 rfl
theorem Nw.st {w n} (h : Nw w n) : 47 ∉ w := fun hc => (fig_ok (h.fig 47 hc)).2.2.1 rfl
theorem Nw.leq {w n} (h : Nw w n) {y : List Nat} (hy : ∃ c ∈ y, figB c = false) : leq w y = false := leq_ne fun e => by
  obtain ⟨c, hc, hf⟩ := hy
  rw [← e] at hc
  rw [h.fig c hc] at hf
  cases hf
theorem isU_pl {u} (h : isU u) : (∀ c ∈ u, ws c = true ∧ c ≠ 58) ∧ u.length ≤ 6 ∧ u ≠ [] := by
  rcases h with rfl | rfl | rfl | rfl | rfl <;> decide
theorem rate_pl {w : List Nat} (hw : ∀ c ∈ w, ws c = true ∧ c ≠ 58) (ne : w ≠ []) (hl : w.length ≤ 100) {u} (h : isU u) : Pl (w ++ 47 :: u) := by
  obtain ⟨h1, h2, h3⟩ := isU_pl h
  have hn : 1 ≤ w.length := by cases w with | nil => exact absurd rfl ne | cons a r => simp
  refine pl_of (fun c hc => ?_) (by simp) (fun e => ?_) (fun e => ?_) (by simp; omega)
  · rw [List.mem_append, List.mem_cons] at hc
    rcases hc with hc | rfl | hc
    · exact hw c hc
    · exact ⟨rfl, by decide⟩
    · exact h1 c hc
  · have := congrArg List.length e; simp at this; omega
  · have := congrArg List.length e; simp at this; omega
theorem un_pl (i : Nat) : (∀ c ∈ un i, ws c = true ∧ c ≠ 58) ∧ un i ≠ [] ∧ (un i).length ≤ 100 := by
  match i with
  | 0 => decide
  | 1 => decide
  | 2 => decide
  | n + 3 => exact (by decide : (∀ c ∈ w_gbytes, ws c = true ∧ c ≠ 58) ∧ w_gbytes ≠ [] ∧ w_gbytes.length ≤ 100)

inductive V where
  | ctr (n m : Int)
  | quo (b : Bool) (n m : Int)
  | lim (b : Bool) (n : Int) (u : List Nat) (v : Int) (oc : Bool)
  | obj (k x : List Nat)
  | log (p l : List Nat)
  | ntk
noncomputable def V.toD : V → D
  | .ctr n m => .tup [.str w_counter, .int n, .int m]
  | .quo b n m => .tup [.str w_quota, .bool b, .int n, .int m]
  | .lim b n u v oc => .tup [.str w_limit, .bool b, .int n, .str u, .int v, .bool oc]
  | .obj k x => .tup [.str w_object, .str k, .str x]
  | .log p l => .tup [.str w_log, .str p, .str l]
  | .ntk => .tup [.str w_notrack]

/-- the six texts -/
noncomputable abbrev x_1 : List Nat := [120, 49]
noncomputable abbrev x_2 : List Nat := [97, 95, 98, 45, 50]
noncomputable abbrev x_3 : List Nat := [105, 110]
noncomputable abbrev x_4 : List Nat := [116, 119, 111, 32, 32, 98, 108, 97, 110, 107, 115]
noncomputable abbrev x_5 : List Nat := [108, 111, 103]
noncomputable def isX (x : List Nat) : Prop := x = x_1 ∨ x = x_2 ∨ x = x_3 ∨ x = x_4 ∨ x = x_5 ∨ x = []
noncomputable def isK (k : List Nat) : Prop := k = w_counter ∨ k = w_quota ∨ k = w_limit
noncomputable def In64 (n : Int) : Prop := 0 ≤ n ∧ n ≤ top64
noncomputable def OkV : V → Prop
  | .ctr n m => In64 n ∧ In64 m
  | .quo _ n m => In64 n ∧ In64 m
  | .lim _ n u v oc => In64 n ∧ isU u ∧ In64 v ∧ (oc = false → v ≤ 4294967295)
  | .obj k x => isK k ∧ isX x
  | .log p l => isX p ∧ isL l
  | .ntk => True

inductive SzI (many : Nat) : Int → List Itm → Prop
  | mk {x n i} : Nw x n → 0 ≤ n → i < many → n * 1024 ^ i ≤ top64 → SzI many (n * 1024 ^ i) [.w x, .w (un i)]
inductive OvI : Bool → List Itm → Prop
  | over : OvI true [.w w_over]
  | unt : OvI false [.w w_until]
  | no : OvI false []
inductive CtI : Int → Int → List Itm → Prop
  | no : CtI 0 0 []
  | yes {x n y m} : Nw x n → n ≤ top64 → Nw y m → m ≤ top64 → CtI n m [.w w_packets, .w x, .w w_bytes, .w y]
inductive QuI : Int → List Itm → Prop
  | no : QuI 0 []
  | yes {u is} : SzI 4 u is → QuI u (.w w_used :: is)
inductive RtI : Int → List Nat → Bool → List Itm → Prop
  | pk {x u n} : Nw x n → 0 ≤ n → n ≤ top64 → isU u → RtI n u false [.w (x ++ 47 :: u)]
  | oc {x u n i} : Nw x n → 0 ≤ n → i < 3 → n * 1024 ^ i ≤ top64 → isU u → RtI (n * 1024 ^ i) u true [.w x, .w (un i ++ 47 :: u)]
inductive BuI : Bool → Int → List Itm → Prop
  | no {oc} : BuI oc (bif oc then 0 else 5) []
  | oct {v is} : SzI 3 v is → BuI true v (.w w_burst :: is)
  | pkt {x v} : Nw x v → v ≤ 4294967295 → BuI false v [.w w_burst, .w x, .w w_packets]
inductive TxI : List Nat → Itm → Prop
  | w {x} : plB x = true → TxI x (.w x)
  | q {x} : TxI x (.q x)
inductive PrI : List Nat → List Itm → Prop
  | no : PrI [] []
  | yes {x t} : TxI x t → PrI x [.w w_prefix, t]
inductive LvI : List Nat → List Itm → Prop
  | no : LvI w_warn []
  | yes {l} : LvI l [.w w_level, .w l]
inductive StI : V → List Itm → Prop
  | ctr {n m is} : CtI n m is → StI (.ctr n m) (.w w_counter :: is)
  | quo {b n m i1 i2 i3} : OvI b i1 → SzI 4 n i2 → QuI m i3 → StI (.quo b n m) (.w w_quota :: (i1 ++ (i2 ++ i3)))
  | lim {b n u v oc i1 i2 i3} : OvI b i1 → RtI n u oc i2 → BuI oc v i3 → StI (.lim b n u v oc) (.w w_limit :: .w w_rate :: (i1 ++ (i2 ++ i3)))
  | obj {k x t} : TxI x t → StI (.obj k x) [.w k, .w w_name, t]
  | logA {p l i1 i2} : PrI p i1 → LvI l i2 → StI (.log p l) (.w w_log :: (i1 ++ i2))
  | logB {p l i1 i2} : PrI p i1 → LvI l i2 → StI (.log p l) (.w w_log :: (i2 ++ i1))
  | ntk : StI .ntk [.w w_notrack]

/-! ## the items as tokens -/
noncomputable def AtQ (toks : List D) (p : Nat) (x : List Nat) : Prop := ∃ a b, toks[p]? = some (tk sg x a b)
noncomputable def AtI (toks : List D) : Nat → List Itm → Prop
  | _, [] => True
  | p, .w s :: is => At toks p s ∧ AtI toks (p + 1) is
  | p, .q s :: is => AtQ toks p s ∧ AtI toks (p + 1) is
theorem AtI.app {toks} : ∀ {a b : List Itm} {p}, AtI toks p (a ++ b) → AtI toks p a ∧ AtI toks (p + a.length) b
  | [], b, p, h => ⟨trivial, h⟩
  | .w s :: a, b, p, h => by
    obtain ⟨h1, h2⟩ := h
    obtain ⟨h3, h4⟩ := AtI.app h2
    exact ⟨⟨h1, h3⟩, by rw [List.length_cons, ← Nat.add_assoc, Nat.add_right_comm]; exact h4⟩
  | .q s :: a, b, p, h => by
    obtain ⟨h1, h2⟩ := h
    obtain ⟨h3, h4⟩ := AtI.app h2
    exact ⟨⟨h1, h3⟩, by rw [List.length_cons, ← Nat.add_assoc, Nat.add_right_comm]; exact h4⟩
theorem AtI.of_tks : ∀ {is : List Itm} {ds : List D} {pre post : List D}, Tks is ds → AtI (pre ++ (ds ++ post)) pre.length is
  | [], _, _, _, _ => trivial
  | .w s :: is, d :: ds, pre, post, h => by
    obtain ⟨⟨a, b, e⟩, h2⟩ := h
    have r := AtI.of_tks (pre := pre ++ [d]) (post := post) h2
    rw [List.length_append] at r
    exact ⟨⟨_, _, by rw [← e]; simp⟩, by simpa using r⟩
  | .q s :: is, d :: ds, pre, post, h => by
    obtain ⟨⟨a, b, e⟩, h2⟩ := h
    have r := AtI.of_tks (pre := pre ++ [d]) (post := post) h2
    rw [List.length_append] at r
    exact ⟨⟨_, _, by rw [← e]; simp⟩, by simpa using r⟩
  | .w _ :: _, [], _, _, h => h.elim
  | .q _ :: _, [], _, _, h => h.elim
theorem Tks.len : ∀ {is : List Itm} {ds : List D}, Tks is ds → ds.length = is.length
  | [], [], _ => rfl
  | _ :: _, _ :: _, h => by rw [List.length_cons, List.length_cons, Tks.len h.2]
  | [], _ :: _, h => h.elim
  | _ :: _, [], h => h.elim

/-- what may follow a statement -/
noncomputable def heads : List (List Nat) := [w_counter, w_quota, w_limit, w_log, w_notrack]
noncomputable def Nx (toks : List D) (p : Nat) : Prop := ∃ kk x a b, toks[p]? = some (tk kk x a b) ∧ (kk = w_eof ∨ x ∈ heads)
theorem Nx.nt {toks p} (h : Nx toks p) {xs : List (List Nat)} (hx : xs.all (fun y => !heads.any (fun x => leq x y)) = true) : Nt toks p xs := by
  obtain ⟨kk, x, a, b, h1, h2⟩ := h
  refine ⟨kk, x, a, b, h1, fun y hy => ?_⟩
  rcases h2 with rfl | h2
  · rfl
  · have := List.all_eq_true.mp hx y hy
    rw [Bool.not_eq_true'] at this
    have h3 := List.any_eq_false.mp this x h2
    rw [Bool.and_eq_false_iff]
    exact .inr (by simpa using h3)
theorem At.nt {toks p x} (h : At toks p x) {xs : List (List Nat)} (hx : ∀ y ∈ xs, leq x y = false) : Nt toks p xs := by
  obtain ⟨a, b, h⟩ := h
  exact ⟨wd, x, a, b, h, fun y hy => by rw [hx y hy, Bool.and_false]⟩

theorem ov_of {toks p b is} (h : OvI b is) (ha : AtI toks p is) (hn : Nt toks (p + is.length) [w_over, w_until]) : Ov toks p b (p + is.length) := by
  cases h with
  | over => exact .over ha.1
  | unt => exact .unt ha.1
  | no => exact .no hn
theorem sz_of {toks p many v is} (h : SzI many v is) (ha : AtI toks p is) : Sz toks p many v ∧ is.length = 2 := by
  cases h with
  | mk h1 h2 h3 h4 =>
    rename_i x n i
    refine ⟨⟨_, n, _, ha.1, h1.num, h2, ?_, ha.2.1, h3, rfl, h4⟩, rfl⟩
    have hp : 1 ≤ (1024 : Int) ^ i := by
      have := Int.pow_pos (n := 1024) (m := i) (by decide); omega
    have := Int.mul_le_mul_of_nonneg_left hp h2
    omega
theorem sz_first {many v is} (h : SzI many v is) : ∃ x n r, is = .w x :: r ∧ Nw x n := by
  cases h with
  | mk h1 _ _ _ => exact ⟨_, _, _, rfl, h1⟩
theorem nt_ov {toks p x n} (h : Nw x n) (ha : At toks p x) : Nt toks p [w_over, w_until] := ha.nt fun y hy => by
  simp only [List.mem_cons, List.not_mem_nil, or_false] at hy
  rcases hy with rfl | rfl
  · exact h.leq ⟨111, by decide, rfl⟩
  · exact h.leq ⟨117, by decide, rfl⟩
theorem ct_of {toks p n m is} (h : CtI n m is) (ha : AtI toks p is) (hn : Nx toks (p + is.length)) : Ctr toks p n m (p + is.length) ∧ Nt toks p [w_name] := by
  cases h with
  | no => exact ⟨.no (hn.nt rfl), hn.nt rfl⟩
  | yes h1 h2 h3 h4 =>
    obtain ⟨a1, a2, a3, a4, _⟩ := ha
    exact ⟨.yes a1 a2 h1.num h2 a3 a4 h3.num h4, a1.nt (fun y hy => by simp only [List.mem_cons, List.not_mem_nil, or_false] at hy; subst hy; rfl)⟩
theorem nt_name {toks p x n} (h : Nw x n) (ha : At toks p x) : Nt toks p [w_name] := ha.nt fun y hy => by
  simp only [List.mem_cons, List.not_mem_nil, or_false] at hy
  subst hy
  exact h.leq ⟨110, by decide, rfl⟩
theorem ov_name {toks p b is} (h : OvI b is) (ha : AtI toks p is) (hn : Nt toks (p + is.length) [w_name]) : Nt toks p [w_name] := by
  cases h with
  | over => exact ha.1.nt fun y hy => by simp only [List.mem_cons, List.not_mem_nil, or_false] at hy; subst hy; rfl
  | unt => exact ha.1.nt fun y hy => by simp only [List.mem_cons, List.not_mem_nil, or_false] at hy; subst hy; rfl
  | no => exact hn
theorem qb_of {toks p b n m i1 i2 i3} (h1 : OvI b i1) (h2 : SzI 4 n i2) (h3 : QuI m i3) (ha : AtI toks p (i1 ++ (i2 ++ i3))) (hn : Nx toks (p + (i1 ++ (i2 ++ i3)).length)) : QB toks p b n m (p + (i1 ++ (i2 ++ i3)).length) ∧ Nt toks p [w_name] := by
  obtain ⟨a1, a23⟩ := ha.app
  obtain ⟨a2, a3⟩ := a23.app
  obtain ⟨x, k, r, e, hk⟩ := sz_first h2
  have ax : At toks (p + i1.length) x := by rw [e] at a2; exact a2.1
  have o := ov_of h1 a1 (nt_ov hk ax)
  obtain ⟨z, hz2⟩ := sz_of h2 a2
  refine ⟨?_, ov_name h1 a1 (nt_name hk ax)⟩
  cases h3 with
  | no =>
    have e1 : p + (i1 ++ (i2 ++ [])).length = p + i1.length + 2 := by simp [hz2]; omega
    rw [e1] at hn ⊢
    exact .no o z (hn.nt rfl)
  | yes h4 =>
    rename_i is
    rw [hz2] at a3
    obtain ⟨a4, a5⟩ := a3
    obtain ⟨z', hz'⟩ := sz_of h4 a5
    have e1 : p + (i1 ++ (i2 ++ (.w w_used :: is))).length = p + i1.length + 5 := by simp [hz2, hz']; omega
    rw [e1]
    exact .yes o z a4 z'
theorem rt_first {n u oc is} (h : RtI n u oc is) {toks p} (ha : AtI toks p is) : Nt toks p [w_over, w_until] := by
  cases h with
  | pk h1 h2 h3 h4 =>
    refine ha.1.nt fun y hy => ?_
    simp only [List.mem_cons, List.not_mem_nil, or_false] at hy
    refine leq_ne fun e => ?_
    have hm : 47 ∈ y := by rw [← e]; simp
    rcases hy with rfl | rfl <;> exact absurd hm (by decide)
  | oc h1 h2 h3 h4 h5 => exact nt_ov h1 ha.1
theorem rt_of {toks p n u oc is} (h : RtI n u oc is) (ha : AtI toks p is) : Rt toks p n u oc (p + is.length) := by
  cases h with
  | pk h1 h2 h3 h4 => exact .pk ha.1 h1.st h1.num h2 h3 h4
  | oc h1 h2 h3 h4 h5 =>
    rename_i x n i
    refine .oc ha.1 h1.st h1.num h2 ?_ h5 h3 ha.2.1 h4
    have hp : 1 ≤ (1024 : Int) ^ i := by
      have := Int.pow_pos (n := 1024) (m := i) (by decide); omega
    have := Int.mul_le_mul_of_nonneg_left hp h2
    omega
theorem lb_of {toks p b n u v oc i1 i2 i3} (h1 : OvI b i1) (h2 : RtI n u oc i2) (h3 : BuI oc v i3) (ha : AtI toks p (.w w_rate :: (i1 ++ (i2 ++ i3)))) (hn : Nx toks (p + (Itm.w w_rate :: (i1 ++ (i2 ++ i3))).length)) : LB toks p b n u v oc (p + (Itm.w w_rate :: (i1 ++ (i2 ++ i3))).length) := by
  obtain ⟨a0, a⟩ := ha
  obtain ⟨a1, a23⟩ := a.app
  obtain ⟨a2, a3⟩ := a23.app
  have o := ov_of h1 a1 (rt_first h2 a2)
  have rt := rt_of h2 a2
  cases h3 with
  | no =>
    have e1 : p + (Itm.w w_rate :: (i1 ++ (i2 ++ []))).length = p + 1 + i1.length + i2.length := by simp; omega
    rw [e1] at hn ⊢
    exact .no a0 o rt (hn.nt rfl)
  | oct h4 =>
    rename_i is
    obtain ⟨a4, a5⟩ := a3
    obtain ⟨z', hz'⟩ := sz_of h4 a5
    have e1 : p + (Itm.w w_rate :: (i1 ++ (i2 ++ (.w w_burst :: is)))).length = p + 1 + i1.length + i2.length + 3 := by simp [hz']; omega
    rw [e1]
    exact .oct a0 o rt a4 z'
  | pkt h4 h5 =>
    rename_i x
    obtain ⟨a4, a5, a6, _⟩ := a3
    have e1 : p + (Itm.w w_rate :: (i1 ++ (i2 ++ [.w w_burst, .w x, .w w_packets]))).length = p + 1 + i1.length + i2.length + 3 := by simp; omega
    rw [e1]
    exact .pkt a0 o rt a4 a5 h4.num h5 a6
theorem tx_of {toks p x t r} (h : TxI x t) (ha : AtI toks p (t :: r)) : AtS toks p x ∧ AtI toks (p + 1) r := by
  cases h with
  | w _ => obtain ⟨⟨a, b, h⟩, h2⟩ := ha; exact ⟨⟨_, a, b, .inl rfl, h⟩, h2⟩
  | q => obtain ⟨⟨a, b, h⟩, h2⟩ := ha; exact ⟨⟨_, a, b, .inr rfl, h⟩, h2⟩
theorem isX_len {x} (h : isX x) : x.length ≤ 11 := by rcases h with rfl | rfl | rfl | rfl | rfl | rfl <;> decide
theorem lg_of {toks p x l i1 i2} (h1 : PrI x i1) (h2 : LvI l i2) (hx : isX x) (hl : isL l) : (AtI toks p (i1 ++ i2) → Nx toks (p + (i1 ++ i2).length) → ∃ kvs, LG toks p [] kvs (p + (i1 ++ i2).length) ∧ (kget w_prefix kvs).getD (.str []) = .str x ∧ (kget w_level kvs).getD (.str w_warn) = .str l) ∧
    (AtI toks p (i2 ++ i1) → Nx toks (p + (i2 ++ i1).length) → ∃ kvs, LG toks p [] kvs (p + (i2 ++ i1).length) ∧ (kget w_prefix kvs).getD (.str []) = .str x ∧ (kget w_level kvs).getD (.str w_warn) = .str l) := by
  have hxl := isX_len hx
  cases h1 with
  | no =>
    cases h2 with
    | no => exact ⟨fun _ hn => ⟨_, .done (hn.nt rfl), rfl, rfl⟩, fun _ hn => ⟨_, .done (hn.nt rfl), rfl, rfl⟩⟩
    | yes => exact ⟨fun ha hn => ⟨_, .lev ha.1 ha.2.1 hl rfl (by decide) (.done (hn.nt rfl)), rfl, rfl⟩, fun ha hn => ⟨_, .lev ha.1 ha.2.1 hl rfl (by decide) (.done (hn.nt rfl)), rfl, rfl⟩⟩
  | yes ht =>
    cases h2 with
    | no => exact ⟨fun ha hn => ⟨_, .pre ha.1 (tx_of ht ha.2).1 (by omega) rfl (by decide) (.done (hn.nt rfl)), rfl, rfl⟩, fun ha hn => ⟨_, .pre ha.1 (tx_of ht ha.2).1 (by omega) rfl (by decide) (.done (hn.nt rfl)), rfl, rfl⟩⟩
    | yes =>
      refine ⟨fun ha hn => ?_, fun ha hn => ?_⟩
      · obtain ⟨a1, a2⟩ := ha
        obtain ⟨a3, a4, a5, _⟩ := tx_of ht a2
        exact ⟨_, .pre a1 a3 (by omega) rfl (by decide) (.lev a4 a5 hl rfl (Nat.le_of_ble_eq_true rfl) (.done (hn.nt rfl))), rfl, rfl⟩
      · obtain ⟨a1, a2, a3, a4⟩ := ha
        obtain ⟨a5, _⟩ := tx_of ht a4
        exact ⟨_, .lev a1 a2 hl rfl (by decide) (.pre a3 a5 (by omega) rfl (Nat.le_of_ble_eq_true rfl) (.done (hn.nt rfl))), rfl, rfl⟩

theorem sp_of {v is toks p} (h : StI v is) (ok : OkV v) (ha : AtI toks p is) (hn : Nx toks (p + is.length)) : Sp1 toks p v.toD (p + is.length) := by
  cases h with
  | ctr h =>
    rename_i is
    have e : p + (Itm.w w_counter :: is).length = p + 1 + is.length := by simp; omega
    rw [e] at hn ⊢
    obtain ⟨h1, h2⟩ := ct_of h ha.2 hn
    exact .c (.told ha.1 h2 h1)
  | quo h1 h2 h3 =>
    rename_i i1 i2 i3
    have e : p + (Itm.w w_quota :: (i1 ++ (i2 ++ i3))).length = p + 1 + (i1 ++ (i2 ++ i3)).length := by simp; omega
    rw [e] at hn ⊢
    obtain ⟨h4, h5⟩ := qb_of h1 h2 h3 ha.2 hn
    exact .q (.told ha.1 h5 h4)
  | lim h1 h2 h3 =>
    rename_i i1 i2 i3
    have e : p + (Itm.w w_limit :: Itm.w w_rate :: (i1 ++ (i2 ++ i3))).length = p + 1 + (Itm.w w_rate :: (i1 ++ (i2 ++ i3))).length := by simp; omega
    rw [e] at hn ⊢
    exact .l (.told ha.1 (lb_of h1 h2 h3 ha.2 hn))
  | obj ht =>
    obtain ⟨a1, a2, a3⟩ := ha
    obtain ⟨a4, _⟩ := tx_of ht a3
    obtain ⟨hk, _⟩ := ok
    rcases hk with rfl | rfl | rfl
    · exact .c (.obj a1 a2 a4)
    · exact .q (.obj a1 a2 a4)
    · exact .l (.obj a1 a2 a4)
  | logA h1 h2 =>
    rename_i i1 i2
    have e : p + (Itm.w w_log :: (i1 ++ i2)).length = p + 1 + (i1 ++ i2).length := by simp; omega
    rw [e] at hn ⊢
    obtain ⟨kvs, h3, h4, h5⟩ := (lg_of h1 h2 ok.1 ok.2).1 ha.2 hn
    have := SpG.told ha.1 h3
    rw [h4, h5] at this
    exact .g this
  | logB h1 h2 =>
    rename_i i1 i2
    have e : p + (Itm.w w_log :: (i2 ++ i1)).length = p + 1 + (i2 ++ i1).length := by simp; omega
    rw [e] at hn ⊢
    obtain ⟨kvs, h3, h4, h5⟩ := (lg_of h1 h2 ok.1 ok.2).2 ha.2 hn
    have := SpG.told ha.1 h3
    rw [h4, h5] at this
    exact .g this
  | ntk => exact .n (.told ha.1)

inductive StL : List V → List Itm → Prop
  | nil : StL [] []
  | cons {v vs is js} : StI v is → OkV v → StL vs js → StL (v :: vs) (is ++ js)
theorem st_first {v is} (h : StI v is) (ok : OkV v) {toks p} (ha : AtI toks p is) : Nx toks p := by
  cases h with
  | ctr _ => obtain ⟨a, b, e⟩ := ha.1; exact ⟨_, _, a, b, e, .inr (by simp [heads])⟩
  | quo _ _ _ => obtain ⟨a, b, e⟩ := ha.1; exact ⟨_, _, a, b, e, .inr (by simp [heads])⟩
  | lim _ _ _ => obtain ⟨a, b, e⟩ := ha.1; exact ⟨_, _, a, b, e, .inr (by simp [heads])⟩
  | obj _ =>
    obtain ⟨a, b, e⟩ := ha.1
    refine ⟨_, _, a, b, e, .inr ?_⟩
    rcases ok.1 with rfl | rfl | rfl <;> simp [heads]
  | logA _ _ => obtain ⟨a, b, e⟩ := ha.1; exact ⟨_, _, a, b, e, .inr (by simp [heads])⟩
  | logB _ _ => obtain ⟨a, b, e⟩ := ha.1; exact ⟨_, _, a, b, e, .inr (by simp [heads])⟩
  | ntk => obtain ⟨a, b, e⟩ := ha.1; exact ⟨_, _, a, b, e, .inr (by simp [heads])⟩
theorem prs_of {vs is} (h : StL vs is) {toks : List D} : ∀ {p} {a b : D}, AtI toks p is → toks[p + is.length]? = some (tk w_eof [] a b) → Prs toks p (vs.map V.toD) := by
  induction h with
  | nil => intro p a b _ he; exact .nil he
  | cons hs ok hl ih =>
    rename_i v vs is js
    intro p a b ha he
    obtain ⟨a1, a2⟩ := ha.app
    rw [List.length_append, ← Nat.add_assoc] at he
    refine .cons (sp_of hs ok a1 ?_) (ih a2 he)
    cases hl with
    | nil => exact ⟨_, _, _, _, he, .inl rfl⟩
    | cons hs' ok' _ => exact st_first hs' ok' a2.app.1
theorem prs_tks {vs is} (h : StL vs is) {toks : List D} {a b : D} (ht : Tks is toks) : Prs (toks ++ [tk w_eof [] a b]) 0 (vs.map V.toD) := by
  have hA := AtI.of_tks (pre := []) (post := [tk w_eof [] a b]) ht
  refine prs_of h hA (a := a) (b := b) ?_
  rw [Nat.zero_add, ← ht.len]
  exact last_at _ _
end Mine
end

section
set_option maxRecDepth 100000
namespace Mine
noncomputable def rawI : Itm → List Nat
  | .w s => s
  | .q s => 34 :: (s ++ [34])
noncomputable def GoodI : Itm → Prop
  | .w s => Pl s
  | .q s => (∀ c ∈ s, c ≠ 34 ∧ c ≠ 10) ∧ s.length ≤ 900
noncomputable abbrev gap (g : List Nat) : Prop := g = [32] ∨ g = [9] ∨ g = [32, 32, 32] ∨ g = [32, 92, 10, 9]
noncomputable def sp : List (List Nat × Itm) → List Nat
  | [] => []
  | (g, i) :: r => g ++ (rawI i ++ sp r)
theorem sp_app : ∀ (a b : List (List Nat × Itm)), sp (a ++ b) = sp a ++ sp b
  | [], b => rfl
  | (g, i) :: r, b => by simp [sp, sp_app r b]
theorem GoodI.len {i} (h : GoodI i) : (rawI i).length ≤ 1000 := by
  cases i with
  | w s => exact Pl.len h
  | q s => have := h.2; simp [rawI]; omega
theorem gap_len {g} (h : gap g) : g.length ≤ 4 := by rcases h with rfl | rfl | rfl | rfl <;> decide
theorem sp_len : ∀ (l : List (List Nat × Itm)), (∀ p ∈ l, gap p.1 ∧ GoodI p.2) → (sp l).length ≤ l.length * 1004
  | [], _ => by simp [sp]
  | (g, i) :: r, h => by
    have h1 := sp_len r (fun p hp => h p (by simp [hp]))
    have h2 := gap_len (h (g, i) (by simp)).1
    have h3 := (h (g, i) (by simp)).2.len
    simp [sp] at h2 h3 ⊢
    omega
theorem txt_gap {g is r} (h : gap g) (ht : Txt is r) : Txt is (g ++ r) := by
  rcases h with rfl | rfl | rfl | rfl
  · exact .blank (.inl rfl) ht
  · exact .blank (.inr rfl) ht
  · exact .blank (.inl rfl) (.blank (.inl rfl) (.blank (.inl rfl) ht))
  · exact .blank (.inl rfl) (.line (.blank (.inr rfl) ht))
theorem gap_ws {g} (h : gap g) (r : List Nat) : ∀ c q, g ++ r = c :: q → ws c = false := by
  intro c q e
  rcases h with rfl | rfl | rfl | rfl <;>
  · simp at e
    rw [← e.1]; rfl
theorem sp_ws {l : List (List Nat × Itm)} (h : ∀ p ∈ l, gap p.1 ∧ GoodI p.2) : ∀ c q, sp l = c :: q → ws c = false := by
  cases l with
  | nil => intro c q e; cases e
  | cons p r =>
    obtain ⟨g, i⟩ := p
    exact gap_ws (h (g, i) (by simp)).1 _
theorem txt_cons {i : Itm} {is : List Itm} {r : List Nat} (hi : GoodI i) (hr : ∀ c q, r = c :: q → ws c = false) (ht : Txt is r) : Txt (i :: is) (rawI i ++ r) := by
  cases i with
  | w s => exact .word hi hr ht
  | q s =>
    have e : rawI (.q s) ++ r = 34 :: (s ++ 34 :: r) := by simp [rawI]
    rw [e]
    exact .str hi.1 ht
theorem txt_sp : ∀ {l : List (List Nat × Itm)}, (∀ p ∈ l, gap p.1 ∧ GoodI p.2) → Txt (l.map (·.2)) (sp l)
  | [], _ => .nil
  | (g, i) :: r, h => txt_gap (h (g, i) (by simp)).1 (txt_cons (h (g, i) (by simp)).2 (sp_ws fun p hp => h p (by simp [hp])) (txt_sp fun p hp => h p (by simp [hp])))
/-- with single blanks between -/
noncomputable def spI : List Itm → List Nat
  | [] => []
  | i :: r => rawI i ++ sp (r.map fun i => ([32], i))
theorem txt_spI {is : List Itm} (h : ∀ i ∈ is, GoodI i) : Txt is (spI is) := by
  cases is with
  | nil => exact .nil
  | cons i r =>
    have hr : ∀ p ∈ (r.map fun i => (([32] : List Nat), i)), gap p.1 ∧ GoodI p.2 := by
      intro p hp
      obtain ⟨j, hj, rfl⟩ := List.mem_map.mp hp
      exact ⟨.inl rfl, h j (by simp [hj])⟩
    have ht := txt_sp hr
    have e : ((r.map fun i => (([32] : List Nat), i)).map (·.2)) = r := by simp [List.map_map, Function.comp_def]
    rw [e] at ht
    exact txt_cons (h i (by simp)) (sp_ws hr) ht
theorem spI_len {is : List Itm} (h : ∀ i ∈ is, GoodI i) : (spI is).length ≤ is.length * 1004 := by
  cases is with
  | nil => simp [spI]
  | cons i r =>
    have := sp_len (r.map fun i => ([32], i)) (fun p hp => by
      obtain ⟨j, hj, rfl⟩ := List.mem_map.mp hp
      exact ⟨.inl rfl, h j (by simp [hj])⟩)
    have h2 := (h i (by simp)).len
    simp [spI] at this ⊢
    omega
theorem spI_app {a b : List Itm} (ha : a ≠ []) (hb : b ≠ []) : spI (a ++ b) = spI a ++ ([32] ++ spI b) := by
  cases a with
  | nil => exact absurd rfl ha
  | cons i r =>
    cases b with
    | nil => exact absurd rfl hb
    | cons j q => simp [spI, sp_app, sp]

theorem isX_good {x} (h : isX x) : GoodI (.q x) := by rcases h with rfl | rfl | rfl | rfl | rfl | rfl <;> exact ⟨by decide, by decide⟩
theorem isL_pl {x} (h : isL x) : Pl x := by rcases h with rfl | rfl | rfl | rfl | rfl | rfl | rfl | rfl <;> exact plOf rfl
theorem isK_pl {x} (h : isK x) : Pl x := by rcases h with rfl | rfl | rfl <;> exact plOf rfl
theorem un_Pl (i : Nat) : Pl (un i) := by
  obtain ⟨h1, h2, h3⟩ := un_pl i
  refine pl_of h1 h2 ?_ ?_ (Nat.le_trans h3 (by decide))
  · match i with
    | 0 => decide
    | 1 => decide
    | 2 => decide
    | n + 3 => exact (by decide : w_gbytes ≠ [46])
  · match i with
    | 0 => decide
    | 1 => decide
    | 2 => decide
    | n + 3 => exact (by decide : w_gbytes ≠ [47])
theorem good_sz {many v is} (h : SzI many v is) : (∀ i ∈ is, GoodI i) ∧ is.length ≤ 2 := by
  cases h with
  | mk h1 _ _ _ =>
    refine ⟨fun i hi => ?_, by simp⟩
    simp only [List.mem_cons, List.not_mem_nil, or_false] at hi
    rcases hi with rfl | rfl
    · exact h1.pl
    · exact un_Pl _
theorem good_ov {b is} (h : OvI b is) : (∀ i ∈ is, GoodI i) ∧ is.length ≤ 1 := by
  cases h with
  | over => exact ⟨fun i hi => by simp at hi; subst hi; exact (plOf rfl : Pl w_over), by simp⟩
  | unt => exact ⟨fun i hi => by simp at hi; subst hi; exact (plOf rfl : Pl w_until), by simp⟩
  | no => exact ⟨fun i hi => by simp at hi, by simp⟩
theorem good_tx {x t} (h : TxI x t) (hx : isX x) : GoodI t := by
  cases h with
  | w h => exact plOf h
  | q => exact isX_good hx
theorem good_qu {m is} (h : QuI m is) : (∀ i ∈ is, GoodI i) ∧ is.length ≤ 3 := by
  cases h with
  | no => exact ⟨fun i hi => (nomatch hi), by simp⟩
  | yes h4 =>
    have g4 := good_sz h4
    refine ⟨fun i hi => ?_, by simp; omega⟩
    rcases List.mem_cons.mp hi with rfl | hi
    · exact (plOf rfl : Pl w_used)
    · exact g4.1 i hi
theorem good_rt {n u oc is} (h : RtI n u oc is) : (∀ i ∈ is, GoodI i) ∧ is.length ≤ 2 := by
  cases h with
  | pk h4 h5 h6 h7 =>
    refine ⟨fun i hi => ?_, by simp⟩
    simp only [List.mem_cons, List.not_mem_nil, or_false] at hi
    subst hi
    exact rate_pl (fun c hc => ⟨(fig_ok (h4.fig c hc)).1, (fig_ok (h4.fig c hc)).2.1⟩) h4.ne h4.len h7
  | oc h4 h5 h6 h7 h8 =>
    refine ⟨fun i hi => ?_, by simp⟩
    simp only [List.mem_cons, List.not_mem_nil, or_false] at hi
    rcases hi with rfl | rfl
    · exact h4.pl
    · obtain ⟨u1, u2, u3⟩ := un_pl _
      exact rate_pl u1 u2 u3 h8
theorem good_bu {oc v is} (h : BuI oc v is) : (∀ i ∈ is, GoodI i) ∧ is.length ≤ 3 := by
  cases h with
  | no => exact ⟨fun i hi => (nomatch hi), by simp⟩
  | oct h4 =>
    have g4 := good_sz h4
    refine ⟨fun i hi => ?_, by simp; omega⟩
    rcases List.mem_cons.mp hi with rfl | hi
    · exact (plOf rfl : Pl w_burst)
    · exact g4.1 i hi
  | pkt h4 h5 =>
    refine ⟨fun i hi => ?_, by simp⟩
    simp only [List.mem_cons, List.not_mem_nil, or_false] at hi
    rcases hi with rfl | rfl | rfl
    · exact (plOf rfl : Pl w_burst)
    · exact h4.pl
    · exact (plOf rfl : Pl w_packets)
theorem good_pr {x is} (h : PrI x is) (hx : isX x) : (∀ i ∈ is, GoodI i) ∧ is.length ≤ 2 := by
  cases h with
  | no => exact ⟨fun i hi => (nomatch hi), by simp⟩
  | yes ht =>
    refine ⟨fun i hi => ?_, by simp⟩
    simp only [List.mem_cons, List.not_mem_nil, or_false] at hi
    rcases hi with rfl | rfl
    · exact (plOf rfl : Pl w_prefix)
    · exact good_tx ht hx
theorem good_lv {x is} (h : LvI x is) (hx : isL x) : (∀ i ∈ is, GoodI i) ∧ is.length ≤ 2 := by
  cases h with
  | no => exact ⟨fun i hi => (nomatch hi), by simp⟩
  | yes =>
    refine ⟨fun i hi => ?_, by simp⟩
    simp only [List.mem_cons, List.not_mem_nil, or_false] at hi
    rcases hi with rfl | rfl
    · exact (plOf rfl : Pl w_level)
    · exact isL_pl hx
theorem good_st {v is} (h : StI v is) (ok : OkV v) : (∀ i ∈ is, GoodI i) ∧ is.length ≤ 8 := by
  cases h with
  | ctr h =>
    cases h with
    | no => exact ⟨fun i hi => by simp at hi; subst hi; exact (plOf rfl : Pl w_counter), by simp⟩
    | yes h1 _ h2 _ =>
      refine ⟨fun i hi => ?_, by simp⟩
      simp only [List.mem_cons, List.not_mem_nil, or_false] at hi
      rcases hi with rfl | rfl | rfl | rfl | rfl
      · exact (plOf rfl : Pl w_counter)
      · exact (plOf rfl : Pl w_packets)
      · exact h1.pl
      · exact (plOf rfl : Pl w_bytes)
      · exact h2.pl
  | quo h1 h2 h3 =>
    have g1 := good_ov h1
    have g2 := good_sz h2
    have g3 := good_qu h3
    refine ⟨fun i hi => ?_, by simp; omega⟩
    simp only [List.mem_cons, List.mem_append] at hi
    rcases hi with rfl | hi | hi | hi
    · exact (plOf rfl : Pl w_quota)
    · exact g1.1 i hi
    · exact g2.1 i hi
    · exact g3.1 i hi
  | lim h1 h2 h3 =>
    have g1 := good_ov h1
    have g2 := good_rt h2
    have g3 := good_bu h3
    refine ⟨fun i hi => ?_, by simp; omega⟩
    simp only [List.mem_cons, List.mem_append] at hi
    rcases hi with rfl | rfl | hi | hi | hi
    · exact (plOf rfl : Pl w_limit)
    · exact (plOf rfl : Pl w_rate)
    · exact g1.1 i hi
    · exact g2.1 i hi
    · exact g3.1 i hi
  | obj ht =>
    refine ⟨fun i hi => ?_, by simp⟩
    simp only [List.mem_cons, List.not_mem_nil, or_false] at hi
    rcases hi with rfl | rfl | rfl
    · exact isK_pl ok.1
    · exact (plOf rfl : Pl w_name)
    · exact good_tx ht ok.2
  | logA h1 h2 =>
    have g1 := good_pr h1 ok.1
    have g2 := good_lv h2 ok.2
    refine ⟨fun i hi => ?_, by simp; omega⟩
    simp only [List.mem_cons, List.mem_append] at hi
    rcases hi with rfl | hi | hi
    · exact (plOf rfl : Pl w_log)
    · exact g1.1 i hi
    · exact g2.1 i hi
  | logB h1 h2 =>
    have g1 := good_pr h1 ok.1
    have g2 := good_lv h2 ok.2
    refine ⟨fun i hi => ?_, by simp; omega⟩
    simp only [List.mem_cons, List.mem_append] at hi
    rcases hi with rfl | hi | hi
    · exact (plOf rfl : Pl w_log)
    · exact g2.1 i hi
    · exact g1.1 i hi
  | ntk => exact ⟨fun i hi => by simp at hi; subst hi; exact (plOf rfl : Pl w_notrack), by simp⟩
theorem good_stl {vs is} (h : StL vs is) : (∀ i ∈ is, GoodI i) ∧ is.length ≤ 8 * vs.length := by
  induction h with
  | nil => exact ⟨fun i hi => (nomatch hi), by simp⟩
  | cons hs ok hl ih =>
    have g := good_st hs ok
    refine ⟨fun i hi => ?_, by simp; omega⟩
    rcases List.mem_append.mp hi with hi | hi
    · exact g.1 i hi
    · exact ih.1 i hi
end Mine
end

section
set_option maxRecDepth 100000
namespace Mine
theorem Dg.snoc {b a : Int} {w : List Nat} {n : Int} (h : Dg b a w n) {c : Nat} (h1 : c < 128) (h2 : 0 ≤ dig c) (h3 : dig c < b) (h4 : 0 ≤ n) (h5 : n < 2 ^ 180) : Dg b a (w ++ [c]) (n * b + dig c) := by
  induction h with
  | nil a => exact .cons h1 h2 h3 h4 h5 (.nil _)
  | cons g1 g2 g3 g4 g5 _ ih => exact .cons g1 g2 g3 g4 g5 (ih h4 h5)
theorem digit_dig : ∀ d : Nat, d < 10 → (Nat.digitChar d).toNat < 128 ∧ dig (Nat.digitChar d).toNat = d ∧ 48 ≤ (Nat.digitChar d).toNat ∧ (Nat.digitChar d).toNat ≤ 57 := by decide
theorem dg_text (m : Nat) : m < 2 ^ 180 → Dg 10 0 ((Nat.toDigits 10 m).map Char.toNat) m ∧ (∀ c ∈ (Nat.toDigits 10 m).map Char.toNat, 48 ≤ c ∧ c ≤ 57) ∧ (Nat.toDigits 10 m).map Char.toNat ≠ [] := by
  induction m using Nat.strongRecOn with
  | _ m ih =>
    intro hm
    by_cases h : m < 10
    · rw [Nat.toDigits_of_lt_base h]
      obtain ⟨e1, e2, e3, e4⟩ := digit_dig m h
      refine ⟨?_, ?_, by simp⟩
      · have := Dg.snoc (.nil 0) (b := 10) e1 (by omega) (by omega) (by decide) (by decide)
        rw [e2] at this
        simpa using this
      · intro c hc
        simp at hc
        subst hc
        exact ⟨e3, e4⟩
    · have hr : m % 10 < 10 := Nat.mod_lt m (by decide)
      have t : Nat.toDigits 10 (m / 10) ++ Nat.toDigits 10 (m % 10) = Nat.toDigits 10 (10 * (m / 10) + m % 10) := Nat.toDigits_append_toDigits (by decide) (by omega) hr
      rw [Nat.div_add_mod] at t
      rw [← t, List.map_append, Nat.toDigits_of_lt_base hr]
      obtain ⟨i1, i2, i3⟩ := ih (m / 10) (by omega) (by omega)
      obtain ⟨e1, e2, e3, e4⟩ := digit_dig (m % 10) hr
      refine ⟨?_, ?_, by simp⟩
      · have := i1.snoc e1 (by omega) (by omega) (by omega) (by omega)
        rw [e2] at this
        have e : ((m / 10 : Nat) : Int) * 10 + ((m % 10 : Nat) : Int) = m := by omega
        rw [e] at this
        exact this
      · intro c hc
        rcases List.mem_append.mp hc with hc | hc
        · exact i2 c hc
        · simp at hc
          subst hc
          exact ⟨e3, e4⟩
theorem fig_ten : ∀ c < 58, 48 ≤ c → figB c = true := by decide
theorem int_num {n : Int} (h : In64 n) : Dg 10 0 (intText n) n ∧ (∀ c ∈ intText n, 48 ≤ c ∧ c ≤ 57) ∧ intText n ≠ [] ∧ (intText n).length ≤ 20 := by
  obtain ⟨h0, h1⟩ := h
  obtain ⟨m, rfl⟩ := Int.eq_ofNat_of_zero_le h0
  have ht : top64 = 18446744073709551615 := rfl
  have e : intText (m : Int) = (Nat.toDigits 10 m).map Char.toNat := by
    unfold intText
    have := PyProof.Rows.text_ofNat m
    rw [show ((m : Nat) : Int) = Int.ofNat m from rfl, this]
  rw [e]
  obtain ⟨g1, g2, g3⟩ := dg_text m (by omega)
  refine ⟨g1, g2, g3, ?_⟩
  rw [List.length_map]
  exact PyProof.Rows.digits10_le (by decide) (by omega)
theorem ten_no {w : List Nat} (h : ∀ c ∈ w, 48 ≤ c ∧ c ≤ 57) : leq (w.take 2) [48, 120] = false := leq_ne fun e => by
  have hm : 120 ∈ w := List.mem_of_mem_take (i := 2) (by rw [e]; simp)
  have := h 120 hm
  omega
theorem nw_of {w : List Nat} {n : Int} (h1 : Dg 10 0 w n) (h2 : ∀ c ∈ w, 48 ≤ c ∧ c ≤ 57) (h3 : w ≠ []) (h4 : w.length ≤ 100) : Nw w n :=
  ⟨⟨by omega, .inr ⟨h3, ten_no h2, h1⟩⟩, h3, fun c hc => fig_ten c (by have := h2 c hc; omega) (h2 c hc).1, h4⟩
theorem nw_int {n : Int} (h : In64 n) : Nw (intText n) n := by
  obtain ⟨h1, h2, h3, h4⟩ := int_num h
  exact nw_of h1 h2 h3 (by omega)

noncomputable def pu : Nat → Int → Nat → Int × Nat
  | 0, n, r => (n, r)
  | k + 1, n, r => if n ≠ 0 ∧ n.fmod 1024 = 0 then pu k (n.fdiv 1024) (r + 1) else (n, r)
theorem pu_ok : ∀ (k : Nat) (n : Int) (r : Nat), 0 ≤ n → 0 ≤ (pu k n r).1 ∧ (pu k n r).1 ≤ n ∧ (pu k n r).1 * 1024 ^ (pu k n r).2 = n * 1024 ^ r ∧ (pu k n r).2 ≤ r + k
  | 0, n, r, h => ⟨h, by simp [pu], rfl, by simp [pu]⟩
  | k + 1, n, r, h => by
    unfold pu
    split
    · rename_i hc
      have e1 : n.fdiv 1024 = n / 1024 := Int.fdiv_eq_ediv_of_nonneg n (by decide)
      have e2 : n.fmod 1024 = n % 1024 := Int.fmod_eq_emod_of_nonneg n (by decide)
      rw [e2] at hc
      obtain ⟨g1, g2, g3, g4⟩ := pu_ok k (n.fdiv 1024) (r + 1) (by rw [e1]; omega)
      refine ⟨g1, by rw [e1] at g2 ⊢; omega, ?_, by omega⟩
      rw [g3, e1, Int.pow_succ, Int.mul_comm (1024 ^ r) 1024, ← Int.mul_assoc]
      congr 1
      omega
    · exact ⟨h, by simp, rfl, by simp⟩
noncomputable def puI (k : Nat) (n : Int) : List Itm := [.w (intText (pu k n 0).1), .w (un (pu k n 0).2)]
theorem pu_in {k n} (h : In64 n) : In64 (pu k n 0).1 ∧ (pu k n 0).2 ≤ k ∧ (pu k n 0).1 * 1024 ^ (pu k n 0).2 = n := by
  obtain ⟨g1, g2, g3, g4⟩ := pu_ok k n 0 h.1
  exact ⟨⟨g1, Int.le_trans g2 h.2⟩, by omega, by simpa using g3⟩
theorem puI_sz {k n} (h : In64 n) : SzI (k + 1) n (puI k n) := by
  obtain ⟨g1, g2, g3⟩ := pu_in (k := k) h
  have := SzI.mk (many := k + 1) (nw_int g1) g1.1 (i := (pu k n 0).2) (by omega) (by rw [g3]; exact h.2)
  rw [g3] at this
  exact this

noncomputable def canon : V → List Itm
  | .ctr n m => [.w w_counter, .w w_packets, .w (intText n), .w w_bytes, .w (intText m)]
  | .quo b n m => .w w_quota :: ((bif b then [.w w_over] else []) ++ (puI 3 n ++ (if m = 0 then [] else .w w_used :: puI 3 m)))
  | .lim b n u v true => .w w_limit :: .w w_rate :: ((bif b then [.w w_over] else []) ++ ([.w (intText (pu 2 n 0).1), .w (un (pu 2 n 0).2 ++ 47 :: u)] ++ (if v = 0 then [] else .w w_burst :: puI 2 v)))
  | .lim b n u v false => .w w_limit :: .w w_rate :: ((bif b then [.w w_over] else []) ++ ([.w (intText n ++ 47 :: u)] ++ [.w w_burst, .w (intText v), .w w_packets]))
  | .obj k x => [.w k, .w w_name, .q x]
  | .log p l => .w w_log :: ((if p = [] then [] else [.w w_prefix, .q p]) ++ (if l = w_warn then [] else [.w w_level, .w l]))
  | .ntk => [.w w_notrack]
theorem can_ov (b : Bool) : OvI b (bif b then [.w w_over] else []) := by cases b <;> constructor
theorem can_st {v : V} (ok : OkV v) : StI v (canon v) := by
  cases v with
  | ctr n m => exact .ctr (.yes (nw_int ok.1) ok.1.2 (nw_int ok.2) ok.2.2)
  | quo b n m =>
    refine .quo (can_ov b) (puI_sz ok.1) ?_
    split
    · rename_i h; subst h; exact .no
    · exact .yes (puI_sz ok.2)
  | lim b n u v oc =>
    obtain ⟨h1, h2, h3, h4⟩ := ok
    cases oc with
    | false => exact .lim (can_ov b) (.pk (nw_int h1) h1.1 h1.2 h2) (.pkt (nw_int h3) (h4 rfl))
    | true =>
      obtain ⟨g1, g2, g3⟩ := pu_in (k := 2) h1
      refine .lim (can_ov b) ?_ ?_
      · have := RtI.oc (nw_int g1) g1.1 (i := (pu 2 n 0).2) (by omega) (by rw [g3]; exact h1.2) h2
        rw [g3] at this
        exact this
      · split
        · rename_i h; subst h; exact .no
        · exact .oct (puI_sz h3)
  | obj k x => exact .obj .q
  | log p l =>
    refine .logA ?_ ?_
    · split
      · rename_i h; subst h; exact .no
      · exact .yes .q
    · split
      · rename_i h; subst h; exact .no
      · exact .yes
  | ntk => exact .ntk
theorem canon_ne (v : V) : canon v ≠ [] := by
  cases v with
  | lim b n u v oc => cases oc <;> simp [canon]
  | _ => simp [canon]
noncomputable def canonL : List V → List Itm
  | [] => []
  | v :: r => canon v ++ canonL r
theorem can_stl : ∀ {vs : List V}, (∀ v ∈ vs, OkV v) → StL vs (canonL vs)
  | [], _ => .nil
  | v :: r, h => .cons (can_st (h v (by simp))) (h v (by simp)) (can_stl fun w hw => h w (by simp [hw]))
noncomputable def pr (v : V) : List Nat := spI (canon v)
theorem join_pr : ∀ (vs : List V), joined [32] (vs.map pr) = spI (canonL vs)
  | [] => rfl
  | [v] => by simp [joined, canonL, pr]
  | v :: w :: r => by
    have e : canonL (w :: r) ≠ [] := by simp [canonL, canon_ne]
    have ih := join_pr (w :: r)
    show pr v ++ [32] ++ joined [32] ((w :: r).map pr) = _
    rw [ih, show canonL (v :: w :: r) = canon v ++ canonL (w :: r) from rfl, spI_app (canon_ne v) e, List.append_assoc]
    rfl
theorem pr_len {v : V} (ok : OkV v) : (pr v).length ≤ 8032 := by
  have g := good_st (can_st ok) ok
  have := spI_len g.1
  have := g.2
  unfold pr
  omega

/-! ## what repr asks -/
theorem isX_asc {x} (h : isX x) : ∀ c ∈ x, c < 128 := by rcases h with rfl | rfl | rfl | rfl | rfl | rfl <;> decide
theorem isL_asc {x} (h : isL x) : (∀ c ∈ x, c < 128) ∧ x.length ≤ 11 := by rcases h with rfl | rfl | rfl | rfl | rfl | rfl | rfl | rfl <;> decide
theorem isU_asc {x} (h : isU x) : (∀ c ∈ x, c < 128) ∧ x.length ≤ 11 := by rcases h with rfl | rfl | rfl | rfl | rfl <;> decide
theorem isK_asc {x} (h : isK x) : (∀ c ∈ x, c < 128) ∧ x.length ≤ 11 := by rcases h with rfl | rfl | rfl <;> decide
end Mine
end

section
set_option maxRecDepth 100000
namespace Mine
theorem sign_no {c : Nat} {l : List Nat} (h : c ∉ l) : hasSign c l = false := by
  cases e : hasSign c l with
  | false => rfl
  | true => exact absurd (hasSign_mem e) h
theorem isX_no {x} (h : isX x) : 34 ∉ x ∧ 10 ∉ x ∧ x.length ≤ 900 := by
  have g := isX_good h
  exact ⟨fun hc => (g.1 34 hc).1 rfl, fun hc => (g.1 10 hc).2 rfl, g.2⟩
noncomputable def S418 (N : Nat) : Prop := ∀ (x : List Nat) (st : List O) (K : D → List O → Prop), isX x → K (.str (rawI (.q x))) st → SpN N 418 [.str x] st K
theorem p418 (N : Nat) : S418 (N + 1) := by
  intro x st K hx k
  obtain ⟨h1, h2, h3⟩ := isX_no hx
  refine ⟨rfl, ?_⟩
  conv => whnf
  refine Br.f (sign_no h1) ?_
  conv => whnf
  refine Br.f (sign_no h2) ?_
  conv => whnf
  have hll : (901 : Nat) + 1 ≤ line := by decide
  refine ⟨by simp; omega, ?_⟩
  conv => whnf
  refine ⟨by simp; omega, ?_⟩
  exact k
theorem sml200 {n : Int} (h : In64 n) : n.natAbs < 2 ^ 200 := by
  have ht : top64 = 18446744073709551615 := rfl
  have h1 := h.1
  have h2 := h.2
  omega
theorem int_len {n : Int} (h : In64 n) : (intText n).length ≤ 20 := (int_num h).2.2.2
theorem un_len (i : Nat) : (un i).length ≤ 100 := (un_pl i).2.2
theorem loop425 (N : Nat) (x2 : Option D) (st : List O) (K : Fl → St → Prop) : ∀ (k : Nat) (n : Int) (r : Nat) (many : Int), many = ((k + r + 1 : Nat) : Int) →
    K .next ⟨[some (.int (pu k n r).1), some (.int many), x2, some (.int (pu k n r).2)], st⟩ → whn (E (SpN N) t0_print_units) (X (SpN N) b1_print_units) K (k + 1) ⟨[some (.int n), some (.int many), x2, some (.int r)], st⟩ := by
  intro k
  induction k with
  | zero =>
    intro n r many hm k
    conv => whnf
    refine Br.f (decide_eq_false (by omega)) ?_
    conv => whnf
    refine Br.f rfl ?_
    exact k
  | succ j ih =>
    intro n r many hm k
    conv => whnf
    refine Br.t (decide_eq_true (by omega)) ?_
    conv => whnf
    by_cases h0 : n = 0
    · refine Br.f (by simp [h0]) ?_
      conv => whnf
      refine Br.f rfl ?_
      have e : pu (j + 1) n r = (n, r) := by simp [pu, h0]
      rw [e] at k
      exact k
    · refine Br.t (by simp [h0]) ?_
      conv => whnf
      refine ⟨by decide, ?_⟩
      conv => whnf
      by_cases h1 : n.fmod 1024 = 0
      · refine Br.t (decide_eq_true h1) ?_
        conv => whnf
        refine ⟨by decide, ?_⟩
        conv => whnf
        have e : pu (j + 1) n r = pu j (n.fdiv 1024) (r + 1) := by simp [pu, h0, h1]
        rw [e] at k
        exact ih (n.fdiv 1024) (r + 1) many (by omega) k
      · refine Br.f (decide_eq_false h1) ?_
        have e : pu (j + 1) n r = (n, r) := by simp [pu, h1]
        rw [e] at k
        exact k
noncomputable def S425 (N : Nat) : Prop := ∀ (k : Nat) (n m : Int) (st : List O) (K : D → List O → Prop), In64 n → (k = 2 ∧ m = 3 ∨ k = 3 ∧ m = 4) → K (.str (intText (pu k n 0).1 ++ [32] ++ un (pu k n 0).2)) st → SpN N 425 [.int n, .int m] st K
theorem p425 (N : Nat) : S425 (N + 1) := by
  intro k n m st K hn hm kk
  obtain ⟨g1, g2, g3⟩ := pu_in (k := k) hn
  refine ⟨rfl, ?_⟩
  conv => whnf
  refine ⟨k + 1, loop425 N _ st _ k n 0 m (by omega) ?_⟩
  conv => whnf
  refine ⟨sml200 g1, ?_⟩
  conv => whnf
  have hl := int_len g1
  have hll : (1000 : Nat) ≤ line := by decide
  refine ⟨by simp; omega, ?_⟩
  conv => whnf
  have hk4 : (pu k n 0).2 = 0 ∨ (pu k n 0).2 = 1 ∨ (pu k n 0).2 = 2 ∨ (pu k n 0).2 = 3 := by omega
  have hul := un_len (pu k n 0).2
  rcases hk4 with h | h | h | h <;>
  · rw [h] at kk hul ⊢
    refine ⟨Nat.le_of_ble_eq_true rfl, ?_⟩
    conv => whnf
    refine ⟨by simp; omega, ?_⟩
    exact kk
noncomputable def S432 (N : Nat) : Prop := ∀ (n : Int) (st : List O) (K : D → List O → Prop), In64 n → K (.str (intText (pu 3 n 0).1 ++ [32] ++ un (pu 3 n 0).2)) st → SpN N 432 [.int n] st K
theorem p432 (N : Nat) (h425 : S425 N) : S432 (N + 1) := by
  intro n st K hn k
  refine ⟨rfl, ?_⟩
  conv => whnf
  exact h425 3 n 4 st _ hn (.inr ⟨rfl, rfl⟩) k

noncomputable def Spr (f N : Nat) (P : V → Prop) : Prop := ∀ (t : D) (v : V) (st : List O) (K : D → List O → Prop), P v → OkV v → K (.str (pr v)) st → SpN N f [t, v.toD] st K
theorem p439 (N : Nat) : Spr 439 (N + 1) (fun v => ∃ n m, v = .ctr n m) := by
  intro t v st K hv ok k
  obtain ⟨n, m, rfl⟩ := hv
  have l1 := int_len ok.1
  have l2 := int_len ok.2
  have hll : (1000 : Nat) ≤ line := by decide
  refine ⟨rfl, ?_⟩
  conv => whnf
  repeat (first | assumption | (refine ⟨_, rfl, ?_⟩; conv => whnf) | (refine Br.t rfl ?_; conv => whnf) | (refine Br.f rfl ?_; conv => whnf) | (refine ⟨Nat.le_of_ble_eq_true rfl, ?_⟩; conv => whnf) | (refine ⟨by decide, ?_⟩; conv => whnf))
  refine ⟨sml200 ok.1, ?_⟩
  conv => whnf
  refine ⟨by simp; omega, ?_⟩
  conv => whnf
  refine ⟨by simp; omega, ?_⟩
  conv => whnf
  repeat (first | assumption | (refine ⟨_, rfl, ?_⟩; conv => whnf) | (refine Br.t rfl ?_; conv => whnf) | (refine Br.f rfl ?_; conv => whnf) | (refine ⟨Nat.le_of_ble_eq_true rfl, ?_⟩; conv => whnf) | (refine ⟨by decide, ?_⟩; conv => whnf))
  refine ⟨sml200 ok.2, ?_⟩
  conv => whnf
  refine ⟨by simp; omega, ?_⟩
  conv => whnf
  have e : pr (.ctr n m) = ([99, 111, 117, 110, 116, 101, 114, 32, 112, 97, 99, 107, 101, 116, 115, 32] ++ intText n ++ [32, 98, 121, 116, 101, 115, 32]) ++ intText m := by simp [pr, canon, spI, sp, rawI]
  rw [e] at k
  exact k
theorem p446 (N : Nat) (h432 : S432 N) : Spr 446 (N + 1) (fun v => ∃ b n m, v = .quo b n m) := by
  intro t v st K hv ok k
  obtain ⟨b, n, m, rfl⟩ := hv
  obtain ⟨o1, o2⟩ := ok
  have l1 := int_len (pu_in (k := 3) o1).1
  have l2 := int_len (pu_in (k := 3) o2).1
  have u1 := un_len (pu 3 n 0).2
  have u2 := un_len (pu 3 m 0).2
  have hll : (1000 : Nat) ≤ line := by decide
  refine ⟨rfl, ?_⟩
  conv => whnf
  repeat (first | assumption | (refine ⟨_, rfl, ?_⟩; conv => whnf) | (refine Br.t rfl ?_; conv => whnf) | (refine Br.f rfl ?_; conv => whnf) | (refine ⟨Nat.le_of_ble_eq_true rfl, ?_⟩; conv => whnf) | (refine ⟨by decide, ?_⟩; conv => whnf))
  cases b with
  | true =>
    refine Br.t rfl ?_
    conv => whnf
    repeat (first | assumption | (refine ⟨_, rfl, ?_⟩; conv => whnf) | (refine Br.t rfl ?_; conv => whnf) | (refine Br.f rfl ?_; conv => whnf) | (refine ⟨Nat.le_of_ble_eq_true rfl, ?_⟩; conv => whnf) | (refine ⟨by decide, ?_⟩; conv => whnf))
    refine h432 n st _ o1 ?_
    conv => whnf
    refine ⟨by simp; omega, ?_⟩
    conv => whnf
    repeat (first | assumption | (refine ⟨_, rfl, ?_⟩; conv => whnf) | (refine Br.t rfl ?_; conv => whnf) | (refine Br.f rfl ?_; conv => whnf) | (refine ⟨Nat.le_of_ble_eq_true rfl, ?_⟩; conv => whnf) | (refine ⟨by decide, ?_⟩; conv => whnf))
    by_cases h : m = 0
    · refine Br.f (by simp [h]) ?_
      conv => whnf
      have e : pr (.quo true n m) = ([113, 117, 111, 116, 97, 32] ++ [111, 118, 101, 114, 32]) ++ (intText (pu 3 n 0).1 ++ [32] ++ un (pu 3 n 0).2) := by simp [pr, canon, spI, sp, rawI, puI, h]
      rw [e] at k
      exact k
    · refine Br.t (by simp [h]) ?_
      conv => whnf
      repeat (first | assumption | (refine ⟨_, rfl, ?_⟩; conv => whnf) | (refine Br.t rfl ?_; conv => whnf) | (refine Br.f rfl ?_; conv => whnf) | (refine ⟨Nat.le_of_ble_eq_true rfl, ?_⟩; conv => whnf) | (refine ⟨by decide, ?_⟩; conv => whnf))
      refine h432 m st _ o2 ?_
      conv => whnf
      refine ⟨by simp; omega, ?_⟩
      conv => whnf
      refine ⟨by simp; omega, ?_⟩
      conv => whnf
      have e : pr (.quo true n m) = ([113, 117, 111, 116, 97, 32] ++ [111, 118, 101, 114, 32]) ++ (intText (pu 3 n 0).1 ++ [32] ++ un (pu 3 n 0).2) ++ ([32, 117, 115, 101, 100, 32] ++ (intText (pu 3 m 0).1 ++ [32] ++ un (pu 3 m 0).2)) := by simp [pr, canon, spI, sp, rawI, puI, h]
      rw [e] at k
      exact k
  | false =>
    refine Br.f rfl ?_
    conv => whnf
    repeat (first | assumption | (refine ⟨_, rfl, ?_⟩; conv => whnf) | (refine Br.t rfl ?_; conv => whnf) | (refine Br.f rfl ?_; conv => whnf) | (refine ⟨Nat.le_of_ble_eq_true rfl, ?_⟩; conv => whnf) | (refine ⟨by decide, ?_⟩; conv => whnf))
    refine h432 n st _ o1 ?_
    conv => whnf
    refine ⟨by simp; omega, ?_⟩
    conv => whnf
    repeat (first | assumption | (refine ⟨_, rfl, ?_⟩; conv => whnf) | (refine Br.t rfl ?_; conv => whnf) | (refine Br.f rfl ?_; conv => whnf) | (refine ⟨Nat.le_of_ble_eq_true rfl, ?_⟩; conv => whnf) | (refine ⟨by decide, ?_⟩; conv => whnf))
    by_cases h : m = 0
    · refine Br.f (by simp [h]) ?_
      conv => whnf
      have e : pr (.quo false n m) = [113, 117, 111, 116, 97, 32] ++ (intText (pu 3 n 0).1 ++ [32] ++ un (pu 3 n 0).2) := by simp [pr, canon, spI, sp, rawI, puI, h]
      rw [e] at k
      exact k
    · refine Br.t (by simp [h]) ?_
      conv => whnf
      repeat (first | assumption | (refine ⟨_, rfl, ?_⟩; conv => whnf) | (refine Br.t rfl ?_; conv => whnf) | (refine Br.f rfl ?_; conv => whnf) | (refine ⟨Nat.le_of_ble_eq_true rfl, ?_⟩; conv => whnf) | (refine ⟨by decide, ?_⟩; conv => whnf))
      refine h432 m st _ o2 ?_
      conv => whnf
      refine ⟨by simp; omega, ?_⟩
      conv => whnf
      refine ⟨by simp; omega, ?_⟩
      conv => whnf
      have e : pr (.quo false n m) = [113, 117, 111, 116, 97, 32] ++ (intText (pu 3 n 0).1 ++ [32] ++ un (pu 3 n 0).2) ++ ([32, 117, 115, 101, 100, 32] ++ (intText (pu 3 m 0).1 ++ [32] ++ un (pu 3 m 0).2)) := by simp [pr, canon, spI, sp, rawI, puI, h]
      rw [e] at k
      exact k
theorem p460 (N : Nat) (h418 : S418 N) : Spr 460 (N + 1) (fun v => ∃ n m, v = .obj n m) := by
  intro t v st K hv ok k
  obtain ⟨n, x, rfl⟩ := hv
  obtain ⟨o1, o2⟩ := ok
  have l1 := (isK_asc o1).2
  have l2 := isX_len o2
  have hll : (1000 : Nat) ≤ line := by decide
  refine ⟨rfl, ?_⟩
  conv => whnf
  repeat (first | assumption | (refine ⟨_, rfl, ?_⟩; conv => whnf) | (refine Br.t rfl ?_; conv => whnf) | (refine Br.f rfl ?_; conv => whnf) | (refine ⟨Nat.le_of_ble_eq_true rfl, ?_⟩; conv => whnf) | (refine ⟨by decide, ?_⟩; conv => whnf))
  refine ⟨by simp; omega, ?_⟩
  conv => whnf
  repeat (first | assumption | (refine ⟨_, rfl, ?_⟩; conv => whnf) | (refine Br.t rfl ?_; conv => whnf) | (refine Br.f rfl ?_; conv => whnf) | (refine ⟨Nat.le_of_ble_eq_true rfl, ?_⟩; conv => whnf) | (refine ⟨by decide, ?_⟩; conv => whnf))
  refine h418 x st _ o2 ?_
  conv => whnf
  refine ⟨by simp [rawI]; omega, ?_⟩
  conv => whnf
  have e : pr (.obj n x) = n ++ [32, 110, 97, 109, 101, 32] ++ rawI (.q x) := by simp [pr, canon, spI, sp, rawI]
  rw [e] at k
  exact k
theorem p474 (N : Nat) (h418 : S418 N) : Spr 474 (N + 1) (fun v => ∃ n m, v = .log n m) := by
  intro t v st K hv ok k
  obtain ⟨x, l, rfl⟩ := hv
  obtain ⟨o1, o2⟩ := ok
  have l1 := (isL_asc o2).2
  have l2 := isX_len o1
  have hll : (1000 : Nat) ≤ line := by decide
  refine ⟨rfl, ?_⟩
  conv => whnf
  repeat (first | assumption | (refine ⟨_, rfl, ?_⟩; conv => whnf) | (refine Br.t rfl ?_; conv => whnf) | (refine Br.f rfl ?_; conv => whnf) | (refine ⟨Nat.le_of_ble_eq_true rfl, ?_⟩; conv => whnf) | (refine ⟨by decide, ?_⟩; conv => whnf))
  by_cases hx : x = []
  · refine Br.f (by rw [hx]; rfl) ?_
    conv => whnf
    repeat (first | assumption | (refine ⟨_, rfl, ?_⟩; conv => whnf) | (refine Br.t rfl ?_; conv => whnf) | (refine Br.f rfl ?_; conv => whnf) | (refine ⟨Nat.le_of_ble_eq_true rfl, ?_⟩; conv => whnf) | (refine ⟨by decide, ?_⟩; conv => whnf))
    by_cases hl : l = w_warn
    · refine Br.f (by rw [hl]; rfl) ?_
      conv => whnf
      have e : pr (.log x l) = [108, 111, 103] := by simp [pr, canon, spI, sp, rawI, hx, hl]
      rw [e] at k
      exact k
    · refine Br.t (by rw [leq_ne hl]; rfl) ?_
      conv => whnf
      repeat (first | assumption | (refine ⟨_, rfl, ?_⟩; conv => whnf) | (refine Br.t rfl ?_; conv => whnf) | (refine Br.f rfl ?_; conv => whnf) | (refine ⟨Nat.le_of_ble_eq_true rfl, ?_⟩; conv => whnf) | (refine ⟨by decide, ?_⟩; conv => whnf))
      refine ⟨by simp; omega, ?_⟩
      conv => whnf
      refine ⟨by simp; omega, ?_⟩
      conv => whnf
      have e : pr (.log x l) = [108, 111, 103] ++ ([32, 108, 101, 118, 101, 108, 32] ++ l) := by simp [pr, canon, spI, sp, rawI, hx, hl]
      rw [e] at k
      exact k
  · refine Br.t (by rw [leq_ne hx]; rfl) ?_
    conv => whnf
    repeat (first | assumption | (refine ⟨_, rfl, ?_⟩; conv => whnf) | (refine Br.t rfl ?_; conv => whnf) | (refine Br.f rfl ?_; conv => whnf) | (refine ⟨Nat.le_of_ble_eq_true rfl, ?_⟩; conv => whnf) | (refine ⟨by decide, ?_⟩; conv => whnf))
    refine h418 x st _ o1 ?_
    conv => whnf
    refine ⟨by simp [rawI]; omega, ?_⟩
    conv => whnf
    refine ⟨by simp [rawI]; omega, ?_⟩
    conv => whnf
    repeat (first | assumption | (refine ⟨_, rfl, ?_⟩; conv => whnf) | (refine Br.t rfl ?_; conv => whnf) | (refine Br.f rfl ?_; conv => whnf) | (refine ⟨Nat.le_of_ble_eq_true rfl, ?_⟩; conv => whnf) | (refine ⟨by decide, ?_⟩; conv => whnf))
    by_cases hl : l = w_warn
    · refine Br.f (by rw [hl]; rfl) ?_
      conv => whnf
      have e : pr (.log x l) = [108, 111, 103] ++ ([32, 112, 114, 101, 102, 105, 120, 32] ++ rawI (.q x)) := by simp [pr, canon, spI, sp, rawI, hx, hl]
      rw [e] at k
      exact k
    · refine Br.t (by rw [leq_ne hl]; rfl) ?_
      conv => whnf
      repeat (first | assumption | (refine ⟨_, rfl, ?_⟩; conv => whnf) | (refine Br.t rfl ?_; conv => whnf) | (refine Br.f rfl ?_; conv => whnf) | (refine ⟨Nat.le_of_ble_eq_true rfl, ?_⟩; conv => whnf) | (refine ⟨by decide, ?_⟩; conv => whnf))
      refine ⟨by simp; omega, ?_⟩
      conv => whnf
      refine ⟨by simp [rawI]; omega, ?_⟩
      conv => whnf
      have e : pr (.log x l) = [108, 111, 103] ++ ([32, 112, 114, 101, 102, 105, 120, 32] ++ rawI (.q x)) ++ ([32, 108, 101, 118, 101, 108, 32] ++ l) := by simp [pr, canon, spI, sp, rawI, hx, hl]
      rw [e] at k
      exact k
theorem p481 (N : Nat) : Spr 481 (N + 1) (fun v => v = .ntk) := by
  intro t v st K hv ok k
  subst hv
  refine ⟨rfl, ?_⟩
  conv => whnf
  exact k
end Mine
end

section
set_option maxRecDepth 100000
namespace Mine
theorem cut_tl (a b c d e f : D) : cut [a, b, c, d, e, f] (some 1) none = [b, c, d, e, f] := cut_from [a] [b, c, d, e, f] 1 rfl
theorem p453 (N : Nat) (h425 : S425 N) : Spr 453 (N + 1) (fun v => ∃ b n u m oc, v = .lim b n u m oc) := by
  intro t v st K hv ok k
  obtain ⟨b, n, u, m, oc, rfl⟩ := hv
  obtain ⟨o1, o2, o3, o4⟩ := ok
  have l1 := int_len (pu_in (k := 2) o1).1
  have l2 := int_len (pu_in (k := 2) o3).1
  have l3 := int_len o1
  have l4 := int_len o3
  have u1 := un_len (pu 2 n 0).2
  have u2 := un_len (pu 2 m 0).2
  have u3 := (isU_asc o2).2
  have hll : (1000 : Nat) ≤ line := by decide
  refine ⟨rfl, ?_⟩
  conv => whnf
  refine ⟨⟨by decide, Nat.le_of_ble_eq_true rfl, Nat.le_of_ble_eq_true rfl⟩, ?_⟩
  conv => whnf
  have main : ∀ (pre : List Nat), pre.length ≤ 100 → (∀ oc', oc' = oc → pr (.lim b n u m oc') = (if oc' = true then (pre ++ (intText (pu 2 n 0).1 ++ [32] ++ un (pu 2 n 0).2 ++ [47] ++ u)) ++ (if m = 0 then [] else [32, 98, 117, 114, 115, 116, 32] ++ (intText (pu 2 m 0).1 ++ [32] ++ un (pu 2 m 0).2)) else
      pre ++ intText n ++ [47] ++ u ++ [32, 98, 117, 114, 115, 116, 32] ++ intText m ++ [32, 112, 97, 99, 107, 101, 116, 115])) →
      X (SpN N) (.seq (.ife (.not (.loc 6)) (.seq (.ret (.bin .add (.bin .add (.bin .add (.bin .add (.bin .add (.bin .add (.loc 7) (.bi .str (.loc 3))) (.str [47])) (.loc 4)) (.str [32, 98, 117, 114, 115, 116, 32])) (.bi .str (.loc 5))) (.str [32, 112, 97, 99, 107, 101, 116, 115]))) .skip) .skip) (.seq (.aug 7 .add (.bin .add (.bin .add (.call 425 (.cons (.loc 3) (.cons (.int 3) .nil))) (.str [47])) (.loc 4))) (.seq (.ife (.cmp .ne (.loc 5) (.int 0)) (.seq (.aug 7 .add (.bin .add (.str [32, 98, 117, 114, 115, 116, 32]) (.call 425 (.cons (.loc 5) (.cons (.int 3) .nil))))) .skip) .skip) (.seq (.ret (.loc 7)) .skip))))
        ⟨[some t, some (V.toD (.lim b n u m oc)), some (.bool b), some (.int n), some (.str u), some (.int m), some (.bool oc), some (.str pre)], st⟩ (fun fl σ => match fl with | .next => K .none σ.st | .ret d => K d σ.st) := by
    intro pre hp he
    have he := he oc rfl
    conv => whnf
    cases oc with
    | false =>
      refine Br.t rfl ?_
      conv => whnf
      refine ⟨sml200 o1, ?_⟩
      conv => whnf
      refine ⟨by first | omega | (simp; omega), ?_⟩
      conv => whnf
      refine ⟨by first | omega | (simp; omega), ?_⟩
      conv => whnf
      refine ⟨by first | omega | (simp; omega), ?_⟩
      conv => whnf
      refine ⟨by first | omega | (simp; omega), ?_⟩
      conv => whnf
      refine ⟨sml200 o3, ?_⟩
      conv => whnf
      refine ⟨by first | omega | (simp; omega), ?_⟩
      conv => whnf
      refine ⟨by first | omega | (simp; omega), ?_⟩
      conv => whnf
      rw [he] at k
      exact k
    | true =>
      refine Br.f rfl ?_
      conv => whnf
      refine h425 2 n 3 st _ o1 (.inl ⟨rfl, rfl⟩) ?_
      conv => whnf
      refine ⟨by first | omega | (simp; omega), ?_⟩
      conv => whnf
      refine ⟨by first | omega | (simp; omega), ?_⟩
      conv => whnf
      refine ⟨by first | omega | (simp; omega), ?_⟩
      conv => whnf
      by_cases h : m = 0
      · refine Br.f (by simp [h]) ?_
        conv => whnf
        rw [he, if_pos rfl, if_pos h, List.append_nil] at k
        exact k
      · refine Br.t (by simp [h]) ?_
        conv => whnf
        refine h425 2 m 3 st _ o3 (.inl ⟨rfl, rfl⟩) ?_
        conv => whnf
        refine ⟨by first | omega | (simp; omega), ?_⟩
        conv => whnf
        refine ⟨by first | omega | (simp; omega), ?_⟩
        conv => whnf
        rw [he, if_pos rfl, if_neg h] at k
        exact k
  cases b with
  | true =>
    refine Br.t rfl ?_
    conv => whnf
    refine ⟨Nat.le_of_ble_eq_true rfl, ?_⟩
    exact main ([108, 105, 109, 105, 116, 32, 114, 97, 116, 101, 32] ++ [111, 118, 101, 114, 32]) (by decide) (fun oc' _ => by
      cases oc' with
      | true => by_cases h : m = 0 <;> simp [pr, canon, spI, sp, rawI, puI, h]
      | false => simp [pr, canon, spI, sp, rawI, puI])
  | false =>
    refine Br.f rfl ?_
    exact main [108, 105, 109, 105, 116, 32, 114, 97, 116, 101, 32] (by decide) (fun oc' _ => by
      cases oc' with
      | true => by_cases h : m = 0 <;> simp [pr, canon, spI, sp, rawI, puI, h]
      | false => simp [pr, canon, spI, sp, rawI, puI])

noncomputable abbrev ptab : List (List Nat × D) := [(w_counter, .sta 439), (w_quota, .sta 446), (w_limit, .sta 453), (w_object, .sta 460), (w_log, .sta 474), (w_notrack, .sta 481)]
noncomputable def S488 (N : Nat) : Prop := ∀ (t : D) (i : Nat) (v : V) (st : List O) (K : D → List O → Prop), st[i]? = some (.dct ptab) → OkV v → K (.str (pr v)) st → SpN N 488 [t, .obj i, v.toD] st K
theorem p488 (N : Nat) (h1 : Spr 439 N (fun v => ∃ n m, v = .ctr n m)) (h2 : Spr 446 N (fun v => ∃ b n m, v = .quo b n m)) (h3 : Spr 453 N (fun v => ∃ b n u m oc, v = .lim b n u m oc)) (h4 : Spr 460 N (fun v => ∃ n m, v = .obj n m)) (h5 : Spr 474 N (fun v => ∃ n m, v = .log n m)) (h6 : Spr 481 N (fun v => v = .ntk)) : S488 (N + 1) := by
  intro t i v st K hi ok k
  refine ⟨rfl, ?_⟩
  cases v with
  | ctr n m =>
    conv => whnf
    repeat (first | assumption | (refine ⟨_, rfl, ?_⟩; conv => whnf) | (refine Br.t rfl ?_; conv => whnf) | (refine Br.f rfl ?_; conv => whnf) | (refine ⟨Nat.le_of_ble_eq_true rfl, ?_⟩; conv => whnf) | (refine ⟨by decide, ?_⟩; conv => whnf))
    refine ⟨_, hi, ?_⟩
    refine Br.f rfl ?_
    conv => whnf
    repeat (first | assumption | (refine ⟨_, rfl, ?_⟩; conv => whnf) | (refine Br.t rfl ?_; conv => whnf) | (refine Br.f rfl ?_; conv => whnf) | (refine ⟨Nat.le_of_ble_eq_true rfl, ?_⟩; conv => whnf) | (refine ⟨by decide, ?_⟩; conv => whnf))
    refine ⟨_, hi, ?_⟩
    conv => whnf
    refine ⟨rfl, ?_⟩
    conv => whnf
    exact h1 t _ st _ ⟨n, m, rfl⟩ ok k
  | quo b n m =>
    conv => whnf
    repeat (first | assumption | (refine ⟨_, rfl, ?_⟩; conv => whnf) | (refine Br.t rfl ?_; conv => whnf) | (refine Br.f rfl ?_; conv => whnf) | (refine ⟨Nat.le_of_ble_eq_true rfl, ?_⟩; conv => whnf) | (refine ⟨by decide, ?_⟩; conv => whnf))
    refine ⟨_, hi, ?_⟩
    refine Br.f rfl ?_
    conv => whnf
    repeat (first | assumption | (refine ⟨_, rfl, ?_⟩; conv => whnf) | (refine Br.t rfl ?_; conv => whnf) | (refine Br.f rfl ?_; conv => whnf) | (refine ⟨Nat.le_of_ble_eq_true rfl, ?_⟩; conv => whnf) | (refine ⟨by decide, ?_⟩; conv => whnf))
    refine ⟨_, hi, ?_⟩
    conv => whnf
    refine ⟨rfl, ?_⟩
    conv => whnf
    exact h2 t _ st _ ⟨b, n, m, rfl⟩ ok k
  | lim b n u m oc =>
    conv => whnf
    repeat (first | assumption | (refine ⟨_, rfl, ?_⟩; conv => whnf) | (refine Br.t rfl ?_; conv => whnf) | (refine Br.f rfl ?_; conv => whnf) | (refine ⟨Nat.le_of_ble_eq_true rfl, ?_⟩; conv => whnf) | (refine ⟨by decide, ?_⟩; conv => whnf))
    refine ⟨_, hi, ?_⟩
    refine Br.f rfl ?_
    conv => whnf
    repeat (first | assumption | (refine ⟨_, rfl, ?_⟩; conv => whnf) | (refine Br.t rfl ?_; conv => whnf) | (refine Br.f rfl ?_; conv => whnf) | (refine ⟨Nat.le_of_ble_eq_true rfl, ?_⟩; conv => whnf) | (refine ⟨by decide, ?_⟩; conv => whnf))
    refine ⟨_, hi, ?_⟩
    conv => whnf
    refine ⟨rfl, ?_⟩
    conv => whnf
    exact h3 t _ st _ ⟨b, n, u, m, oc, rfl⟩ ok k
  | obj n m =>
    conv => whnf
    repeat (first | assumption | (refine ⟨_, rfl, ?_⟩; conv => whnf) | (refine Br.t rfl ?_; conv => whnf) | (refine Br.f rfl ?_; conv => whnf) | (refine ⟨Nat.le_of_ble_eq_true rfl, ?_⟩; conv => whnf) | (refine ⟨by decide, ?_⟩; conv => whnf))
    refine ⟨_, hi, ?_⟩
    refine Br.f rfl ?_
    conv => whnf
    repeat (first | assumption | (refine ⟨_, rfl, ?_⟩; conv => whnf) | (refine Br.t rfl ?_; conv => whnf) | (refine Br.f rfl ?_; conv => whnf) | (refine ⟨Nat.le_of_ble_eq_true rfl, ?_⟩; conv => whnf) | (refine ⟨by decide, ?_⟩; conv => whnf))
    refine ⟨_, hi, ?_⟩
    conv => whnf
    refine ⟨rfl, ?_⟩
    conv => whnf
    exact h4 t _ st _ ⟨n, m, rfl⟩ ok k
  | log n m =>
    conv => whnf
    repeat (first | assumption | (refine ⟨_, rfl, ?_⟩; conv => whnf) | (refine Br.t rfl ?_; conv => whnf) | (refine Br.f rfl ?_; conv => whnf) | (refine ⟨Nat.le_of_ble_eq_true rfl, ?_⟩; conv => whnf) | (refine ⟨by decide, ?_⟩; conv => whnf))
    refine ⟨_, hi, ?_⟩
    refine Br.f rfl ?_
    conv => whnf
    repeat (first | assumption | (refine ⟨_, rfl, ?_⟩; conv => whnf) | (refine Br.t rfl ?_; conv => whnf) | (refine Br.f rfl ?_; conv => whnf) | (refine ⟨Nat.le_of_ble_eq_true rfl, ?_⟩; conv => whnf) | (refine ⟨by decide, ?_⟩; conv => whnf))
    refine ⟨_, hi, ?_⟩
    conv => whnf
    refine ⟨rfl, ?_⟩
    conv => whnf
    exact h5 t _ st _ ⟨n, m, rfl⟩ ok k
  | ntk =>
    conv => whnf
    repeat (first | assumption | (refine ⟨_, rfl, ?_⟩; conv => whnf) | (refine Br.t rfl ?_; conv => whnf) | (refine Br.f rfl ?_; conv => whnf) | (refine ⟨Nat.le_of_ble_eq_true rfl, ?_⟩; conv => whnf) | (refine ⟨by decide, ?_⟩; conv => whnf))
    refine ⟨_, hi, ?_⟩
    refine Br.f rfl ?_
    conv => whnf
    repeat (first | assumption | (refine ⟨_, rfl, ?_⟩; conv => whnf) | (refine Br.t rfl ?_; conv => whnf) | (refine Br.f rfl ?_; conv => whnf) | (refine ⟨Nat.le_of_ble_eq_true rfl, ?_⟩; conv => whnf) | (refine ⟨by decide, ?_⟩; conv => whnf))
    refine ⟨_, hi, ?_⟩
    conv => whnf
    refine ⟨rfl, ?_⟩
    conv => whnf
    exact h6 t _ st _ rfl ok k
end Mine
end

section
set_option maxRecDepth 100000
namespace Mine
structure Keep (n : Nat) (st st' : List O) : Prop where
  len : st.length ≤ st'.length
  keep : ∀ i : Nat, i < n → st'[i]? = st[i]?
theorem strs_of : ∀ (xs : List (List Nat)), strsOf (xs.map D.str) = some xs
  | [] => rfl
  | x :: r => by simp [strsOf, strs_of r]
theorem comp582 (N : Nat) (h404 : S404 N) (h488 : S488 N) (g w k : Nat) (all : List D) (x0 : Option D) (K : List O → Prop) (hg : g < k) (hw : w < k) : ∀ (vs : List V) (st : List O) (acc : List (List Nat)), st[g]? = some (.lst all) → st[w]? = some (.dct ptab) → st[k]? = some (.lst (acc.map D.str)) → (∀ v ∈ vs, OkV v) → acc.length + vs.length ≤ 1000 →
    (∀ st', Keep k st st' → st'[k]? = some (.lst ((acc ++ vs.map pr).map D.str)) → K st') →
    compn (fun st => itemsC st (.obj g) all) (E (SpN N) (.bool true)) (E (SpN N) e0__law_written) [x0, some (.obj w)] k K (vs.map V.toD) st := by
  intro vs
  induction vs with
  | nil =>
    intro st acc h1 h2 h3 _ _ kk
    exact ⟨h1, kk st ⟨Nat.le_refl _, fun _ _ => rfl⟩ (by simpa using h3)⟩
  | cons v r ih =>
    intro st acc h1 h2 h3 hok hl kk
    refine ⟨h1, ?_⟩
    conv => whnf
    refine Br.t rfl ?_
    conv => whnf
    refine h404 ((st ++ [O.dct []]) ++ [O.dct []]).length _ _ (((st ++ [O.dct []]) ++ [O.dct []]) ++ [O.ins 407 []]) _ (last_at _ _) fun st1 G1 l1 => ?_
    conv => whnf
    have hk := at_lt h3
    have e1 : (((st ++ [O.dct []]) ++ [O.dct []]) ++ [O.ins 407 []] : List O).length = st.length + 3 := by simp
    have e0 : ((st ++ [O.dct []]) ++ [O.dct []] : List O).length = st.length + 2 := by simp
    have b1 : ∀ i, i < st.length → st1[i]? = st[i]? := fun i hi => by
      rw [G1.keep i (by rw [e1]; omega) (by rw [e0]; omega)]
      rw [List.getElem?_append_left (by simp; omega), List.getElem?_append_left (by simp; omega), List.getElem?_append_left hi]
    refine h488 _ w v st1 _ ((b1 w (by omega)).trans h2) (hok v (by simp)) ?_
    conv => whnf
    have hk1 : st1[k]? = some (.lst (acc.map D.str)) := (b1 k hk).trans h3
    refine ⟨_, hk1, Nat.lt_of_le_of_lt (show (acc.map D.str).length ≤ 1000 by rw [List.length_map]; omega) (by decide), ?_⟩
    refine ih (st1.set k _) (acc ++ [pr v]) ?_ ?_ ?_ (fun u hu => hok u (by simp [hu])) (by simp at hl ⊢; omega) fun st' K' hk' => ?_
    · exact (List.getElem?_set_ne (by omega)).trans ((b1 g (by omega)).trans h1)
    · exact (List.getElem?_set_ne (by omega)).trans ((b1 w (by omega)).trans h2)
    · rw [List.getElem?_set_self (at_lt hk1)]; simp
    · refine kk st' ⟨?_, fun i hi => ?_⟩ (by simpa using hk')
      · have := K'.len; simp at this; omega
      · rw [K'.keep i hi, List.getElem?_set_ne (by omega), b1 i (by omega)]
theorem sum_pr : ∀ {vs : List V}, (∀ v ∈ vs, OkV v) → sumLen (vs.map pr) ≤ vs.length * 8032
  | [], _ => Nat.le_refl _
  | v :: r, h => by
    have h1 := pr_len (h v (by simp))
    have h2 := sum_pr (vs := r) (fun u hu => h u (by simp [hu]))
    simp [sumLen] at h2 ⊢
    omega
noncomputable def S582 (N : Nat) : Prop := ∀ (g : Nat) (vs : List V) (st : List O) (K : D → List O → Prop), st[g]? = some (.lst (vs.map V.toD)) → (∀ v ∈ vs, OkV v) → vs.length ≤ 10 → (∀ st', Keep st.length st st' → K (.str (spI (canonL vs))) st') → SpN N 582 [.obj g] st K
theorem p582 (N : Nat) (h467 : S467 N) (h404 : S404 N) (h488 : S488 N) : S582 (N + 1) := by
  intro g vs st K hg hok hl k
  have hgl := at_lt hg
  refine ⟨rfl, ?_⟩
  conv => whnf
  refine h467 st _ ?_
  conv => whnf
  refine ⟨⟨_, last_at st _⟩, ?_⟩
  conv => whnf
  refine ⟨_, (List.getElem?_append_left (by simp [St.new, St.put])).trans (last_at st _), _, last_at (st ++ [_]) _, by simp [St.new, St.put], Nat.le_of_ble_eq_true rfl, ?_⟩
  conv => whnf
  refine ⟨trivial, ?_⟩
  conv => whnf
  obtain ⟨S, hS⟩ : ∃ S : List O, S = (((st ++ [O.dct [(w_counter, .sta 439), (w_quota, .sta 446), (w_limit, .sta 453), (w_object, .sta 460)]]) ++ [O.dct [(w_log, .sta 474), (w_notrack, .sta 481)]]).set st.length (.dct ptab)) := ⟨_, rfl⟩
  have e1 : S.length = st.length + 2 := by rw [hS]; simp
  have b1 : ∀ i, i < st.length → S[i]? = st[i]? := fun i hi => by
    rw [hS, List.getElem?_set_ne (by omega), List.getElem?_append_left (by simp; omega), List.getElem?_append_left hi]
  have gS : S[g]? = some (.lst (vs.map V.toD)) := (b1 g hgl).trans hg
  have wS : S[st.length]? = some (.dct ptab) := by rw [hS]; exact List.getElem?_set_self (by simp)
  have ll : (vs.map V.toD).length ≤ 1000 := by rw [List.length_map]; omega
  have fin : ∀ st' : List O, Keep S.length (S ++ [O.lst []]) st' → st'[S.length]? = some (.lst (([] ++ vs.map pr).map D.str)) → X (SpN N) .skip ⟨[], []⟩ (fun _ _ => smP st' .join (.str [32]) [.obj S.length] fun d st'' => K d st'') := fun st' K' hk' => by
    conv => whnf
    refine ⟨_, hk', ?_⟩
    rw [strs_of]
    conv => whnf
    have hs := sum_pr hok
    have hll : (8000000 : Nat) ≤ line := by decide
    refine ⟨by simp; omega, ?_⟩
    have hj : joined [32] ([] ++ vs.map pr) = spI (canonL vs) := join_pr vs
    rw [hj]
    refine k st' ⟨?_, fun i hi => ?_⟩
    · have := K'.len; simp at this; omega
    · rw [K'.keep i (by omega), List.getElem?_append_left (by omega), b1 i hi]
  have hc := fun K h => comp582 N h404 h488 g st.length S.length (vs.map V.toD) (some (.obj g)) K (by omega) (by omega) vs (S ++ [.lst []]) [] ((List.getElem?_append_left (by omega)).trans gS) ((List.getElem?_append_left (by omega)).trans wS) (last_at _ _) hok (by simp; omega) h
  have hc' := hc (fun st' => smP st' .join (.str [32]) [.obj S.length] fun d st'' => K d st'') fin
  clear fin hc k
  subst hS
  exact ⟨vs.map V.toD, gS, ll, hc'⟩
end Mine
end

section
set_option maxRecDepth 100000
namespace Mine
noncomputable def Pen (st : List O) (i : Nat) : Prop := ∃ n : Int, st[i]? = some (.lst [.int n])
noncomputable def S495 (N : Nat) : Prop := ∀ (i : Nat) (m : Int) (st : List O) (K : D → List O → Prop), Pen st i → 0 < m → m ≤ 2 ^ 64 → (∀ st' d, Pen st' i → Grow i st st' → 0 ≤ d → d < m → K (.int d) st') → SpN N 495 [.obj i, .int m] st K
theorem p495 (N : Nat) : S495 (N + 1) := by
  intro i m st K hp h0 h1 k
  obtain ⟨n, hn⟩ := hp
  refine ⟨rfl, ?_⟩
  conv => whnf
  refine ⟨_, hn, Nat.le_of_ble_eq_true rfl, ?_⟩
  conv => whnf
  refine ⟨⟨h0, h1⟩, ?_⟩
  conv => whnf
  refine ⟨_, hn, Nat.le_of_ble_eq_true rfl, ?_⟩
  conv => whnf
  refine ⟨⟨h0, h1⟩, ?_⟩
  conv => whnf
  refine ⟨_, hn, ⟨by decide, Nat.le_of_ble_eq_true rfl, by decide⟩, ?_⟩
  conv => whnf
  refine k _ _ ⟨n.fdiv m, List.getElem?_set_self (at_lt hn)⟩ ⟨by simp [St.upd, St.put], fun j hj hne => List.getElem?_set_ne (Ne.symm hne)⟩ (Int.fmod_nonneg_of_pos n h0) (Int.fmod_lt_of_pos n h0)

theorem hex_dig : ∀ d < 16, nth hexd d = some (hexd.getD d 0) ∧ dig (hexd.getD d 0) = d ∧ hexd.getD d 0 < 128 ∧ figB (hexd.getD d 0) = true ∧ figB (upperSign (hexd.getD d 0)) = true ∧ dig (upperSign (hexd.getD d 0)) = d ∧ upperSign (hexd.getD d 0) < 128 := by decide
structure Hx (ds : List Nat) (v : Int) : Prop where
  dg : ∀ a : Int, 0 ≤ a → (a + 1) * 16 ^ ds.length ≤ 2 ^ 180 → Dg 16 a ds (a * 16 ^ ds.length + v)
  up : ∀ a : Int, 0 ≤ a → (a + 1) * 16 ^ ds.length ≤ 2 ^ 180 → Dg 16 a (ds.map upperSign) (a * 16 ^ ds.length + v)
  fig : ∀ c ∈ ds, c < 128 ∧ figB c = true ∧ figB (upperSign c) = true
theorem Hx.nil : Hx [] 0 := ⟨fun a _ _ => by simpa using Dg.nil a, fun a _ _ => by simpa using Dg.nil a, fun c hc => by cases hc⟩
theorem Hx.step {ds v} (h : Hx ds v) {d : Nat} (hd : d < 16) : Hx (hexd.getD d 0 :: ds) (d * 16 ^ ds.length + v) := by
  obtain ⟨e1, e2, e3, e4, e5, e6, e7⟩ := hex_dig d hd
  have key : ∀ a : Int, 0 ≤ a → (a + 1) * 16 ^ (ds.length + 1) ≤ 2 ^ 180 → a < 2 ^ 180 ∧ 0 ≤ a * 16 + d ∧ (a * 16 + d + 1) * 16 ^ ds.length ≤ 2 ^ 180 ∧ a * 16 ^ (ds.length + 1) + (d * 16 ^ ds.length + v) = (a * 16 + d) * 16 ^ ds.length + v := by
    intro a ha hb
    rw [Int.pow_succ (16 : Int) ds.length] at hb ⊢
    have hP : 0 < (16 : Int) ^ ds.length := Int.pow_pos (by decide)
    generalize (16 : Int) ^ ds.length = P at hb hP ⊢
    have e8 : (a + 1) * (P * 16) = ((a + 1) * 16) * P := by rw [Int.mul_comm P 16, Int.mul_assoc]
    rw [e8] at hb
    have h2 : (a * 16 + d + 1) * P ≤ ((a + 1) * 16) * P := Int.mul_le_mul_of_nonneg_right (by omega) (Int.le_of_lt hP)
    have h3 : ((a + 1) * 16) * 1 ≤ ((a + 1) * 16) * P := Int.mul_le_mul_of_nonneg_left (by omega) (by omega)
    refine ⟨by omega, by omega, by omega, ?_⟩
    rw [Int.add_mul, ← Int.mul_assoc, Int.mul_assoc a P 16, Int.mul_comm P 16, ← Int.mul_assoc, Int.add_assoc]
  refine ⟨fun a ha hb => ?_, fun a ha hb => ?_, fun c hc => ?_⟩
  · obtain ⟨k1, k2, k3, k4⟩ := key a ha hb
    refine .cons e3 (by omega) (by omega) ha k1 ?_
    rw [e2]
    have := h.dg (a * 16 + d) k2 k3
    rw [← k4] at this
    exact this
  · obtain ⟨k1, k2, k3, k4⟩ := key a ha hb
    refine .cons e7 (by omega) (by omega) ha k1 ?_
    rw [e6]
    have := h.up (a * 16 + d) k2 k3
    rw [← k4] at this
    exact this
  · rcases List.mem_cons.mp hc with rfl | hc
    · exact ⟨e3, e4, e5⟩
    · exact h.fig c hc
theorem hex_nw {ds v} (h : Hx ds v) (hl : ds.length ≤ 20) (hne : ds ≠ []) : Nw (48 :: 120 :: ds) v ∧ Nw (48 :: 120 :: ds.map upperSign) v := by
  have hb : ((0 : Int) + 1) * 16 ^ ds.length ≤ 2 ^ 180 := by
    rw [Int.zero_add, Int.one_mul]
    have h1 : (16 : Nat) ^ ds.length ≤ 16 ^ 20 := Nat.pow_le_pow_right (by decide) hl
    have h2 : ((16 : Int) ^ ds.length) = ((16 ^ ds.length : Nat) : Int) := by simp
    omega
  have d1 := h.dg 0 (Int.le_refl _) hb
  have d2 := h.up 0 (Int.le_refl _) hb
  rw [Int.zero_mul, Int.zero_add] at d1 d2
  refine ⟨⟨⟨by simp; omega, .inl ⟨_, rfl, hne, d1⟩⟩, by simp, fun c hc => ?_, by simp; omega⟩, ⟨⟨by simp; omega, .inl ⟨_, rfl, by simpa using hne, d2⟩⟩, by simp, fun c hc => ?_, by simp; omega⟩⟩
  · rcases List.mem_cons.mp hc with rfl | hc
    · rfl
    · rcases List.mem_cons.mp hc with rfl | hc
      · rfl
      · exact (h.fig c hc).2.1
  · rcases List.mem_cons.mp hc with rfl | hc
    · rfl
    · rcases List.mem_cons.mp hc with rfl | hc
      · rfl
      · obtain ⟨c', h1, rfl⟩ := List.mem_map.mp hc
        exact (h.fig c' h1).2.2
theorem hex_turn (N : Nat) (x0 x2 : Option D) (st : List O) (n : Int) (ds : List Nat) (hn : 0 ≤ n) (hl : ds.length ≤ 20) (K : Fl → St → Prop) (k : ∀ d : Nat, d < 16 → n = n.fdiv 16 * 16 + d → K .next ⟨[x0, some (.int (n.fdiv 16)), x2, some (.str (hexd.getD d 0 :: ds))], st⟩) :
    X (SpN N) b1__law_number ⟨[x0, some (.int n), x2, some (.str ds)], st⟩ K := by
  have e1 : n.fmod 16 = n % 16 := Int.fmod_eq_emod_of_nonneg n (by decide)
  have e2 : n.fdiv 16 = n / 16 := Int.fdiv_eq_ediv_of_nonneg n (by decide)
  obtain ⟨d, hd⟩ := Int.eq_ofNat_of_zero_le (a := n.fmod 16) (by omega)
  have hd16 : d < 16 := by omega
  have hp : pick (n.fmod 16) hexd = some (hexd.getD d 0) := by rw [hd]; exact (hex_dig d hd16).1
  conv => whnf
  refine ⟨by decide, ?_⟩
  conv => whnf
  rw [hp]
  refine ⟨Nat.le_of_ble_eq_true rfl, ?_⟩
  conv => whnf
  have hll : (1000 : Nat) ≤ line := by decide
  refine ⟨by simp; omega, ?_⟩
  conv => whnf
  refine ⟨by decide, ?_⟩
  conv => whnf
  exact k d hd16 (by omega)
theorem hex_loop (N : Nat) (x0 x2 : Option D) (st : List O) (n0 : Int) (K : Fl → St → Prop) (k : ∀ ds, ds ≠ [] → ds.length ≤ 20 → Hx ds n0 → K .next ⟨[x0, some (.int 0), x2, some (.str ds)], st⟩) : ∀ (j : Nat) (n v : Int) (ds : List Nat), 0 ≤ n → n < 16 ^ j → ds ≠ [] → ds.length + j ≤ 20 → Hx ds v → n * 16 ^ ds.length + v = n0 →
    whn (E (SpN N) t0__law_number) (X (SpN N) b1__law_number) K (j + 1) ⟨[x0, some (.int n), x2, some (.str ds)], st⟩ := by
  intro j
  induction j with
  | zero =>
    intro n v ds h0 h1 h2 h3 h4 h5
    have hn : n = 0 := by simp at h1; omega
    subst hn
    conv => whnf
    refine Br.f rfl ?_
    conv => whnf
    refine Br.f (leq_ne h2) ?_
    rw [Int.zero_mul, Int.zero_add] at h5
    exact k ds h2 (by omega) (h5 ▸ h4)
  | succ j ih =>
    intro n v ds h0 h1 h2 h3 h4 h5
    by_cases hn : n = 0
    · subst hn
      conv => whnf
      refine Br.f rfl ?_
      conv => whnf
      refine Br.f (leq_ne h2) ?_
      rw [Int.zero_mul, Int.zero_add] at h5
      exact k ds h2 (by omega) (h5 ▸ h4)
    · conv => whnf
      refine Br.t (decide_eq_true (by omega)) ?_
      conv => whnf
      refine Br.t rfl ?_
      refine hex_turn N x0 x2 st n ds h0 (by omega) _ fun d hd e => ?_
      have e2 : n.fdiv 16 = n / 16 := Int.fdiv_eq_ediv_of_nonneg n (by decide)
      rw [Int.pow_succ] at h1
      refine ih (n.fdiv 16) (d * 16 ^ ds.length + v) _ (by omega) (by omega) (by simp) (by simp; omega) (h4.step hd) ?_
      rw [← h5, List.length_cons, Int.pow_succ]
      generalize hP : (16 : Int) ^ ds.length = P
      have : n * P = (n.fdiv 16 * 16 + d) * P := by rw [← e]
      rw [this, Int.add_mul, Int.mul_comm P 16, ← Int.mul_assoc, Int.add_assoc]
theorem hex_all (N : Nat) (x0 x2 : Option D) (st : List O) (n : Int) (hn : In64 n) (K : Fl → St → Prop) (k : ∀ ds, ds ≠ [] → ds.length ≤ 20 → Hx ds n → K .next ⟨[x0, some (.int 0), x2, some (.str ds)], st⟩) :
    whn (E (SpN N) t0__law_number) (X (SpN N) b1__law_number) K 18 ⟨[x0, some (.int n), x2, some (.str [])], st⟩ := by
  have ht : top64 = 18446744073709551615 := rfl
  obtain ⟨h0, h1⟩ := hn
  have e2 : n.fdiv 16 = n / 16 := Int.fdiv_eq_ediv_of_nonneg n (by decide)
  have rest : X (SpN N) b1__law_number ⟨[x0, some (.int n), x2, some (.str [])], st⟩ (fun fl σ2 => match fl with | .next => whn (E (SpN N) t0__law_number) (X (SpN N) b1__law_number) K 17 σ2 | .ret d => K (.ret d) σ2) := by
    refine hex_turn N x0 x2 st n [] h0 (by simp) _ fun d hd e => ?_
    refine hex_loop N x0 x2 st n K k 16 (n.fdiv 16) _ _ (by omega) (by omega) (by simp) (by simp) (Hx.nil.step hd) ?_
    simp
    omega
  conv => whnf
  by_cases hn : n = 0
  · refine Br.f (decide_eq_false (by omega)) ?_
    conv => whnf
    refine Br.t rfl ?_
    exact rest
  · refine Br.t (decide_eq_true (by omega)) ?_
    conv => whnf
    refine Br.t rfl ?_
    exact rest
theorem nw_00 {w n} (h : Dg 10 0 w n) (h2 : ∀ c ∈ w, 48 ≤ c ∧ c ≤ 57) (h4 : w.length ≤ 20) : Nw (48 :: 48 :: w) n := by
  have z : ∀ {w : List Nat}, Dg 10 0 w n → Dg 10 0 (48 :: w) n := fun h => .cons (by decide) (by decide) (by decide) (by decide) (by decide) h
  refine nw_of (z (z h)) (fun c hc => ?_) (by simp) (by simp; omega)
  rcases List.mem_cons.mp hc with rfl | hc
  · decide
  · rcases List.mem_cons.mp hc with rfl | hc
    · decide
    · exact h2 c hc
noncomputable def S502 (N : Nat) : Prop := ∀ (i : Nat) (n : Int) (st : List O) (K : D → List O → Prop), Pen st i → In64 n → (∀ st' w, Pen st' i → Grow i st st' → Nw w n → K (.str w) st') → SpN N 502 [.obj i, .int n] st K
theorem p502 (N : Nat) (h495 : S495 N) : S502 (N + 1) := by
  intro i n st K hp hn k
  obtain ⟨g1, g2, g3, g4⟩ := int_num hn
  have hll : (1000 : Nat) ≤ line := by decide
  refine ⟨rfl, ?_⟩
  conv => whnf
  refine h495 i 4 st _ hp (by decide) (by decide) fun st1 d P1 G1 d0 d4 => ?_
  conv => whnf
  have hd : d = 0 ∨ d = 1 ∨ d = 2 ∨ d = 3 := by omega
  rcases hd with rfl | rfl | rfl | rfl
  · refine Br.t rfl ?_
    conv => whnf
    refine ⟨Nat.le_of_ble_eq_true rfl, ?_⟩
    conv => whnf
    refine ⟨sml200 hn, ?_⟩
    conv => whnf
    refine ⟨by simp; omega, ?_⟩
    exact k st1 _ P1 G1 (nw_int hn)
  · refine Br.t rfl ?_
    conv => whnf
    refine ⟨Nat.le_of_ble_eq_true rfl, ?_⟩
    conv => whnf
    refine ⟨sml200 hn, ?_⟩
    conv => whnf
    refine ⟨by simp; omega, ?_⟩
    exact k st1 _ P1 G1 (nw_00 g1 g2 g4)
  · refine Br.f rfl ?_
    conv => whnf
    refine ⟨18, hex_all N _ _ st1 n hn _ fun ds h1 h2 h3 => ?_⟩
    conv => whnf
    refine Br.t rfl ?_
    conv => whnf
    refine ⟨by simp; omega, ?_⟩
    exact k st1 _ P1 G1 (hex_nw h3 h2 h1).1
  · refine Br.f rfl ?_
    conv => whnf
    refine ⟨18, hex_all N _ _ st1 n hn _ fun ds h1 h2 h3 => ?_⟩
    conv => whnf
    refine Br.f rfl ?_
    conv => whnf
    refine ⟨trivial, ?_⟩
    conv => whnf
    refine ⟨⟨fun c hc => (h3.fig c hc).1, by omega⟩, ?_⟩
    conv => whnf
    refine ⟨by simp; omega, ?_⟩
    exact k st1 _ P1 G1 (hex_nw h3 h2 h1).2

noncomputable def S509 (N : Nat) : Prop := ∀ (i : Nat) (st : List O) (K : D → List O → Prop), Pen st i → (∀ st' n, Pen st' i → Grow i st st' → In64 n → K (.int n) st') → SpN N 509 [.obj i] st K
theorem p509 (N : Nat) (h495 : S495 N) : S509 (N + 1) := by
  intro i st K hp k
  refine ⟨rfl, ?_⟩
  conv => whnf
  refine ⟨by decide, ?_⟩
  conv => whnf
  refine ⟨by decide, ?_⟩
  conv => whnf
  refine ⟨by decide, ?_⟩
  conv => whnf
  refine ⟨by decide, ?_⟩
  conv => whnf
  refine h495 i 9 st _ hp (by decide) (by decide) fun st1 d P1 G1 d0 d4 => ?_
  conv => whnf
  have hd : d = 0 ∨ d = 1 ∨ d = 2 ∨ d = 3 ∨ d = 4 ∨ d = 5 ∨ d = 6 ∨ d = 7 ∨ d = 8 := by omega
  rcases hd with rfl | rfl | rfl | rfl | rfl | rfl | rfl | rfl | rfl
  case inr.inr.inr.inr.inr.inr.inr.inr =>
    refine Br.f rfl ?_
    conv => whnf
    refine ⟨by decide, ?_⟩
    conv => whnf
    refine h495 i (2 ^ 64) st1 _ P1 (by decide) (by decide) fun st2 d2 P2 G2 e0 e4 => ?_
    conv => whnf
    refine k st2 d2 P2 (G1.trans G2) ⟨e0, ?_⟩
    have ht : top64 = 18446744073709551615 := rfl
    omega
  all_goals
    refine Br.t rfl ?_
    conv => whnf
    refine ⟨Nat.le_of_ble_eq_true rfl, ?_⟩
    exact k st1 _ P1 G1 (by constructor <;> decide)
end Mine
end

section
set_option maxRecDepth 100000
namespace Mine
theorem Pen.keep {st st' i r} (h : Pen st i) (G : Grow r st st') (hne : i ≠ r) : Pen st' i := by
  obtain ⟨n, hn⟩ := h
  exact ⟨n, (G.keep i (at_lt hn) hne).trans hn⟩
noncomputable abbrev dInts (js : List Nat) : List D := js.map fun (j : Nat) => .int j
theorem pow_le4 : ∀ j ≤ 3, (0 : Int) < 1024 ^ j ∧ (1024 : Int) ^ j ≤ 2 ^ 64 := by decide
theorem comp514 (N : Nat) (oct : Int) (x0 x2 x3 x4 : Option D) (k : Nat) (K : List O → Prop) : ∀ (js acc : List Nat) (st : List O), st[k]? = some (.lst (dInts acc)) → (∀ j ∈ js, j ≤ 3) → (∀ j ∈ acc, oct.fmod (1024 ^ j) = 0) → (acc ≠ [] ∨ 0 ∈ js) → acc.length + js.length ≤ 100 →
    (∀ st' acc', Keep k st st' → st'[k]? = some (.lst (dInts acc')) → acc' ≠ [] → (∀ j ∈ acc', (j ∈ acc ∨ j ∈ js) ∧ oct.fmod (1024 ^ j) = 0) → acc'.length ≤ acc.length + js.length → K st') →
    compn (fun _ => True) (E (SpN N) t0__law_sized) (E (SpN N) e1__law_sized) [x0, some (.int oct), x2, x3, x4] k K (dInts js) st := by
  intro js
  induction js with
  | nil =>
    intro acc st h1 _ h2 h3 _ kk
    refine ⟨trivial, kk st acc ⟨Nat.le_refl _, fun _ _ => rfl⟩ h1 ?_ (fun j hj => ⟨.inl hj, h2 j hj⟩) (by simp)⟩
    rcases h3 with h | h
    · exact h
    · cases h
  | cons j js ih =>
    intro acc st h1 hj h2 h3 hl kk
    have hj3 := hj j (by simp)
    obtain ⟨q1, q2⟩ := pow_le4 j hj3
    refine ⟨trivial, ?_⟩
    conv => whnf
    refine ⟨⟨by decide, by decide, by omega, by omega⟩, ?_⟩
    conv => whnf
    refine ⟨⟨q1, q2⟩, ?_⟩
    conv => whnf
    by_cases hz : oct.fmod (1024 ^ j) = 0
    · refine Br.t (decide_eq_true hz) ?_
      conv => whnf
      refine ⟨_, h1, Nat.lt_of_le_of_lt (show (dInts acc).length ≤ 100 by simp; omega) (by decide), ?_⟩
      refine ih (acc ++ [j]) _ ?_ (fun i hi => hj i (by simp [hi])) ?_ (.inl (by simp)) (by simp at hl ⊢; omega) fun st' acc' K' hk hne ha hlen => ?_
      · rw [List.getElem?_set_self (at_lt h1)]; simp
      · intro i hi
        rcases List.mem_append.mp hi with hi | hi
        · exact h2 i hi
        · simp at hi; subst hi; exact hz
      · refine kk st' acc' ⟨?_, fun i hi => ?_⟩ hk hne (fun i hi => ?_) (by simp at hlen ⊢; omega)
        · have := K'.len; simp at this; omega
        · rw [K'.keep i hi, List.getElem?_set_ne (by omega)]
        · obtain ⟨a1, a2⟩ := ha i hi
          refine ⟨?_, a2⟩
          rcases a1 with a1 | a1
          · rcases List.mem_append.mp a1 with a1 | a1
            · exact .inl a1
            · simp at a1; subst a1; exact .inr (by simp)
          · exact .inr (by simp [a1])
    · refine Br.f (decide_eq_false hz) ?_
      refine ih acc st h1 (fun i hi => hj i (by simp [hi])) h2 ?_ (by simp at hl ⊢; omega) fun st' acc' K' hk hne ha hlen => kk st' acc' K' hk hne (fun i hi => ?_) (by simp at hlen ⊢; omega)
      · rcases h3 with h | h
        · exact .inl h
        · rcases List.mem_cons.mp h with rfl | h
          · exact absurd (by simp) hz
          · exact .inr h
      · obtain ⟨a1, a2⟩ := ha i hi
        refine ⟨?_, a2⟩
        rcases a1 with a1 | a1
        · exact .inl a1
        · exact .inr (by simp [a1])
noncomputable def itD (i : Itm) : D := .str (rawI i)
noncomputable def S514 (N : Nat) : Prop := ∀ (i : Nat) (oct : Int) (many : Nat) (st : List O) (K : D → List O → Prop), Pen st i → In64 oct → (many = 3 ∨ many = 4) → (∀ st' is, Pen st' i → Grow i st st' → SzI many oct is → K (.lst (is.map itD)) st') → SpN N 514 [.obj i, .int oct, .int many] st K
theorem p514 (N : Nat) (h495 : S495 N) (h502 : S502 N) : S514 (N + 1) := by
  intro i oct many st K hp hn hm k
  have hil : i < st.length := by obtain ⟨n, h⟩ := hp; exact at_lt h
  have main : ∀ (js : List Nat), (∀ j ∈ js, j ≤ 3 ∧ j < many) → 0 ∈ js → js.length ≤ 4 → compn (fun _ => True) (E (SpN N) t0__law_sized) (E (SpN N) e1__law_sized) [some (.obj i), some (.int oct), some (.int many), none, none] st.length
      (fun st' => X (SpN N) (.seq (.asg 4 (.idx (.loc 3) (.call 495 (.cons (.loc 0) (.cons (.bi .len (.loc 3)) .nil))))) (.seq (.ret (.lst (.cons (.call 502 (.cons (.loc 0) (.cons (.bin .fdiv (.loc 1) (.bin .pow (.int 1024) (.loc 4))) .nil))) (.cons (.idx (.tup (.cons (.str [98, 121, 116, 101, 115]) (.cons (.str [107, 98, 121, 116, 101, 115]) (.cons (.str [109, 98, 121, 116, 101, 115]) (.cons (.str [103, 98, 121, 116, 101, 115]) .nil))))) (.loc 4)) .nil)))) .skip))
        ⟨[some (.obj i), some (.int oct), some (.int many), some (.obj st.length), none], st'⟩ (fun fl σ => match fl with | .next => K .none σ.st | .ret d => K d σ.st)) (dInts js) (st ++ [.lst []]) := by
    intro js hjs h0 hjl
    refine comp514 N oct _ _ _ _ st.length _ js [] (st ++ [.lst []]) (last_at _ _) (fun j hj => (hjs j hj).1) (fun j hj => by cases hj) (.inr h0) (by simp; omega) fun st1 acc K1 hk hne ha hlen => ?_
    have P1 : Pen st1 i := by
      obtain ⟨n, h⟩ := hp
      exact ⟨n, (K1.keep i hil).trans ((List.getElem?_append_left hil).trans h)⟩
    have G1 : Grow i st st1 := ⟨by have := K1.len; simp at this; omega, fun j hj _ => (K1.keep j hj).trans (List.getElem?_append_left hj)⟩
    have hal : 0 < acc.length := by cases acc with | nil => exact absurd rfl hne | cons a r => simp
    have hl4 : (dInts acc).length = acc.length := by simp
    have hll : (1000 : Nat) ≤ line := by decide
    conv => whnf
    refine ⟨_, hk, by rw [hl4]; simp at hlen; omega, ?_⟩
    conv => whnf
    refine h495 i _ st1 _ P1 (by rw [hl4]; omega) (by rw [hl4]; simp at hlen; omega) fun st2 d P2 G2 d0 d1 => ?_
    have hk2 : st2[st.length]? = some (.lst (dInts acc)) := (G2.keep _ (at_lt hk) (by omega)).trans hk
    rw [hl4] at d1
    obtain ⟨dn, rfl⟩ := Int.eq_ofNat_of_zero_le d0
    have hdn : dn < acc.length := by omega
    obtain ⟨r, hr⟩ : ∃ r, acc[dn]? = some r := ⟨_, List.getElem?_eq_getElem hdn⟩
    obtain ⟨a1, a2⟩ := ha r (List.mem_of_getElem? hr)
    have a1' := hjs r (by rcases a1 with h | h; cases h; exact h)
    have hr' : nth (dInts acc) dn = some (.int r) := nth_some (by simp [hr])
    conv => whnf
    refine ⟨_, hk2, by rw [hl4]; simp at hlen; omega, ?_⟩
    conv => whnf
    rw [hr']
    obtain ⟨q1, q2⟩ := pow_le4 r a1'.1
    conv => whnf
    refine ⟨⟨by decide, by decide, by omega, by omega⟩, ?_⟩
    conv => whnf
    refine ⟨⟨q1, q2⟩, ?_⟩
    conv => whnf
    have f1 : oct.fdiv (1024 ^ r) = oct / 1024 ^ r := Int.fdiv_eq_ediv_of_nonneg oct (Int.le_of_lt q1)
    have f2 : oct.fmod (1024 ^ r) = oct % 1024 ^ r := Int.fmod_eq_emod_of_nonneg oct (Int.le_of_lt q1)
    rw [f2] at a2
    have f3 : oct.fdiv (1024 ^ r) * 1024 ^ r = oct := by rw [f1]; exact Int.ediv_mul_cancel (Int.dvd_of_emod_eq_zero a2)
    have f4 : 0 ≤ oct.fdiv (1024 ^ r) := by rw [f1]; exact Int.ediv_nonneg hn.1 (Int.le_of_lt q1)
    have f5 : oct.fdiv (1024 ^ r) ≤ oct := by rw [f1]; exact Int.ediv_le_self _ hn.1
    refine h502 i (oct.fdiv (1024 ^ r)) st2 _ P2 ⟨f4, Int.le_trans f5 hn.2⟩ fun st3 w P3 G3 W3 => ?_
    conv => whnf
    have fin := k st3 [.w w, .w (un r)] P3 ((G1.trans G2).trans G3) (by
      have := SzI.mk (many := many) W3 f4 a1'.2 (by rw [f3]; exact hn.2)
      rw [f3] at this
      exact this)
    have hr4 : r = 0 ∨ r = 1 ∨ r = 2 ∨ r = 3 := by omega
    rcases hr4 with rfl | rfl | rfl | rfl <;>
    · refine ⟨Nat.le_of_ble_eq_true rfl, ?_⟩
      exact fin
  refine ⟨rfl, ?_⟩
  conv => whnf
  rcases hm with rfl | rfl
  · refine ⟨⟨by decide, by decide⟩, ?_⟩
    exact main [0, 1, 2] (by decide) (by decide) (by decide)
  · refine ⟨⟨by decide, by decide⟩, ?_⟩
    exact main [0, 1, 2, 3] (by decide) (by decide) (by decide)

noncomputable def S521 (N : Nat) : Prop := ∀ (i : Nat) (st : List O) (K : D → List O → Prop), Pen st i → (∀ st' x t, Pen st' i → Grow i st st' → isX x → TxI x t → K (.tup [.str x, itD t]) st') → SpN N 521 [.obj i] st K
theorem p521 (N : Nat) (h495 : S495 N) : S521 (N + 1) := by
  intro i st K hp k
  have hll : (1000 : Nat) ≤ line := by decide
  refine ⟨rfl, ?_⟩
  conv => whnf
  refine h495 i 6 st _ hp (by decide) (by decide) fun st1 d P1 G1 d0 d4 => ?_
  conv => whnf
  have hd : d = 0 ∨ d = 1 ∨ d = 2 ∨ d = 3 ∨ d = 4 ∨ d = 5 := by omega
  have main : ∀ x, isX x → (hasSign 32 x = false → leq x [] = false → plB x = true) → X (SpN N) (.seq (.asg 2 (.and (.cmp .eq (.call 495 (.cons (.loc 0) (.cons (.int 2) .nil))) (.int 1)) (.and (.cmp .notin (.str [32]) (.loc 1)) (.cmp .ne (.loc 1) (.str []))))) (.seq (.ret (.tup (.cons (.loc 1) (.cons (.ife (.loc 2) (.loc 1) (.bin .add (.bin .add (.str [34]) (.loc 1)) (.str [34]))) .nil)))) .skip))
      ⟨[some (.obj i), some (.str x), none], st1⟩ (fun fl σ => match fl with | .next => K .none σ.st | .ret d => K d σ.st) := by
    intro x hx hpl
    have hxl := isX_len hx
    conv => whnf
    refine h495 i 2 st1 _ P1 (by decide) (by decide) fun st2 d2 P2 G2 e0 e4 => ?_
    conv => whnf
    have quo : ∀ b : Bool, b = false → X (SpN N) (.seq (.ret (.tup (.cons (.loc 1) (.cons (.ife (.loc 2) (.loc 1) (.bin .add (.bin .add (.str [34]) (.loc 1)) (.str [34]))) .nil)))) .skip) ⟨[some (.obj i), some (.str x), some (.bool b)], st2⟩ (fun fl σ => match fl with | .next => K .none σ.st | .ret d => K d σ.st) := by
      intro b hb
      conv => whnf
      refine Br.f hb ?_
      conv => whnf
      refine ⟨by simp; omega, ?_⟩
      conv => whnf
      refine ⟨by simp; omega, ?_⟩
      exact k st2 x (.q x) P2 (G1.trans G2) hx .q
    have hd2 : d2 = 0 ∨ d2 = 1 := by omega
    rcases hd2 with rfl | rfl
    · refine Br.f rfl ?_
      exact quo false rfl
    · refine Br.t rfl ?_
      conv => whnf
      cases h1 : hasSign 32 x with
      | true =>
        refine Br.f rfl ?_
        exact quo false rfl
      | false =>
        refine Br.t rfl ?_
        conv => whnf
        cases h2 : leq x [] with
        | true => exact quo false rfl
        | false =>
          refine Br.t rfl ?_
          exact k st2 x (.w x) P2 (G1.trans G2) hx (.w (hpl h1 h2))
  rcases hd with rfl | rfl | rfl | rfl | rfl | rfl
  · refine ⟨Nat.le_of_ble_eq_true rfl, ?_⟩
    exact main x_1 (by simp [isX]) (fun _ _ => by rfl)
  · refine ⟨Nat.le_of_ble_eq_true rfl, ?_⟩
    exact main x_2 (by simp [isX]) (fun _ _ => by rfl)
  · refine ⟨Nat.le_of_ble_eq_true rfl, ?_⟩
    exact main x_3 (by simp [isX]) (fun _ _ => by rfl)
  · refine ⟨Nat.le_of_ble_eq_true rfl, ?_⟩
    exact main x_4 (by simp [isX]) (fun h _ => by cases h)
  · refine ⟨Nat.le_of_ble_eq_true rfl, ?_⟩
    exact main x_5 (by simp [isX]) (fun _ _ => by rfl)
  · refine ⟨Nat.le_of_ble_eq_true rfl, ?_⟩
    exact main [] (by simp [isX]) (fun _ h => by cases h)

noncomputable def S528 (N : Nat) : Prop := ∀ (i : Nat) (b : Bool) (st : List O) (K : D → List O → Prop), Pen st i → (∀ st' is, Pen st' i → Grow i st st' → OvI b is → K (.lst (is.map itD)) st') → SpN N 528 [.obj i, .bool b] st K
theorem p528 (N : Nat) (h495 : S495 N) : S528 (N + 1) := by
  intro i b st K hp k
  refine ⟨rfl, ?_⟩
  conv => whnf
  cases b with
  | true =>
    refine Br.t rfl ?_
    conv => whnf
    exact k st _ hp (.refl ..) .over
  | false =>
    refine Br.f rfl ?_
    conv => whnf
    refine h495 i 2 st _ hp (by decide) (by decide) fun st1 d P1 G1 d0 d4 => ?_
    conv => whnf
    refine ⟨⟨d0, by omega, Nat.le_of_ble_eq_true rfl⟩, ?_⟩
    conv => whnf
    have hd2 : d = 0 ∨ d = 1 := by omega
    rcases hd2 with rfl | rfl
    · exact k st1 _ P1 G1 .no
    · exact k st1 _ P1 G1 .unt
end Mine
end

section
set_option maxRecDepth 100000
namespace Mine
noncomputable def Mk (N f : Nat) (args : List D) : Prop := ∀ (i : Nat) (st : List O) (K : D → List O → Prop), Pen st i → (∀ st' v is, Pen st' i → Grow i st st' → StI v is → OkV v → K (.tup [v.toD, .lst (is.map itD)]) st') → SpN N f (.obj i :: args) st K
theorem p535 (N : Nat) (h495 : S495 N) (h502 : S502 N) (h509 : S509 N) : Mk (N + 1) 535 [] := by
  intro i st K hp k
  refine ⟨rfl, ?_⟩
  conv => whnf
  refine h509 i st _ hp fun st1 n P1 G1 hn => ?_
  conv => whnf
  refine h509 i st1 _ P1 fun st2 m P2 G2 hm => ?_
  conv => whnf
  refine h495 i 2 st2 _ P2 (by decide) (by decide) fun st3 d P3 G3 d0 d1 => ?_
  conv => whnf
  have long : ∀ b : Bool, b = false → X (SpN N) (.seq (.asg 4 (.ife (.loc 3) (.lst .nil) (.lst (.cons (.str [112, 97, 99, 107, 101, 116, 115]) (.cons (.call 502 (.cons (.loc 0) (.cons (.loc 1) .nil))) (.cons (.str [98, 121, 116, 101, 115]) (.cons (.call 502 (.cons (.loc 0) (.cons (.loc 2) .nil))) .nil))))))) (.seq (.ret (.tup (.cons (.tup (.cons (.str [99, 111, 117, 110, 116, 101, 114]) (.cons (.loc 1) (.cons (.loc 2) .nil)))) (.cons (.bin .add (.lst (.cons (.str [99, 111, 117, 110, 116, 101, 114]) .nil)) (.loc 4)) .nil)))) .skip))
      ⟨[some (.obj i), some (.int n), some (.int m), some (.bool b), none], st3⟩ (fun fl σ => match fl with | .next => K .none σ.st | .ret d => K d σ.st) := by
    intro b hb
    conv => whnf
    refine Br.f hb ?_
    conv => whnf
    refine h502 i n st3 _ P3 hn fun st4 w4 P4 G4 W4 => ?_
    conv => whnf
    refine h502 i m st4 _ P4 hm fun st5 w5 P5 G5 W5 => ?_
    conv => whnf
    refine ⟨Nat.le_of_ble_eq_true rfl, ?_⟩
    conv => whnf
    exact k st5 (.ctr n m) _ P5 ((((G1.trans G2).trans G3).trans G4).trans G5) (.ctr (.yes W4 hn.2 W5 hm.2)) ⟨hn, hm⟩
  have hd : d = 0 ∨ d = 1 := by omega
  rcases hd with rfl | rfl
  · refine Br.f rfl ?_
    exact long false rfl
  · refine Br.t rfl ?_
    conv => whnf
    by_cases h1 : n = 0
    · refine Br.t (decide_eq_true h1) ?_
      conv => whnf
      by_cases h2 : m = 0
      · refine Br.t (decide_eq_true h2) ?_
        conv => whnf
        refine ⟨Nat.le_of_ble_eq_true rfl, ?_⟩
        subst h1 h2
        exact k st3 (.ctr 0 0) _ P3 ((G1.trans G2).trans G3) (.ctr .no) ⟨hn, hm⟩
      · exact long _ (decide_eq_false h2)
    · refine Br.f (decide_eq_false h1) ?_
      exact long false rfl
theorem p542 (N : Nat) (h495 : S495 N) (h509 : S509 N) (h528 : S528 N) (h514 : S514 N) : Mk (N + 1) 542 [] := by
  intro i st K hp k
  have hll : (1000 : Nat) ≤ line := by decide
  refine ⟨rfl, ?_⟩
  conv => whnf
  refine h495 i 2 st _ hp (by decide) (by decide) fun st1 d P1 G1 d0 d1 => ?_
  conv => whnf
  refine h509 i st1 _ P1 fun st2 n P2 G2 hn => ?_
  conv => whnf
  refine h509 i st2 _ P2 fun st3 m P3 G3 hm => ?_
  conv => whnf
  refine h528 i (decide (d = 1)) st3 _ P3 fun st4 i1 P4 G4 O4 => ?_
  have l4 := (good_ov O4).2
  conv => whnf
  refine ⟨by simp; omega, ?_⟩
  conv => whnf
  refine h514 i n 4 st4 _ P4 hn (.inr rfl) fun st5 i2 P5 G5 Z5 => ?_
  have l5 := (good_sz Z5).2
  conv => whnf
  refine ⟨by simp; omega, ?_⟩
  conv => whnf
  have G := (((G1.trans G2).trans G3).trans G4).trans G5
  have yes : ∀ st6, Pen st6 i → Grow i st5 st6 → X (SpN N) (.seq (.seq (.asg 4 (.bin .add (.bin .add (.loc 4) (.lst (.cons (.str [117, 115, 101, 100]) .nil))) (.call 514 (.cons (.loc 0) (.cons (.loc 3) (.cons (.int 4) .nil)))))) .skip) (.seq (.ret (.tup (.cons (.tup (.cons (.str [113, 117, 111, 116, 97]) (.cons (.loc 1) (.cons (.loc 2) (.cons (.loc 3) .nil))))) (.cons (.loc 4) .nil)))) .skip))
      ⟨[some (.obj i), some (.bool (decide (d = 1))), some (.int n), some (.int m), some (.lst ([D.str w_quota] ++ i1.map itD ++ i2.map itD))], st6⟩ (fun fl σ => match fl with | .next => K .none σ.st | .ret d => K d σ.st) := by
    intro st6 P6 G6
    conv => whnf
    refine ⟨by simp; omega, ?_⟩
    conv => whnf
    refine h514 i m 4 st6 _ P6 hm (.inr rfl) fun st7 i3 P7 G7 Z7 => ?_
    have l7 := (good_sz Z7).2
    conv => whnf
    refine ⟨by simp; omega, ?_⟩
    conv => whnf
    have fin := k st7 (.quo (decide (d = 1)) n m) _ P7 ((G.trans G6).trans G7) (.quo O4 Z5 (.yes Z7)) ⟨hn, hm⟩
    have e : ([D.str w_quota] ++ i1.map itD ++ i2.map itD ++ [D.str w_used] ++ i3.map itD) = (Itm.w w_quota :: (i1 ++ (i2 ++ Itm.w w_used :: i3))).map itD := by simp [itD, rawI]
    rw [← e] at fin
    exact fin
  by_cases h1 : 0 < m
  · refine Br.t (decide_eq_true h1) ?_
    conv => whnf
    refine Br.t rfl ?_
    exact yes st5 P5 (.refl ..)
  · refine Br.f (decide_eq_false h1) ?_
    conv => whnf
    refine h495 i 2 st5 _ P5 (by decide) (by decide) fun st6 d2 P6 G6 e0 e1 => ?_
    conv => whnf
    have hd : d2 = 0 ∨ d2 = 1 := by omega
    rcases hd with rfl | rfl
    · refine Br.f rfl ?_
      conv => whnf
      have hm0 : m = 0 := by have := hm.1; omega
      subst hm0
      have fin := k st6 (.quo (decide (d = 1)) n 0) _ P6 (G.trans G6) (.quo O4 Z5 .no) ⟨hn, hm⟩
      have e : ([D.str w_quota] ++ i1.map itD ++ i2.map itD) = (Itm.w w_quota :: (i1 ++ (i2 ++ []))).map itD := by simp [itD, rawI]
      rw [← e] at fin
      exact fin
    · refine Br.t rfl ?_
      exact yes st6 P6 G6
theorem p556 (N : Nat) (h495 : S495 N) (h521 : S521 N) : Mk (N + 1) 556 [] := by
  intro i st K hp k
  refine ⟨rfl, ?_⟩
  conv => whnf
  refine h495 i 3 st _ hp (by decide) (by decide) fun st1 d P1 G1 d0 d1 => ?_
  conv => whnf
  have hd : d = 0 ∨ d = 1 ∨ d = 2 := by omega
  rcases hd with rfl | rfl | rfl
  · refine ⟨Nat.le_of_ble_eq_true rfl, ?_⟩
    conv => whnf
    refine h521 i st1 _ P1 fun st2 x t P2 G2 hx ht => ?_
    conv => whnf
    exact k st2 (.obj w_counter x) [.w w_counter, .w w_name, t] P2 (G1.trans G2) (.obj ht) ⟨.inl rfl, hx⟩
  · refine ⟨Nat.le_of_ble_eq_true rfl, ?_⟩
    conv => whnf
    refine h521 i st1 _ P1 fun st2 x t P2 G2 hx ht => ?_
    conv => whnf
    exact k st2 (.obj w_quota x) [.w w_quota, .w w_name, t] P2 (G1.trans G2) (.obj ht) ⟨.inr (.inl rfl), hx⟩
  · refine ⟨Nat.le_of_ble_eq_true rfl, ?_⟩
    conv => whnf
    refine h521 i st1 _ P1 fun st2 x t P2 G2 hx ht => ?_
    conv => whnf
    exact k st2 (.obj w_limit x) [.w w_limit, .w w_name, t] P2 (G1.trans G2) (.obj ht) ⟨.inr (.inr rfl), hx⟩
theorem p549 (N : Nat) (h495 : S495 N) (h502 : S502 N) (h509 : S509 N) (h528 : S528 N) (h514 : S514 N) (oc : Bool) : Mk (N + 1) 549 [.bool oc] := by
  intro i st K hp k
  have hll : (1000 : Nat) ≤ line := by decide
  refine ⟨rfl, ?_⟩
  conv => whnf
  refine h495 i 2 st _ hp (by decide) (by decide) fun st1 d P1 G1 d0 d1 => ?_
  conv => whnf
  refine h509 i st1 _ P1 fun st2 n P2 G2 hn => ?_
  conv => whnf
  refine h495 i 5 st2 _ P2 (by decide) (by decide) fun st3 d3 P3 G3 d30 d31 => ?_
  conv => whnf
  have main : ∀ u, isU u → X (SpN N) (.seq (.asg 5 (.ife (.loc 1) (.call 509 (.cons (.loc 0) .nil)) (.idx (.tup (.cons (.int 5) (.cons (.int 0) (.cons (.int 1) (.cons (.bin .sub (.bin .pow (.int 2) (.int 32)) (.int 1)) .nil))))) (.call 495 (.cons (.loc 0) (.cons (.int 4) .nil)))))) (.seq (.asg 6 (.bin .add (.lst (.cons (.str [108, 105, 109, 105, 116]) (.cons (.str [114, 97, 116, 101]) .nil))) (.call 528 (.cons (.loc 0) (.cons (.loc 2) .nil))))) (.seq (.asg 7 (.and (.cmp .eq (.loc 5) (.ife (.loc 1) (.int 0) (.int 5))) (.cmp .eq (.call 495 (.cons (.loc 0) (.cons (.int 2) .nil))) (.int 0)))) (.seq (.ife (.loc 1) (.seq (.asg 8 (.call 514 (.cons (.loc 0) (.cons (.loc 3) (.cons (.int 3) .nil))))) (.seq (.asg 6 (.bin .add (.loc 6) (.lst (.cons (.idx (.loc 8) (.int 0)) (.cons (.bin .add (.bin .add (.idx (.loc 8) (.int 1)) (.str [47])) (.loc 4)) .nil))))) (.seq (.asg 6 (.bin .add (.loc 6) (.ife (.loc 7) (.lst .nil) (.bin .add (.lst (.cons (.str [98, 117, 114, 115, 116]) .nil)) (.call 514 (.cons (.loc 0) (.cons (.loc 5) (.cons (.int 3) .nil)))))))) .skip))) (.seq (.asg 6 (.bin .add (.loc 6) (.lst (.cons (.bin .add (.bin .add (.call 502 (.cons (.loc 0) (.cons (.loc 3) .nil))) (.str [47])) (.loc 4)) .nil)))) (.seq (.asg 6 (.bin .add (.loc 6) (.ife (.loc 7) (.lst .nil) (.lst (.cons (.str [98, 117, 114, 115, 116]) (.cons (.call 502 (.cons (.loc 0) (.cons (.loc 5) .nil))) (.cons (.str [112, 97, 99, 107, 101, 116, 115]) .nil))))))) .skip))) (.seq (.ret (.tup (.cons (.tup (.cons (.str [108, 105, 109, 105, 116]) (.cons (.loc 2) (.cons (.loc 3) (.cons (.loc 4) (.cons (.loc 5) (.cons (.loc 1) .nil))))))) (.cons (.loc 6) .nil)))) .skip)))))
      ⟨[some (.obj i), some (.bool oc), some (.bool (decide (d = 1))), some (.int n), some (.str u), none, none, none, none], st3⟩ (fun fl σ => match fl with | .next => K .none σ.st | .ret d => K d σ.st) := by
    intro u hu
    have ul := (isU_asc hu).2
    have G := (G1.trans G2).trans G3
    cases oc with
    | true =>
      conv => whnf
      refine Br.t rfl ?_
      conv => whnf
      refine h509 i st3 _ P3 fun st4 v P4 G4 hv => ?_
      conv => whnf
      refine h528 i (decide (d = 1)) st4 _ P4 fun st5 i1 P5 G5 O5 => ?_
      have l5 := (good_ov O5).2
      conv => whnf
      refine ⟨by simp; omega, ?_⟩
      conv => whnf
      refine Br.t rfl ?_
      conv => whnf
      have tail : ∀ (b : Bool) st6, (b = true → v = 0) → Pen st6 i → Grow i st5 st6 → X (SpN N) (.seq (.ife (.loc 1) (.seq (.asg 8 (.call 514 (.cons (.loc 0) (.cons (.loc 3) (.cons (.int 3) .nil))))) (.seq (.asg 6 (.bin .add (.loc 6) (.lst (.cons (.idx (.loc 8) (.int 0)) (.cons (.bin .add (.bin .add (.idx (.loc 8) (.int 1)) (.str [47])) (.loc 4)) .nil))))) (.seq (.asg 6 (.bin .add (.loc 6) (.ife (.loc 7) (.lst .nil) (.bin .add (.lst (.cons (.str [98, 117, 114, 115, 116]) .nil)) (.call 514 (.cons (.loc 0) (.cons (.loc 5) (.cons (.int 3) .nil)))))))) .skip))) (.seq (.asg 6 (.bin .add (.loc 6) (.lst (.cons (.bin .add (.bin .add (.call 502 (.cons (.loc 0) (.cons (.loc 3) .nil))) (.str [47])) (.loc 4)) .nil)))) (.seq (.asg 6 (.bin .add (.loc 6) (.ife (.loc 7) (.lst .nil) (.lst (.cons (.str [98, 117, 114, 115, 116]) (.cons (.call 502 (.cons (.loc 0) (.cons (.loc 5) .nil))) (.cons (.str [112, 97, 99, 107, 101, 116, 115]) .nil))))))) .skip))) (.seq (.ret (.tup (.cons (.tup (.cons (.str [108, 105, 109, 105, 116]) (.cons (.loc 2) (.cons (.loc 3) (.cons (.loc 4) (.cons (.loc 5) (.cons (.loc 1) .nil))))))) (.cons (.loc 6) .nil)))) .skip))
          ⟨[some (.obj i), some (.bool true), some (.bool (decide (d = 1))), some (.int n), some (.str u), some (.int v), some (.lst ([D.str w_limit, D.str w_rate] ++ i1.map itD)), some (.bool b), none], st6⟩ (fun fl σ => match fl with | .next => K .none σ.st | .ret d => K d σ.st) := by
        intro b st6 hb P6 G6
        conv => whnf
        refine Br.t rfl ?_
        conv => whnf
        refine h514 i n 3 st6 _ P6 hn (.inl rfl) fun st7 i2 P7 G7 Z7 => ?_
        cases Z7 with
        | mk z1 z2 z3 z4 =>
          rename_i x n' r
          have lu := un_len r
          conv => whnf
          refine ⟨Nat.le_of_ble_eq_true rfl, ?_⟩
          conv => whnf
          refine ⟨Nat.le_of_ble_eq_true rfl, ?_⟩
          conv => whnf
          refine ⟨by simp [rawI]; omega, ?_⟩
          conv => whnf
          refine ⟨by simp [rawI]; omega, ?_⟩
          conv => whnf
          refine ⟨by simp [rawI]; omega, ?_⟩
          conv => whnf
          have RT : RtI (n' * 1024 ^ r) u true [.w x, .w (un r ++ 47 :: u)] := .oc z1 z2 z3 z4 hu
          cases b with
          | true =>
            refine Br.t rfl ?_
            conv => whnf
            refine ⟨by simp [rawI]; omega, ?_⟩
            conv => whnf
            have hv0 := hb rfl
            subst hv0
            have fin := k st7 (.lim (decide (d = 1)) (n' * 1024 ^ r) u 0 true) _ P7 ((((G.trans G4).trans G5).trans G6).trans G7) (.lim O5 RT .no) ⟨hn, hu, hv, fun h => by cases h⟩
            have e : ([D.str w_limit, D.str w_rate] ++ i1.map itD ++ [itD (.w x), D.str (un r ++ [47] ++ u)] ++ []) = (Itm.w w_limit :: Itm.w w_rate :: (i1 ++ ([.w x, .w (un r ++ 47 :: u)] ++ []))).map itD := by simp [itD, rawI]
            rw [← e] at fin
            exact fin
          | false =>
            refine Br.f rfl ?_
            conv => whnf
            refine h514 i v 3 st7 _ P7 hv (.inl rfl) fun st8 i3 P8 G8 Z8 => ?_
            have l8 := (good_sz Z8).2
            conv => whnf
            refine ⟨by simp; omega, ?_⟩
            conv => whnf
            refine ⟨by simp; omega, ?_⟩
            conv => whnf
            have fin := k st8 (.lim (decide (d = 1)) (n' * 1024 ^ r) u v true) _ P8 (((((G.trans G4).trans G5).trans G6).trans G7).trans G8) (.lim O5 RT (.oct Z8)) ⟨hn, hu, hv, fun h => by cases h⟩
            have e : ([D.str w_limit, D.str w_rate] ++ i1.map itD ++ [itD (.w x), D.str (un r ++ [47] ++ u)] ++ ([D.str w_burst] ++ i3.map itD)) = (Itm.w w_limit :: Itm.w w_rate :: (i1 ++ ([.w x, .w (un r ++ 47 :: u)] ++ .w w_burst :: i3))).map itD := by simp [itD, rawI]
            rw [← e] at fin
            exact fin
      by_cases h1 : v = 0
      · refine Br.t (decide_eq_true h1) ?_
        conv => whnf
        refine h495 i 2 st5 _ P5 (by decide) (by decide) fun st6 d2 P6 G6 e0 e1 => ?_
        exact tail _ st6 (fun _ => h1) P6 G6
      · refine Br.f (decide_eq_false h1) ?_
        exact tail false st5 (fun h => by cases h) P5 (.refl ..)
    | false =>
      conv => whnf
      refine Br.f rfl ?_
      conv => whnf
      refine ⟨by decide, ?_⟩
      conv => whnf
      refine h495 i 4 st3 _ P3 (by decide) (by decide) fun st4 d4 P4 G4 d40 d41 => ?_
      conv => whnf
      have rest : ∀ v, In64 v → v ≤ 4294967295 → X (SpN N) (.seq (.asg 6 (.bin .add (.lst (.cons (.str [108, 105, 109, 105, 116]) (.cons (.str [114, 97, 116, 101]) .nil))) (.call 528 (.cons (.loc 0) (.cons (.loc 2) .nil))))) (.seq (.asg 7 (.and (.cmp .eq (.loc 5) (.ife (.loc 1) (.int 0) (.int 5))) (.cmp .eq (.call 495 (.cons (.loc 0) (.cons (.int 2) .nil))) (.int 0)))) (.seq (.ife (.loc 1) (.seq (.asg 8 (.call 514 (.cons (.loc 0) (.cons (.loc 3) (.cons (.int 3) .nil))))) (.seq (.asg 6 (.bin .add (.loc 6) (.lst (.cons (.idx (.loc 8) (.int 0)) (.cons (.bin .add (.bin .add (.idx (.loc 8) (.int 1)) (.str [47])) (.loc 4)) .nil))))) (.seq (.asg 6 (.bin .add (.loc 6) (.ife (.loc 7) (.lst .nil) (.bin .add (.lst (.cons (.str [98, 117, 114, 115, 116]) .nil)) (.call 514 (.cons (.loc 0) (.cons (.loc 5) (.cons (.int 3) .nil)))))))) .skip))) (.seq (.asg 6 (.bin .add (.loc 6) (.lst (.cons (.bin .add (.bin .add (.call 502 (.cons (.loc 0) (.cons (.loc 3) .nil))) (.str [47])) (.loc 4)) .nil)))) (.seq (.asg 6 (.bin .add (.loc 6) (.ife (.loc 7) (.lst .nil) (.lst (.cons (.str [98, 117, 114, 115, 116]) (.cons (.call 502 (.cons (.loc 0) (.cons (.loc 5) .nil))) (.cons (.str [112, 97, 99, 107, 101, 116, 115]) .nil))))))) .skip))) (.seq (.ret (.tup (.cons (.tup (.cons (.str [108, 105, 109, 105, 116]) (.cons (.loc 2) (.cons (.loc 3) (.cons (.loc 4) (.cons (.loc 5) (.cons (.loc 1) .nil))))))) (.cons (.loc 6) .nil)))) .skip))))
          ⟨[some (.obj i), some (.bool false), some (.bool (decide (d = 1))), some (.int n), some (.str u), some (.int v), none, none, none], st4⟩ (fun fl σ => match fl with | .next => K .none σ.st | .ret d => K d σ.st) := by
        intro v hv hv4
        conv => whnf
        refine h528 i (decide (d = 1)) st4 _ P4 fun st5 i1 P5 G5 O5 => ?_
        have l5 := (good_ov O5).2
        conv => whnf
        refine ⟨by simp; omega, ?_⟩
        conv => whnf
        refine Br.f rfl ?_
        conv => whnf
        have tail : ∀ (b : Bool) st6, (b = true → v = 5) → Pen st6 i → Grow i st5 st6 → X (SpN N) (.seq (.ife (.loc 1) (.seq (.asg 8 (.call 514 (.cons (.loc 0) (.cons (.loc 3) (.cons (.int 3) .nil))))) (.seq (.asg 6 (.bin .add (.loc 6) (.lst (.cons (.idx (.loc 8) (.int 0)) (.cons (.bin .add (.bin .add (.idx (.loc 8) (.int 1)) (.str [47])) (.loc 4)) .nil))))) (.seq (.asg 6 (.bin .add (.loc 6) (.ife (.loc 7) (.lst .nil) (.bin .add (.lst (.cons (.str [98, 117, 114, 115, 116]) .nil)) (.call 514 (.cons (.loc 0) (.cons (.loc 5) (.cons (.int 3) .nil)))))))) .skip))) (.seq (.asg 6 (.bin .add (.loc 6) (.lst (.cons (.bin .add (.bin .add (.call 502 (.cons (.loc 0) (.cons (.loc 3) .nil))) (.str [47])) (.loc 4)) .nil)))) (.seq (.asg 6 (.bin .add (.loc 6) (.ife (.loc 7) (.lst .nil) (.lst (.cons (.str [98, 117, 114, 115, 116]) (.cons (.call 502 (.cons (.loc 0) (.cons (.loc 5) .nil))) (.cons (.str [112, 97, 99, 107, 101, 116, 115]) .nil))))))) .skip))) (.seq (.ret (.tup (.cons (.tup (.cons (.str [108, 105, 109, 105, 116]) (.cons (.loc 2) (.cons (.loc 3) (.cons (.loc 4) (.cons (.loc 5) (.cons (.loc 1) .nil))))))) (.cons (.loc 6) .nil)))) .skip))
            ⟨[some (.obj i), some (.bool false), some (.bool (decide (d = 1))), some (.int n), some (.str u), some (.int v), some (.lst ([D.str w_limit, D.str w_rate] ++ i1.map itD)), some (.bool b), none], st6⟩ (fun fl σ => match fl with | .next => K .none σ.st | .ret d => K d σ.st) := by
          intro b st6 hb P6 G6
          conv => whnf
          refine Br.f rfl ?_
          conv => whnf
          refine h502 i n st6 _ P6 hn fun st7 w P7 G7 W7 => ?_
          have lw := W7.len
          conv => whnf
          refine ⟨by simp; omega, ?_⟩
          conv => whnf
          refine ⟨by simp; omega, ?_⟩
          conv => whnf
          refine ⟨by simp; omega, ?_⟩
          conv => whnf
          have RT : RtI n u false [.w (w ++ 47 :: u)] := .pk W7 hn.1 hn.2 hu
          cases b with
          | true =>
            refine Br.t rfl ?_
            conv => whnf
            refine ⟨by simp; omega, ?_⟩
            conv => whnf
            have hv0 := hb rfl
            subst hv0
            have fin := k st7 (.lim (decide (d = 1)) n u 5 false) _ P7 ((((G.trans G4).trans G5).trans G6).trans G7) (.lim O5 RT .no) ⟨hn, hu, hv, fun _ => hv4⟩
            have e : ([D.str w_limit, D.str w_rate] ++ i1.map itD ++ [D.str (w ++ [47] ++ u)] ++ []) = (Itm.w w_limit :: Itm.w w_rate :: (i1 ++ ([.w (w ++ 47 :: u)] ++ []))).map itD := by simp [itD, rawI]
            rw [← e] at fin
            exact fin
          | false =>
            refine Br.f rfl ?_
            conv => whnf
            refine h502 i v st7 _ P7 hv fun st8 w8 P8 G8 W8 => ?_
            conv => whnf
            refine ⟨by simp; omega, ?_⟩
            conv => whnf
            have fin := k st8 (.lim (decide (d = 1)) n u v false) _ P8 (((((G.trans G4).trans G5).trans G6).trans G7).trans G8) (.lim O5 RT (.pkt W8 hv4)) ⟨hn, hu, hv, fun _ => hv4⟩
            have e : ([D.str w_limit, D.str w_rate] ++ i1.map itD ++ [D.str (w ++ [47] ++ u)] ++ [D.str w_burst, D.str w8, D.str w_packets]) = (Itm.w w_limit :: Itm.w w_rate :: (i1 ++ ([.w (w ++ 47 :: u)] ++ [.w w_burst, .w w8, .w w_packets]))).map itD := by simp [itD, rawI]
            rw [← e] at fin
            exact fin
        by_cases h1 : v = 5
        · refine Br.t (decide_eq_true h1) ?_
          conv => whnf
          refine h495 i 2 st5 _ P5 (by decide) (by decide) fun st6 d2 P6 G6 e0 e1 => ?_
          exact tail _ st6 (fun _ => h1) P6 G6
        · refine Br.f (decide_eq_false h1) ?_
          exact tail false st5 (fun h => by cases h) P5 (.refl ..)
      have hd : d4 = 0 ∨ d4 = 1 ∨ d4 = 2 ∨ d4 = 3 := by omega
      rcases hd with rfl | rfl | rfl | rfl
      · refine ⟨Nat.le_of_ble_eq_true rfl, ?_⟩
        exact rest 5 (by constructor <;> decide) (by decide)
      · refine ⟨Nat.le_of_ble_eq_true rfl, ?_⟩
        exact rest 0 (by constructor <;> decide) (by decide)
      · refine ⟨Nat.le_of_ble_eq_true rfl, ?_⟩
        exact rest 1 (by constructor <;> decide) (by decide)
      · refine ⟨Nat.le_of_ble_eq_true rfl, ?_⟩
        exact rest 4294967295 (by constructor <;> decide) (by decide)
  have hd : d3 = 0 ∨ d3 = 1 ∨ d3 = 2 ∨ d3 = 3 ∨ d3 = 4 := by omega
  rcases hd with rfl | rfl | rfl | rfl | rfl
  · refine ⟨Nat.le_of_ble_eq_true rfl, ?_⟩
    exact main w_second (.inl rfl)
  · refine ⟨Nat.le_of_ble_eq_true rfl, ?_⟩
    exact main w_minute (.inr (.inl rfl))
  · refine ⟨Nat.le_of_ble_eq_true rfl, ?_⟩
    exact main w_hour (.inr (.inr (.inl rfl)))
  · refine ⟨Nat.le_of_ble_eq_true rfl, ?_⟩
    exact main w_day (.inr (.inr (.inr (.inl rfl))))
  · refine ⟨Nat.le_of_ble_eq_true rfl, ?_⟩
    exact main w_week (.inr (.inr (.inr (.inr rfl))))
end Mine
end

section
set_option maxRecDepth 100000
namespace Mine
theorem Pen.set {st i k} (h : Pen st i) (o : O) (hne : i ≠ k) : Pen (st.set k o) i := by
  obtain ⟨n, hn⟩ := h
  exact ⟨n, (List.getElem?_set_ne (Ne.symm hne)).trans hn⟩
/-- the store grew, the old part is as it was but for the pen -/
theorem p563 (N : Nat) (h495 : S495 N) (h521 : S521 N) : Mk (N + 1) 563 [] := by
  intro i st K hp k
  have hll : (1000 : Nat) ≤ line := by decide
  have hil : i < st.length := by obtain ⟨n, h⟩ := hp; exact at_lt h
  refine ⟨rfl, ?_⟩
  conv => whnf
  refine h495 i 8 st _ hp (by decide) (by decide) fun st1 d P1 G1 d0 d1 => ?_
  conv => whnf
  have main : ∀ l, isL l → X (SpN N) (.seq (.asgT [2, 3] (.call 521 (.cons (.loc 0) .nil))) (.seq (.asg 4 (.lstM (.cons (.lst (.cons (.str [112, 114, 101, 102, 105, 120]) (.cons (.loc 3) .nil))) (.cons (.lst (.cons (.str [108, 101, 118, 101, 108]) (.cons (.loc 1) .nil))) .nil)))) (.seq (.ife (.and (.cmp .eq (.loc 2) (.str [])) (.cmp .eq (.call 495 (.cons (.loc 0) (.cons (.int 2) .nil))) (.int 0))) (.seq (.asgI (.loc 4) (.int 0) (.lst .nil)) .skip) .skip) (.seq (.ife (.and (.cmp .eq (.loc 1) (.str [119, 97, 114, 110])) (.cmp .eq (.call 495 (.cons (.loc 0) (.cons (.int 2) .nil))) (.int 0))) (.seq (.asgI (.loc 4) (.int 1) (.lst .nil)) .skip) .skip) (.seq (.ife (.cmp .eq (.call 495 (.cons (.loc 0) (.cons (.int 2) .nil))) (.int 1)) (.seq (.exp (.sm .reverse (.loc 4) .nil)) .skip) .skip) (.seq (.ret (.tup (.cons (.tup (.cons (.str [108, 111, 103]) (.cons (.loc 2) (.cons (.loc 1) .nil)))) (.cons (.bin .add (.bin .add (.lst (.cons (.str [108, 111, 103]) .nil)) (.idx (.loc 4) (.int 0))) (.idx (.loc 4) (.int 1))) .nil)))) .skip))))))
      ⟨[some (.obj i), some (.str l), none, none, none], st1⟩ (fun fl σ => match fl with | .next => K .none σ.st | .ret d => K d σ.st) := by
    intro l hl
    conv => whnf
    refine h521 i st1 _ P1 fun st2 x t P2 G2 hx ht => ?_
    conv => whnf
    obtain ⟨q, hq⟩ : ∃ q, q = st2.length := ⟨_, rfl⟩
    have hiq : i < q := by have := G1.len; have := G2.len; omega
    -- the end
    have fin : ∀ st5 a b, st5[q]? = some (.lst [.lst (a.map itD), .lst (b.map itD)]) → a.length ≤ 2 → b.length ≤ 2 → StI (.log x l) (.w w_log :: (a ++ b)) → Pen st5 i → Grow i st st5 → X (SpN N) (.seq (.ret (.tup (.cons (.tup (.cons (.str [108, 111, 103]) (.cons (.loc 2) (.cons (.loc 1) .nil)))) (.cons (.bin .add (.bin .add (.lst (.cons (.str [108, 111, 103]) .nil)) (.idx (.loc 4) (.int 0))) (.idx (.loc 4) (.int 1))) .nil)))) .skip)
        ⟨[some (.obj i), some (.str l), some (.str x), some (itD t), some (.obj q)], st5⟩ (fun fl σ => match fl with | .next => K .none σ.st | .ret d => K d σ.st) := by
      intro st5 a b h1 h2 h3 hs P5 G5
      conv => whnf
      refine ⟨_, h1, Nat.le_of_ble_eq_true rfl, ?_⟩
      conv => whnf
      refine ⟨by simp; omega, ?_⟩
      conv => whnf
      refine ⟨_, h1, Nat.le_of_ble_eq_true rfl, ?_⟩
      conv => whnf
      refine ⟨by simp; omega, ?_⟩
      conv => whnf
      have f := k st5 (.log x l) _ P5 G5 hs ⟨hx, hl⟩
      have e : ([D.str w_log] ++ a.map itD ++ b.map itD) = (Itm.w w_log :: (a ++ b)).map itD := by simp [itD, rawI]
      rw [← e] at f
      exact f
    have rev : ∀ st4 a b, st4[q]? = some (.lst [.lst (a.map itD), .lst (b.map itD)]) → a.length ≤ 2 → b.length ≤ 2 → PrI x a → LvI l b → Pen st4 i → Grow i st st4 → X (SpN N) (.seq (.ife (.cmp .eq (.call 495 (.cons (.loc 0) (.cons (.int 2) .nil))) (.int 1)) (.seq (.exp (.sm .reverse (.loc 4) .nil)) .skip) .skip) (.seq (.ret (.tup (.cons (.tup (.cons (.str [108, 111, 103]) (.cons (.loc 2) (.cons (.loc 1) .nil)))) (.cons (.bin .add (.bin .add (.lst (.cons (.str [108, 111, 103]) .nil)) (.idx (.loc 4) (.int 0))) (.idx (.loc 4) (.int 1))) .nil)))) .skip))
        ⟨[some (.obj i), some (.str l), some (.str x), some (itD t), some (.obj q)], st4⟩ (fun fl σ => match fl with | .next => K .none σ.st | .ret d => K d σ.st) := by
      intro st4 a b h1 h2 h3 hs hs' P4 G4
      conv => whnf
      refine h495 i 2 st4 _ P4 (by decide) (by decide) fun st5 d P5 G5 d0 d1 => ?_
      have hq5 := (G5.keep q (at_lt h1) (by omega)).trans h1
      conv => whnf
      have hd : d = 0 ∨ d = 1 := by omega
      rcases hd with rfl | rfl
      · refine Br.f rfl ?_
        exact fin st5 a b hq5 h2 h3 (.logA hs hs') P5 (G4.trans G5)
      · refine Br.t rfl ?_
        conv => whnf
        refine ⟨⟨_, hq5⟩, ?_⟩
        conv => whnf
        refine ⟨_, hq5, Nat.le_of_ble_eq_true rfl, ?_⟩
        refine fin (st5.set q _) b a (List.getElem?_set_self (at_lt hq5)) h3 h2 (.logB hs hs') (P5.set _ (by omega)) ?_
        have G := G4.trans G5
        exact ⟨by simpa using G.len, fun j hj hn => (List.getElem?_set_ne (by have := G1.len; have := G2.len; omega)).trans (G.keep j hj hn)⟩
    have lev : ∀ st3 a, st3[q]? = some (.lst [.lst (a.map itD), .lst [.str w_level, .str l]]) → a.length ≤ 2 → PrI x a → Pen st3 i → Grow i st st3 → X (SpN N) (.seq (.ife (.and (.cmp .eq (.loc 1) (.str [119, 97, 114, 110])) (.cmp .eq (.call 495 (.cons (.loc 0) (.cons (.int 2) .nil))) (.int 0))) (.seq (.asgI (.loc 4) (.int 1) (.lst .nil)) .skip) .skip) (.seq (.ife (.cmp .eq (.call 495 (.cons (.loc 0) (.cons (.int 2) .nil))) (.int 1)) (.seq (.exp (.sm .reverse (.loc 4) .nil)) .skip) .skip) (.seq (.ret (.tup (.cons (.tup (.cons (.str [108, 111, 103]) (.cons (.loc 2) (.cons (.loc 1) .nil)))) (.cons (.bin .add (.bin .add (.lst (.cons (.str [108, 111, 103]) .nil)) (.idx (.loc 4) (.int 0))) (.idx (.loc 4) (.int 1))) .nil)))) .skip)))
        ⟨[some (.obj i), some (.str l), some (.str x), some (itD t), some (.obj q)], st3⟩ (fun fl σ => match fl with | .next => K .none σ.st | .ret d => K d σ.st) := by
      intro st3 a h1 h2 hs P3 G3
      conv => whnf
      cases hw : leq l [119, 97, 114, 110] with
      | false =>
        refine Br.f rfl ?_
        conv => whnf
        refine Br.f rfl ?_
        exact rev st3 a [.w w_level, .w l] h1 h2 (by simp) hs .yes P3 G3
      | true =>
        refine Br.t rfl ?_
        conv => whnf
        refine h495 i 2 st3 _ P3 (by decide) (by decide) fun st4 d P4 G4 d0 d1 => ?_
        have hq4 := (G4.keep q (at_lt h1) (by omega)).trans h1
        conv => whnf
        have hd : d = 0 ∨ d = 1 := by omega
        rcases hd with rfl | rfl
        · refine Br.t rfl ?_
          conv => whnf
          refine ⟨_, hq4, ⟨by decide, Nat.le_of_ble_eq_true rfl, by decide⟩, ?_⟩
          have hlw : l = w_warn := by rw [leq_eq] at hw; exact of_decide_eq_true hw
          subst hlw
          have G := G3.trans G4
          refine rev (st4.set q _) a [] (List.getElem?_set_self (at_lt hq4)) h2 (by simp) hs .no (P4.set _ (by omega)) ?_
          exact ⟨by simpa using G.len, fun j hj hn => (List.getElem?_set_ne (by have := G1.len; have := G2.len; omega)).trans (G.keep j hj hn)⟩
        · refine Br.f rfl ?_
          exact rev st4 a [.w w_level, .w l] hq4 h2 (by simp) hs .yes P4 (G3.trans G4)
    have start : (st2 ++ [O.lst [.lst [.str w_prefix, itD t], .lst [.str w_level, .str l]]])[q]? = some (.lst [.lst (([.w w_prefix, t] : List Itm).map itD), .lst [.str w_level, .str l]]) := by rw [hq]; exact last_at _ _
    have P3 : Pen (st2 ++ [O.lst [.lst [.str w_prefix, itD t], .lst [.str w_level, .str l]]]) i := by
      obtain ⟨n, h⟩ := P2
      exact ⟨n, (List.getElem?_append_left (at_lt h)).trans h⟩
    have G3 : Grow i st (st2 ++ [O.lst [.lst [.str w_prefix, itD t], .lst [.str w_level, .str l]]]) := by
      have G := G1.trans G2
      exact ⟨by have := G.len; simp; omega, fun j hj hn => (List.getElem?_append_left (by have := G.len; omega)).trans (G.keep j hj hn)⟩
    cases hw : leq x [] with
    | false =>
      refine Br.f rfl ?_
      conv => whnf
      refine Br.f rfl ?_
      have f := lev _ [.w w_prefix, t] start (by simp) (.yes ht) P3 G3
      rw [hq] at f
      exact f
    | true =>
      refine Br.t rfl ?_
      conv => whnf
      refine h495 i 2 (st2 ++ [O.lst [.lst [.str w_prefix, itD t], .lst [.str w_level, .str l]]]) _ P3 (by decide) (by decide) fun st4 d P4 G4 d0 d1 => ?_
      have hq4 := (G4.keep q (at_lt start) (by omega)).trans start
      have hd : d = 0 ∨ d = 1 := by omega
      rcases hd with rfl | rfl
      · conv => whnf
        refine Br.t rfl ?_
        conv => whnf
        have hq4' := hq4
        rw [hq] at hq4'
        refine ⟨_, hq4', ⟨by decide, Nat.le_of_ble_eq_true rfl, by decide⟩, ?_⟩
        have hxe : x = [] := by rw [leq_eq] at hw; exact of_decide_eq_true hw
        subst hxe
        have G := G3.trans G4
        have f := lev (st4.set q (.lst [.lst [], .lst [.str w_level, .str l]])) [] (List.getElem?_set_self (at_lt hq4)) (by simp) .no (P4.set _ (by omega)) ⟨by simpa using G.len, fun j hj hn => (List.getElem?_set_ne (by have := G1.len; have := G2.len; omega)).trans (G.keep j hj hn)⟩
        rw [hq] at f
        exact f
      · conv => whnf
        refine Br.f rfl ?_
        have f := lev st4 [.w w_prefix, t] hq4 (by simp) (.yes ht) P4 (G3.trans G4)
        rw [hq] at f
        exact f
  have hd : d = 0 ∨ d = 1 ∨ d = 2 ∨ d = 3 ∨ d = 4 ∨ d = 5 ∨ d = 6 ∨ d = 7 := by omega
  rcases hd with rfl | rfl | rfl | rfl | rfl | rfl | rfl | rfl
  · refine ⟨Nat.le_of_ble_eq_true rfl, ?_⟩
    exact main v_warn (by simp [isL])
  · refine ⟨Nat.le_of_ble_eq_true rfl, ?_⟩
    exact main v_emerg (by simp [isL])
  · refine ⟨Nat.le_of_ble_eq_true rfl, ?_⟩
    exact main v_alert (by simp [isL])
  · refine ⟨Nat.le_of_ble_eq_true rfl, ?_⟩
    exact main v_crit (by simp [isL])
  · refine ⟨Nat.le_of_ble_eq_true rfl, ?_⟩
    exact main v_err (by simp [isL])
  · refine ⟨Nat.le_of_ble_eq_true rfl, ?_⟩
    exact main v_notice (by simp [isL])
  · refine ⟨Nat.le_of_ble_eq_true rfl, ?_⟩
    exact main v_info (by simp [isL])
  · refine ⟨Nat.le_of_ble_eq_true rfl, ?_⟩
    exact main v_debug (by simp [isL])

noncomputable def S570 (N : Nat) : Prop := ∀ (n : Int) (st : List O) (K : D → List O → Prop), (∀ st' v is, Keep st.length st st' → StI v is → OkV v → K (.tup [v.toD, .lst (is.map itD)]) st') → SpN N 570 [.int n] st K
theorem p570 (N : Nat) (h495 : S495 N) (h535 : Mk N 535 []) (h542 : Mk N 542 []) (h549 : ∀ oc, Mk N 549 [.bool oc]) (h556 : Mk N 556 []) (h563 : Mk N 563 []) : S570 (N + 1) := by
  intro n st K k
  refine ⟨rfl, ?_⟩
  conv => whnf
  refine h495 st.length 7 (st ++ [.lst [.int n]]) _ ⟨n, last_at _ _⟩ (by decide) (by decide) fun st1 d P1 G1 d0 d1 => ?_
  conv => whnf
  have fin : ∀ st' v is, Pen st' st.length → Grow st.length st1 st' → StI v is → OkV v → K (.tup [v.toD, .lst (is.map itD)]) st' := fun st' v is P' G' hs ok => by
    have G := G1.trans G'
    have hl := G.len
    simp at hl
    exact k st' v is ⟨by omega, fun i hi => (G.keep i (by simp; omega) (by omega)).trans (List.getElem?_append_left hi)⟩ hs ok
  have hd : d = 0 ∨ d = 1 ∨ d = 2 ∨ d = 3 ∨ d = 4 ∨ d = 5 ∨ d = 6 := by omega
  rcases hd with rfl | rfl | rfl | rfl | rfl | rfl | rfl
  · refine Br.t rfl ?_
    conv => whnf
    refine Br.t rfl ?_
    conv => whnf
    exact h542 st.length st1 _ P1 fin
  · refine Br.t rfl ?_
    conv => whnf
    refine Br.f rfl ?_
    conv => whnf
    exact h549 false st.length st1 _ P1 fin
  · refine Br.t rfl ?_
    conv => whnf
    refine Br.f rfl ?_
    conv => whnf
    exact h549 true st.length st1 _ P1 fin
  · refine Br.f rfl ?_
    conv => whnf
    refine Br.t rfl ?_
    conv => whnf
    refine Br.t rfl ?_
    conv => whnf
    exact h535 st.length st1 _ P1 fin
  · refine Br.f rfl ?_
    conv => whnf
    refine Br.t rfl ?_
    conv => whnf
    refine Br.f rfl ?_
    conv => whnf
    exact h556 st.length st1 _ P1 fin
  · refine Br.f rfl ?_
    conv => whnf
    refine Br.f rfl ?_
    conv => whnf
    refine Br.t rfl ?_
    conv => whnf
    exact h563 st.length st1 _ P1 fin
  · refine Br.f rfl ?_
    conv => whnf
    refine Br.f rfl ?_
    conv => whnf
    refine Br.f rfl ?_
    conv => whnf
    exact fin st1 .ntk _ P1 (.refl ..) .ntk trivial
end Mine
end

section
set_option maxRecDepth 100000
namespace Mine
open PySem
theorem int_show {n : Int} (h : In64 n) : (PyData.int n).showable = true ∧ (PyData.int n).leavesShort 25 = true := by
  have ht : top64 = 18446744073709551615 := rfl
  have h0 := h.1
  have h1 := h.2
  constructor
  · simp only [PyData.showable, decide_eq_true_eq]
    by_cases hz : n.natAbs = 0
    · rw [hz]; decide
    · exact Nat.lt_trans ((Nat.log2_lt hz).mpr (show n.natAbs < 2 ^ 64 by omega)) (by decide)
  · simp only [PyData.leavesShort, decide_eq_true_eq]
    have := int_len h
    exact Nat.le_trans (show (PyData.shown (.int n)).length ≤ 20 from this) (by decide)
theorem str_show {x : List Nat} (h : ∀ c ∈ x, c < 128) : (PyData.str (S x)).leavesShort 25 = true := by
  simp only [PyData.leavesShort, List.all_eq_true, decide_eq_true_eq]
  intro c hc
  have : c < 128 := h c (by simpa [S] using hc)
  have e : (128 : Nat) ≤ 16 ^ 8 := by decide
  omega
theorem str_bulk (x : List Nat) : (PyData.str (S x)).bulk = x.length := by simp [PyData.bulk, S]
theorem rep_one {v : V} (ok : OkV v) : flat v.toD = true ∧ (toPy v.toD).showable = true ∧ (toPy v.toD).hasDict = false ∧ (toPy v.toD).depth ≤ 1 ∧ (toPy v.toD).leavesShort 25 = true ∧ (toPy v.toD).bulk ≤ 60 := by
  have a1 : ∀ c ∈ w_counter, c < 128 := by decide
  have a2 : ∀ c ∈ w_quota, c < 128 := by decide
  have a3 : ∀ c ∈ w_limit, c < 128 := by decide
  have a4 : ∀ c ∈ w_object, c < 128 := by decide
  have a5 : ∀ c ∈ w_log, c < 128 := by decide
  have a6 : ∀ c ∈ w_notrack, c < 128 := by decide
  cases v with
  | ctr n m =>
    obtain ⟨s1, t1⟩ := int_show ok.1
    obtain ⟨s2, t2⟩ := int_show ok.2
    refine ⟨rfl, ?_, rfl, by simp [V.toD, toPy, toPys, PyData.depth, PyData.depthAll], ?_, ?_⟩
    · simp [V.toD, toPy, toPys, PyData.showable, PyData.showableAll] at s1 s2 ⊢; exact ⟨s1, s2⟩
    · simp only [V.toD, toPy, toPys, PyData.leavesShort, PyData.leavesShortAll] at t1 t2 ⊢
      rw [t1, t2]
      have := str_show a1
      simp only [PyData.leavesShort] at this
      rw [this]; rfl
    · simp [V.toD, toPy, toPys, PyData.bulkAll, PyData.bulk, S]
  | quo b n m =>
    obtain ⟨s1, t1⟩ := int_show ok.1
    obtain ⟨s2, t2⟩ := int_show ok.2
    refine ⟨rfl, ?_, rfl, by simp [V.toD, toPy, toPys, PyData.depth, PyData.depthAll], ?_, ?_⟩
    · simp [V.toD, toPy, toPys, PyData.showable, PyData.showableAll] at s1 s2 ⊢; exact ⟨s1, s2⟩
    · simp only [V.toD, toPy, toPys, PyData.leavesShort, PyData.leavesShortAll] at t1 t2 ⊢
      rw [t1, t2]
      have := str_show a2
      simp only [PyData.leavesShort] at this
      rw [this]; rfl
    · simp [V.toD, toPy, toPys, PyData.bulkAll, PyData.bulk, S]
  | lim b n u m oc =>
    obtain ⟨o1, o2, o3, o4⟩ := ok
    obtain ⟨s1, t1⟩ := int_show o1
    obtain ⟨s2, t2⟩ := int_show o3
    have hu := isU_asc o2
    refine ⟨rfl, ?_, rfl, by simp [V.toD, toPy, toPys, PyData.depth, PyData.depthAll], ?_, ?_⟩
    · simp [V.toD, toPy, toPys, PyData.showable, PyData.showableAll] at s1 s2 ⊢; exact ⟨s1, s2⟩
    · simp only [V.toD, toPy, toPys, PyData.leavesShort, PyData.leavesShortAll] at t1 t2 ⊢
      rw [t1, t2]
      have := str_show a3
      simp only [PyData.leavesShort] at this
      rw [this]
      have := str_show hu.1
      simp only [PyData.leavesShort] at this
      rw [this]; rfl
    · have := hu.2
      simp [V.toD, toPy, toPys, PyData.bulkAll, PyData.bulk, S]; omega
  | obj k x =>
    have hk := isK_asc ok.1
    have hx := isX_asc ok.2
    have hxl := isX_len ok.2
    refine ⟨rfl, by simp [V.toD, toPy, toPys, PyData.showable, PyData.showableAll], rfl, by simp [V.toD, toPy, toPys, PyData.depth, PyData.depthAll], ?_, ?_⟩
    · simp only [V.toD, toPy, toPys, PyData.leavesShort, PyData.leavesShortAll]
      have := str_show a4
      simp only [PyData.leavesShort] at this
      rw [this]
      have := str_show hk.1
      simp only [PyData.leavesShort] at this
      rw [this]
      have := str_show hx
      simp only [PyData.leavesShort] at this
      rw [this]; rfl
    · have := hk.2
      simp [V.toD, toPy, toPys, PyData.bulkAll, PyData.bulk, S]; omega
  | log k x =>
    have hk := isX_asc ok.1
    have hx := isL_asc ok.2
    have hxl := isX_len ok.1
    refine ⟨rfl, by simp [V.toD, toPy, toPys, PyData.showable, PyData.showableAll], rfl, by simp [V.toD, toPy, toPys, PyData.depth, PyData.depthAll], ?_, ?_⟩
    · simp only [V.toD, toPy, toPys, PyData.leavesShort, PyData.leavesShortAll]
      have := str_show a5
      simp only [PyData.leavesShort] at this
      rw [this]
      have := str_show hk
      simp only [PyData.leavesShort] at this
      rw [this]
      have := str_show hx.1
      simp only [PyData.leavesShort] at this
      rw [this]; rfl
    · have := hx.2
      simp [V.toD, toPy, toPys, PyData.bulkAll, PyData.bulk, S]; omega
  | ntk =>
    refine ⟨rfl, by simp [V.toD, toPy, toPys, PyData.showable, PyData.showableAll], rfl, by simp [V.toD, toPy, toPys, PyData.depth, PyData.depthAll], ?_, ?_⟩
    · simp only [V.toD, toPy, toPys, PyData.leavesShort, PyData.leavesShortAll]
      have := str_show a6
      simp only [PyData.leavesShort] at this
      rw [this]; rfl
    · simp [V.toD, toPy, toPys, PyData.bulkAll, PyData.bulk, S]
theorem rep_all : ∀ {vs : List V}, (∀ v ∈ vs, OkV v) → flats (vs.map V.toD) = true ∧ PyData.showableAll (toPys (vs.map V.toD)) = true ∧ PyData.hasDictAll (toPys (vs.map V.toD)) = false ∧ PyData.depthAll (toPys (vs.map V.toD)) ≤ 1 ∧ PyData.leavesShortAll 25 (toPys (vs.map V.toD)) = true ∧ PyData.bulkAll (toPys (vs.map V.toD)) ≤ vs.length * 61
  | [], _ => ⟨rfl, rfl, rfl, by simp [toPys, PyData.depthAll], rfl, by simp [toPys, PyData.bulkAll]⟩
  | v :: r, h => by
    obtain ⟨a1, a2, a3, a4, a5, a6⟩ := rep_one (h v (by simp))
    obtain ⟨b1, b2, b3, b4, b5, b6⟩ := rep_all (vs := r) fun w hw => h w (by simp [hw])
    refine ⟨?_, ?_, ?_, ?_, ?_, ?_⟩
    · simp only [List.map_cons, flats, a1, b1, Bool.and_self]
    · simp only [List.map_cons, toPys, PyData.showableAll, a2, b2, Bool.and_self]
    · simp only [List.map_cons, toPys, PyData.hasDictAll, a3, b3, Bool.or_self]
    · simp only [List.map_cons, toPys, PyData.depthAll]; omega
    · simp only [List.map_cons, toPys, PyData.leavesShortAll, a5, b5, Bool.and_self]
    · simp only [List.map_cons, toPys, PyData.bulkAll, List.length_cons]; omega
theorem rep_ok {vs : List V} (h : ∀ v ∈ vs, OkV v) (hl : vs.length ≤ 10) : flats (vs.map V.toD) = true ∧ (rep (vs.map V.toD)).showable = true ∧ (rep (vs.map V.toD)).hasDict = false ∧ (rep (vs.map V.toD)).depth ≤ 100 ∧ (rep (vs.map V.toD)).shown.length ≤ line := by
  obtain ⟨b1, b2, b3, b4, b5, b6⟩ := rep_all h
  refine ⟨b1, ?_, ?_, ?_, ?_⟩
  · unfold rep; simp only [PyData.showable, b2]
  · unfold rep; simp only [PyData.hasDict, b3]
  · unfold rep; simp only [PyData.depth]; omega
  · have := PyData.shown_le_bulk 25 (by decide) (rep (vs.map V.toD)) (by unfold rep; simp only [PyData.leavesShort, b5])
    have e : (rep (vs.map V.toD)).bulk = PyData.bulkAll (toPys (vs.map V.toD)) := by unfold rep; simp only [PyData.bulk]
    rw [e] at this
    have hll : (100000 : Nat) ≤ line := by decide
    omega
end Mine
end

section
set_option maxRecDepth 100000
namespace Mine
theorem StL.snoc {vs is v js} (h : StL vs is) (hs : StI v js) (ok : OkV v) : StL (vs ++ [v]) (is ++ js) := by
  induction h with
  | nil => simpa using StL.cons hs ok .nil
  | cons hs' ok' _ ih => rw [List.cons_append, List.append_assoc]; exact .cons hs' ok' ih
theorem StL.oks {vs is} (h : StL vs is) : ∀ v ∈ vs, OkV v := by
  induction h with
  | nil => intro v hv; cases hv
  | cons _ ok _ ih =>
    intro v hv
    rcases List.mem_cons.mp hv with rfl | hv
    · exact ok
    · exact ih v hv
noncomputable abbrev Env : Type := Nat × D × D × D × Option D × Option D × Option D × Option D × Option D × Option D × Option D
/-- the inner loop: the words of one statement, a gap ahead of each -/
theorem loop_words (N : Nat) (h495 : S495 N) (g : Nat) (x0 x2 x3 x5 x6 x7 x8 x10 x11 : Option D) (K : Fl → St → Prop) : ∀ (is : List Itm) (l : List (List Nat × Itm)) (x9 : Option D) (st : List O), Pen st g → (∀ p ∈ l, gap p.1 ∧ GoodI p.2) → (∀ i ∈ is, GoodI i) → l.length + is.length ≤ 100 →
    (∀ l' x9 st', Pen st' g → Grow g st st' → (∀ p ∈ l', gap p.1 ∧ GoodI p.2) → l'.map (·.2) = l.map (·.2) ++ is → K .next ⟨[x0, some (.obj g), x2, x3, some (.str (sp l')), x5, x6, x7, x8, x9, x10, x11], st'⟩) →
    forn (X (SpN N) b0_law) 9 K (is.map itD) ⟨[x0, some (.obj g), x2, x3, some (.str (sp l)), x5, x6, x7, x8, x9, x10, x11], st⟩ := by
  intro is
  induction is with
  | nil =>
    intro l x9 st P hl hi hn k
    exact k l x9 st P (.refl ..) hl (by simp)
  | cons i is ih =>
    intro l x9 st P hl hi hn k
    have hsl := sp_len l hl
    have hil := (hi i (by simp)).len
    have hll : (200000 : Nat) ≤ line := by decide
    have nxt : ∀ gp, gap gp → ∀ st1, Pen st1 g → Grow g st st1 → ∀ x9, forn (X (SpN N) b0_law) 9 K (is.map itD) ⟨[x0, some (.obj g), x2, x3, some (.str (sp l ++ gp ++ rawI i)), x5, x6, x7, x8, x9, x10, x11], st1⟩ := by
      intro gp hg st1 P1 G1 x9
      have e : sp l ++ gp ++ rawI i = sp (l ++ [(gp, i)]) := by simp [sp_app, sp]
      rw [e]
      refine ih (l ++ [(gp, i)]) x9 st1 P1 (fun p hp => ?_) (fun j hj => hi j (by simp [hj])) (by simp at hn ⊢; omega) fun l' x9 st' P' G' hl' hm => ?_
      · rcases List.mem_append.mp hp with hp | hp
        · exact hl p hp
        · simp at hp; subst hp; exact ⟨hg, hi i (by simp)⟩
      · exact k l' x9 st' P' (G1.trans G') hl' (by rw [hm]; simp)
    simp at hn
    conv => whnf
    refine h495 g 4 st _ P (by decide) (by decide) fun st1 d P1 G1 d0 d1 => ?_
    conv => whnf
    have hd : d = 0 ∨ d = 1 ∨ d = 2 ∨ d = 3 := by omega
    rcases hd with rfl | rfl | rfl | rfl
    · refine ⟨Nat.le_of_ble_eq_true rfl, ?_⟩
      conv => whnf
      refine ⟨by simp; omega, ?_⟩
      conv => whnf
      refine ⟨by simp; omega, ?_⟩
      exact nxt [32] (.inl rfl) st1 P1 G1 _
    · refine ⟨Nat.le_of_ble_eq_true rfl, ?_⟩
      conv => whnf
      refine ⟨by simp; omega, ?_⟩
      conv => whnf
      refine ⟨by simp; omega, ?_⟩
      exact nxt [9] (.inr (.inl rfl)) st1 P1 G1 _
    · refine ⟨Nat.le_of_ble_eq_true rfl, ?_⟩
      conv => whnf
      refine ⟨by simp; omega, ?_⟩
      conv => whnf
      refine ⟨by simp; omega, ?_⟩
      exact nxt [32, 32, 32] (.inr (.inr (.inl rfl))) st1 P1 G1 _
    · refine ⟨Nat.le_of_ble_eq_true rfl, ?_⟩
      conv => whnf
      refine ⟨by simp; omega, ?_⟩
      conv => whnf
      refine ⟨by simp; omega, ?_⟩
      exact nxt [32, 92, 10, 9] (.inr (.inr (.inr rfl))) st1 P1 G1 _
/-- what stands after some statements -/
structure Inv (g s : Nat) (st : List O) (vs : List V) (l : List (List Nat × Itm)) : Prop where
  pen : Pen st g
  lst : st[s]? = some (.lst (vs.map V.toD))
  stl : StL vs (l.map (·.2))
  ok : ∀ p ∈ l, gap p.1 ∧ GoodI p.2
noncomputable abbrev told5 : List D := [.int 0, .int 1, .int 2, .int (5 + 7 * 8), .int (3 + 7 * (1 + 9 * (1 + 9)))]
theorem turn (N : Nat) (h495 : S495 N) (h570 : S570 N) (xs : List Int) (hxs : xs.length ≤ 1000) (g s : Nat) (hgs : g ≠ s) (x6 x7 x8 x9 x10 x11 : Option D) (K : Fl → St → Prop) (j : Nat) (hj : j ∈ [0, 1, 2, 3, 4]) (vs : List V) (l : List (List Nat × Itm)) (st : List O) (I : Inv g s st vs l) (hv : vs.length ≤ 4)
    (k : ∀ vs' l' x6 x7 x8 x9 st', Inv g s st' vs' l' → vs'.length = vs.length + 1 → K .next ⟨[some (.scr xs), some (.obj g), some (.lst told5), some (.obj s), some (.str (sp l')), some (.int j), x6, x7, x8, x9, x10, x11], st'⟩) :
    X (SpN N) b1_law ⟨[some (.scr xs), some (.obj g), some (.lst told5), some (.obj s), some (.str (sp l)), some (.int j), x6, x7, x8, x9, x10, x11], st⟩ K := by
  obtain ⟨P, hs, hst, hok⟩ := I
  have hll : (200000 : Nat) ≤ line := by decide
  have tail : ∀ (y : Option D) (st1 : List O) v is, Keep st.length st st1 → StI v is → OkV v → X (SpN N) (.seq (.exp (.sm .append (.loc 3) (.cons (.loc 7) .nil))) (.seq (.forr 9 (.loc 8) b0_law) .skip)) ⟨[some (.scr xs), some (.obj g), some (.lst told5), some (.obj s), some (.str (sp l)), some (.int j), y, some v.toD, some (.lst (is.map itD)), x9, x10, x11], st1⟩ K := by
    intro y st1 v is K1 hs1 ok1
    have P1 : Pen st1 g := by obtain ⟨m, h⟩ := P; exact ⟨m, (K1.keep g (at_lt h)).trans h⟩
    have hs2 := (K1.keep s (at_lt hs)).trans hs
    have gd := good_st hs1 ok1
    have gl := good_stl hst
    rw [List.length_map] at gl
    conv => whnf
    refine ⟨⟨_, hs2⟩, ?_⟩
    conv => whnf
    refine ⟨_, hs2, Nat.lt_of_le_of_lt (show (vs.map V.toD).length ≤ 1000 by rw [List.length_map]; omega) (by decide), ?_⟩
    conv => whnf
    refine ⟨_, rfl, Nat.le_trans (show (is.map itD).length ≤ 1000 by rw [List.length_map]; omega) (by decide), ?_⟩
    have P2 : Pen (st1.set s (.lst (vs.map V.toD ++ [v.toD]))) g := P1.set _ hgs
    refine loop_words N h495 g _ _ _ _ _ _ _ _ _ _ is l _ _ P2 hok gd.1 (by have := gl.2; omega) fun l' x9' st2 P3 (G3 : Grow g (st1.set s (.lst (vs.map V.toD ++ [v.toD]))) st2) hl' hm => ?_
    conv => whnf
    refine k (vs ++ [v]) l' y _ _ _ st2 ⟨P3, ?_, ?_, hl'⟩ (by simp)
    · rw [G3.keep s (by simp; exact at_lt hs2) (Ne.symm hgs), List.getElem?_set_self (at_lt hs2)]; simp
    · rw [hm]; exact hst.snoc hs1 ok1
  have rest : ∀ (c : Int), X (SpN N) (.seq (.asgT [7, 8] (.call 570 (.cons (.bin .add (.idx (.loc 2) (.loc 5)) (.loc 6)) .nil))) (.seq (.exp (.sm .append (.loc 3) (.cons (.loc 7) .nil))) (.seq (.forr 9 (.loc 8) b0_law) .skip))) ⟨[some (.scr xs), some (.obj g), some (.lst told5), some (.obj s), some (.str (sp l)), some (.int j), some (.int c), x7, x8, x9, x10, x11], st⟩ K := by
    intro c
    simp only [List.mem_cons, List.not_mem_nil, or_false] at hj
    rcases hj with rfl | rfl | rfl | rfl | rfl <;>
    · conv => whnf
      refine ⟨Nat.le_of_ble_eq_true rfl, ?_⟩
      conv => whnf
      refine h570 _ st _ fun st1 v is K1 hs1 ok1 => ?_
      exact tail _ st1 v is K1 hs1 ok1
  have hj4 : j < 5 := by
    simp only [List.mem_cons, List.not_mem_nil, or_false] at hj
    omega
  conv => whnf
  refine ⟨Nat.le_trans hxs (by decide), ?_⟩
  conv => whnf
  by_cases h : ((j : Int) + 1 < xs.length)
  · refine Br.t (decide_eq_true h) ?_
    conv => whnf
    refine ⟨⟨by show j + 1 < xs.length; omega, by show j + 1 < 1000; omega⟩, ?_⟩
    exact rest _
  · refine Br.f (decide_eq_false h) ?_
    exact rest 0
theorem turns (N : Nat) (h495 : S495 N) (h570 : S570 N) (xs : List Int) (hxs : xs.length ≤ 1000) (g s : Nat) (hgs : g ≠ s) (x10 x11 : Option D) (K : Fl → St → Prop) : ∀ (js : List Nat) (hj : ∀ j ∈ js, j ∈ [0, 1, 2, 3, 4]) (x5 x6 x7 x8 x9 : Option D) (vs : List V) (l : List (List Nat × Itm)) (st : List O) (I : Inv g s st vs l) (hv : vs.length + js.length ≤ 5)
    (k : ∀ vs' l' x5 x6 x7 x8 x9 st', Inv g s st' vs' l' → vs'.length = vs.length + js.length → K .next ⟨[some (.scr xs), some (.obj g), some (.lst told5), some (.obj s), some (.str (sp l')), x5, x6, x7, x8, x9, x10, x11], st'⟩),
    forn (X (SpN N) b1_law) 5 K (dInts js) ⟨[some (.scr xs), some (.obj g), some (.lst told5), some (.obj s), some (.str (sp l)), x5, x6, x7, x8, x9, x10, x11], st⟩ := by
  intro js
  induction js with
  | nil => intro _ x5 x6 x7 x8 x9 vs l st I hv k; exact k vs l x5 x6 x7 x8 x9 st I rfl
  | cons j js ih =>
    intro hj x5 x6 x7 x8 x9 vs l st I hv k
    rw [List.length_cons] at hv
    refine turn N h495 h570 xs hxs g s hgs x6 x7 x8 x9 x10 x11 _ j (hj j (by simp)) vs l st I (by omega) fun vs' l' x6 x7 x8 x9 st' I' hl' => ?_
    exact ih (fun i hi => hj i (by simp [hi])) _ x6 x7 x8 x9 vs' l' st' I' (by omega) fun vs'' l'' x5 x6 x7 x8 x9 st'' I'' hl'' => k vs'' l'' x5 x6 x7 x8 x9 st'' I'' (by rw [List.length_cons]; omega)

theorem forn_of {Y : St → (Fl → St → Prop) → Prop} {i : Nat} {K : Fl → St → Prop} {ds ds' : List D} {σ σ' : St} (h : ds = ds') (h2 : σ = σ') (g : forn Y i K ds' σ') : forn Y i K ds σ := by subst h h2; exact g
theorem p589 (N : Nat) (h495 : S495 N) (h570 : S570 N) (h577 : S577 N) (h582 : S582 N) (xs : List Int) (hxs : xs.length ≤ 1000) (st : List O) (K : D → List O → Prop) (k : ∀ st', K (.bool true) st') : SpN (N + 1) 589 [.scr xs] st K := by
  refine ⟨rfl, ?_⟩
  have tail : ∀ (c : Int) (x : D), X (SpN N) (.seq (.asg 2 (.lst (.cons (.int 0) (.cons (.int 1) (.cons (.int 2) (.cons (.bin .add (.int 5) (.bin .mul (.int 7) (.int 8))) (.cons (.bin .add (.int 3) (.bin .mul (.int 7) (.bin .add (.int 1) (.bin .mul (.int 9) (.bin .add (.int 1) (.int 9)))))) .nil))))))) (.seq (.swp [3, 4] (.tup (.cons (.lstM .nil) (.cons (.str []) .nil)))) (.seq (.forRange 5 (.int 5) b1_law) (.seq (.asg 10 (.call 577 (.cons (.loc 4) .nil))) (.seq (.ife (.cmp .ne (.bi .repr (.loc 10)) (.bi .repr (.loc 3))) (.seq (.ret (.bool false)) .skip) .skip) (.seq (.asg 11 (.call 582 (.cons (.loc 10) .nil))) (.seq (.ret (.and (.cmp .eq (.loc 11) (.call 582 (.cons (.loc 3) .nil))) (.cmp .eq (.bi .repr (.call 577 (.cons (.loc 11) .nil))) (.bi .repr (.loc 3))))) .skip)))))))
      ⟨[some (.scr xs), some (.obj st.length), none, none, none, none, none, none, none, none, none, none], st ++ [.lst [.int c]]⟩ (fun fl σ => match fl with | .next => K .none σ.st | .ret d => K d σ.st) := by
    intro c x
    conv => whnf
    refine ⟨by decide, ?_⟩
    conv => whnf
    refine ⟨by decide, ?_⟩
    conv => whnf
    refine ⟨by decide, ?_⟩
    conv => whnf
    refine ⟨⟨by decide, by decide⟩, ?_⟩
    refine forn_of (ds' := dInts [0, 1, 2, 3, 4]) (σ' := ⟨[some (.scr xs), some (.obj st.length), some (.lst told5), some (.obj (st ++ [O.lst [.int c]]).length), some (.str (sp [])), none, none, none, none, none, none, none], (st ++ [.lst [.int c]]) ++ [.lst []]⟩) rfl rfl ?_
    obtain ⟨s, hs⟩ : ∃ s, s = (st ++ [O.lst [.int c]]).length := ⟨_, rfl⟩
    obtain ⟨S0, hS0⟩ : ∃ S0, S0 = (st ++ [O.lst [.int c]]) ++ [O.lst []] := ⟨_, rfl⟩
    have I0 : Inv st.length s S0 [] [] := by
      subst hs hS0
      exact ⟨⟨c, (List.getElem?_append_left (by simp)).trans (last_at _ _)⟩, last_at _ _, .nil, fun p hp => by cases hp⟩
    rw [← hS0, ← hs]
    have hne : st.length ≠ s := by rw [hs]; simp
    clear hs hS0
    refine turns N h495 h570 xs hxs st.length s hne none none _ [0, 1, 2, 3, 4] (fun j h => h) none none none none none [] [] S0 I0 (by decide) ?_
    intro vs l x5 x6 x7 x8 x9 st1 I hl
    have hl : vs.length = 5 := by simpa using hl
    have hok := I.stl.oks
    have gl := (good_stl I.stl).2
    rw [List.length_map] at gl
    have hsl := sp_len l I.ok
    have hr := rep_ok hok (by omega)
    have hvl : (vs.map V.toD).length ≤ 1000 := by rw [List.length_map]; omega
    have hcan := can_stl hok
    have gc := good_stl hcan
    have hcl := spI_len gc.1
    conv => whnf
    refine h577 (sp l) (l.map (·.2)) (vs.map V.toD) st1 _ (txt_sp I.ok) (by omega) (fun toks a b ht => prs_tks I.stl ht) hvl fun st2 gt hgt hlen hge hk2 => ?_
    have hs2 : st2[s]? = some (.lst (vs.map V.toD)) := (hk2 s (at_lt I.lst)).trans I.lst
    conv => whnf
    refine ⟨_, hgt, hr, ?_⟩
    conv => whnf
    refine ⟨_, hs2, hr, ?_⟩
    refine Br.f (by rw [leq_self]; rfl) ?_
    conv => whnf
    refine h582 gt vs st2 _ hgt hok (by omega) fun st3 K3 => ?_
    have hs3 : st3[s]? = some (.lst (vs.map V.toD)) := (K3.keep s (at_lt hs2)).trans hs2
    conv => whnf
    refine h582 s vs st3 _ hs3 hok (by omega) fun st4 K4 => ?_
    have hs4 : st4[s]? = some (.lst (vs.map V.toD)) := (K4.keep s (at_lt hs3)).trans hs3
    conv => whnf
    refine Br.t (leq_self _) ?_
    conv => whnf
    refine h577 (spI (canonL vs)) (canonL vs) (vs.map V.toD) st4 _ (txt_spI gc.1) (by omega) (fun toks a b ht => prs_tks hcan ht) hvl fun st5 gt5 hgt5 hlen5 hge5 hk5 => ?_
    have hs5 : st5[s]? = some (.lst (vs.map V.toD)) := (hk5 s (at_lt hs4)).trans hs4
    conv => whnf
    refine ⟨_, hgt5, hr, ?_⟩
    conv => whnf
    refine ⟨_, hs5, hr, ?_⟩
    conv => whnf
    rw [leq_self]
    exact k st5
  conv => whnf
  by_cases h : xs = []
  · refine Br.f (by rw [h]; rfl) ?_
    exact tail 0 .none
  · have h0 : 0 < xs.length := by cases xs with | nil => exact absurd rfl h | cons a r => simp
    refine Br.t (by cases xs with | nil => exact absurd rfl h | cons a r => rfl) ?_
    conv => whnf
    refine ⟨⟨h0, by decide⟩, ?_⟩
    exact tail _ .none
end Mine
end

section
set_option maxRecDepth 100000
namespace Mine
theorem a158 (N : Nat) : S158 (N + 1) := p158 N
theorem a158b (N : Nat) : S158b (N + 1) := p158b N
theorem a80 (N : Nat) : S80 (N + 1) := p80 N
theorem a87 (N : Nat) : S87 (N + 2) := p87 _ (a80 N)
theorem a165 (N : Nat) : S165 (N + 2) := p165 _ (a158 N)
theorem a179 (N : Nat) : S179 (N + 2) := p179 _ (a158 N)
theorem a235 (N : Nat) : S235 (N + 3) := p235 _ (a158 (N + 1)) (a165 N) (a87 N)
theorem a256 (N : Nat) : S256 (N + 4) := p256 _ (a158 (N + 2)) (a87 (N + 1)) (a235 N)
theorem a242 (N : Nat) : S242 (N + 3) := p242 _ (a179 N) (a165 N)
theorem a263 (N : Nat) : S263 (N + 3) := p263 _ (a158 (N + 1)) (a165 N)
theorem a270 (N : Nat) : S270 (N + 1) := p270 N
theorem a277 (N : Nat) : S277 (N + 1) := p277 N
theorem a285 (N : Nat) : S285 (N + 5) := p285 _ (a256 N) (a158 (N + 3)) (a270 (N + 3)) (a277 (N + 3)) (a165 (N + 2))
theorem a292 (N : Nat) : S292 (N + 3) := p292 _ (a179 N) (a165 N)
theorem a299 (N : Nat) : S299 (N + 4) := p299 _ (a263 N) (a165 (N + 1))
theorem a306 (N : Nat) : S306 (N + 5) := p306 _ (a179 (N + 2)) (a165 (N + 2)) (a256 N) (a242 (N + 1))
theorem a313 (N : Nat) : Sread 313 (N + 6) SpC := p313 _ (a179 (N + 3)) (a165 (N + 3)) (a299 (N + 1)) (a306 N)
theorem a320 (N : Nat) : S320 (N + 6) := p320 _ (a292 (N + 2)) (a285 N) (a179 (N + 3)) (a165 (N + 3))
theorem a327 (N : Nat) : Sread 327 (N + 7) SpQ := p327 _ (a179 (N + 4)) (a165 (N + 4)) (a299 (N + 2)) (a320 N)
theorem a334 (N : Nat) : S334 (N + 2) := p334 _ (a158 N)
theorem a341 (N : Nat) : S341 (N + 1) := p341 N
theorem a348 (N : Nat) : S348 (N + 3) := p348 _ (a165 N)
theorem a355 (N : Nat) : S355 (N + 4) := p355 _ (a334 (N + 1)) (a87 (N + 1)) (a158b (N + 2)) (a341 (N + 2)) (a165 (N + 1)) (a270 (N + 2)) (a277 (N + 2)) (a348 N)
theorem a362 (N : Nat) : S362 (N + 6) := p362 _ (a242 (N + 2)) (a292 (N + 2)) (a355 (N + 1)) (a179 (N + 3)) (a165 (N + 3)) (a285 N) (a256 (N + 1))
theorem a369 (N : Nat) : Sread 369 (N + 7) SpL := p369 _ (a179 (N + 4)) (a165 (N + 4)) (a299 (N + 2)) (a362 N)
theorem a390 (N : Nat) : Sread 390 (N + 3) SpN' := p390 _ (a165 N)
theorem a383 (N : Nat) : Sread 383 (N + 4) SpG := p383 _ (a158 (N + 2)) (a165 (N + 1)) (a179 (N + 1)) (a263 N)
theorem a94 (N : Nat) : S94 (N + 1) := p94 N
theorem a101 (N : Nat) : S101 (N + 2) := p101 _ (a94 N)
theorem a108 (N : Nat) : S108 (N + 1) := p108 N
theorem a115 (N : Nat) : S115 (N + 1) := p115 N
theorem a122 (N : Nat) : S122 (N + 3) := p122 _ (a94 (N + 1)) (a101 N) (a108 (N + 1)) (a115 (N + 1))
theorem a404 (N : Nat) : S404 (N + 1) := p404 N
theorem a150 (N : Nat) : S150 (N + 1) := p150 N
theorem a376 (N : Nat) : S376 (N + 1) := p376 N
theorem a467 (N : Nat) : S467 (N + 1) := p467 N
theorem a577 (N : Nat) : S577 (N + 8) := p577 _ (a122 (N + 4)) (a404 (N + 6)) (a150 (N + 6)) (a376 (N + 6)) (a158 (N + 6)) (a313 (N + 1)) (a327 N) (a369 N) (a383 (N + 3)) (a390 (N + 4))
theorem a418 (N : Nat) : S418 (N + 1) := p418 N
theorem a425 (N : Nat) : S425 (N + 1) := p425 N
theorem a432 (N : Nat) : S432 (N + 2) := p432 _ (a425 N)
theorem a488 (N : Nat) : S488 (N + 4) := p488 _ (p439 (N + 2)) (p446 _ (a432 N)) (p453 _ (a425 (N + 1))) (p460 _ (a418 (N + 1))) (p474 _ (a418 (N + 1))) (p481 (N + 2))
theorem a582 (N : Nat) : S582 (N + 5) := p582 _ (a467 (N + 3)) (a404 (N + 3)) (a488 N)
theorem a495 (N : Nat) : S495 (N + 1) := p495 N
theorem a502 (N : Nat) : S502 (N + 2) := p502 _ (a495 N)
theorem a509 (N : Nat) : S509 (N + 2) := p509 _ (a495 N)
theorem a514 (N : Nat) : S514 (N + 3) := p514 _ (a495 (N + 1)) (a502 N)
theorem a521 (N : Nat) : S521 (N + 2) := p521 _ (a495 N)
theorem a528 (N : Nat) : S528 (N + 2) := p528 _ (a495 N)
theorem a570 (N : Nat) : S570 (N + 5) := p570 _ (a495 (N + 3)) (p535 _ (a495 (N + 2)) (a502 (N + 1)) (a509 (N + 1))) (p542 _ (a495 (N + 2)) (a509 (N + 1)) (a528 (N + 1)) (a514 N)) (p549 _ (a495 (N + 2)) (a502 (N + 1)) (a509 (N + 1)) (a528 (N + 1)) (a514 N)) (p556 _ (a495 (N + 2)) (a521 (N + 1))) (p563 _ (a495 (N + 2)) (a521 (N + 1)))
/-- the plain law -/
theorem law_ok (xs : List Int) (h : xs.length ≤ 1000) : SpN 9 589 [.scr xs] [] (fun d _ => d = .bool true) := p589 8 (a495 7) (a570 3) (a577 0) (a582 3) xs h [] _ fun _ => rfl
end Mine
end

section
set_option maxRecDepth 100000
open PySem PySem.W PyProof.Rows
namespace Mine
theorem sees (p : Program) (h : p = qv) : importsNone p = true := by subst h; decide +kernel
theorem at_589 {K : Frag} (ok : obsK K = goodK) {h : Heap} {mg : Str → Option Value} (X : K.In h) (G : h.Ns mainGlobals mg) {fa : Addr} (e : mg (Str.ofString "law") = some (.ref fa)) : fa = 589 := by
  have h1 := mg_gl ok X G (Str.ofString "law") 589 (by kernel_rfl)
  rw [e] at h1
  cases h1
  rfl
theorem ra9 : RA 9 callerA := ⟨rfl, rfl, by decide, by decide⟩
theorem rep_nil (p : Program) (w : World) (h : Heap) (os : OsState) : Rep ⟨p, w, h, os⟩ [] h [] := ⟨rfl, fun i o p h => by simp at h, fun i j p q h => by simp at h, fun p hp => (nomatch hp), fun _ _ e => e⟩
theorem join_call {p : Program} {w : World} {s : Shared} {loose : List Str} {mean : ExcName → Option Value} {mg mb : Str → Option Value} {K : Frag} (ok : obsK K = goodK) (KX : K.In s.heap) (T : Top qv loose mean mg mb s.heap) (hg : s.gens = #[])
    {xs : List Int} {vs : List Value} {a fa : Addr} (hL : s.heap.IsList a vs.toArray) (hI : IntsAre vs xs) (hlen : xs.length ≤ 1000) (hfa : mg (Str.ofString "law") = some (.ref fa)) {R : Result → Shared → Prop}
    (hR : ∀ s', (∀ b o, s.heap.get? b = some o → s'.heap.get? b = some o) → s'.gens = #[] → s'.os = s.os → R (.ok (.ret (.bool true))) s') :
    codeAny (model p w) callerA (.call (.ref fa) ⟨[.ref a], []⟩) R s := by
  obtain rfl := at_589 ok KX T.g hfa
  have M : Mods ⟨p, w, s.heap, s.os⟩ := by
    obtain ⟨mm, ⟨o, es, ep, e, r⟩, _⟩ := (T.seer (sees _ rfl)).mods
    show (s.heap.get? sysModules).isSome = true
    rw [e]; rfl
  have W0 := world_of (p := p) (w := w) ok KX (topRead_of T) s.os M
  have W : Wd ⟨p, w, s.heap, s.os⟩ K mg mb := ⟨W0.X, W0.M, W0.g, W0.b, W0.nolimit, W0.bi, W0.rg⟩
  refine walk ok W 9 589 (by decide) callerA ra9 [.scr xs] [.ref a] [] _ [] s R (rep_nil _ _ _ _) hg rfl (.cons (.scr hL (fun p hp => by cases hp) (by simpa using hI)) .nil) (law_ok xs hlen) fun d st' ps' s' v hd' R' hg' ho' K' rv => ?_
  subst hd'
  cases rv
  exact hR s' (fun b o e => K'.keep b o e (by simp) (fun p hp => by cases hp)) hg' ho'
end Mine
end

section
set_option maxRecDepth 100000
open PySem PySem.W PyProof.Rows
set_option maxHeartbeats 8000000 in
theorem PySem.Challenge.cw_pq1093_01_holds : PySem.Challenge.rw_pq1093_01.Holds := by
 exact Mine.head (by
  intro w s₀ s₁ mg mb G Y fa o pm cd doc dV kV ho hd' hcd hD hmg hg args vals as hpre hlay hrd hwl hlo
  obtain ⟨K, KX, ok⟩ := Y
  have T := G.T
  clear ho hd' hcd hD
  wrow_args hpre hlay hrd hwl hlo
  rename Heap.IsList _ _ _ => hL
  rename IntsAre _ _ => hI
  rename ¬ _ => hlen
  refine enter_call ?_
  refine codeAny_mono ?_ (fun _ _ g => GoodW.toG g)
  refine Mine.join_call ok KX T hg hL hI (by omega) hmg fun s' h1 h2 h3 => ?_
  refine ⟨.inl ⟨_, WData.bool true, [], rfl, fun _ => rfl, .bool _, ?_, fun _ => ⟨.nil, fun a ha => nomatch ha⟩⟩, h1, h3, h2⟩
  first | (with_unfolding_all rfl) | kernel_rfl)
end
