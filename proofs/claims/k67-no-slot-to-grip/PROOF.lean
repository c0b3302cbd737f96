import PyProof.Rows.All
import PySem.Challenge.RW_stillso_k67_no_slot_to_grip
import HandS.ForMost
import HandS.ForExc
import HandS.TupAny
import HandS.Deep
import KE.KDictKeyed
import HandS.Flow
import HandS.CallSlots
import HandS.TupMul
import KE.DataEq
import HandS.TupLen
import HandS.IsInst
import HandS.ExcIs
import HandS.ExcBuiltin
import KE.GoesEnum
import PyProof.EnumMake
import KE.KDictItemsList
import KE.KDictWalk
import KE.SortData
import KE.DataAny
import PyProof.Rows.SortShell
import KE.KDictCopyH
import PyProof.DictTable
import HandS.Head0
import HandS.Head1
import HandS.Head2
import HandS.HeadEnd
import HandS.HeadHook1
import HandS.HeadHook2
import HandS.Defaults
import PyProof.EqKinds
import PyProof.NeKinds
import PyProof.FitsReplace
set_option Elab.async false
set_option linter.all false
set_option maxRecDepth 100000
set_option maxHeartbeats 0
/-! DL1: values as trees, how they lie in the heap, environments, the judgements. -/
namespace DL
open PySem PySem.Spec PyProof.Rows L2

/-- a Python value as a tree (x c: an exception of the own class number c; k: a list that came from outside) -/
inductive D where
  | n
  | b (v : Bool)
  | i (v : Int)
  | s (v : Str)
  | t (xs : List D)
  | l (xs : List D)
  | m (ks vs : List D)
  | x (c : Nat)
  | k (xs : List D)
  deriving Inhabited

mutual
def toPy : D → PyData
  | .n => .none
  | .b v => .bool v
  | .i v => .int v
  | .s v => .str v
  | .t xs => .tuple (toPys xs)
  | .l xs => .list (toPys xs)
  | .m _ _ => .dict []
  | .x _ => .dict []
  | .k xs => .list (toPys xs)
def toPys : List D → List PyData
  | [] => []
  | d :: ds => toPy d :: toPys ds
end
theorem toPys_map : ∀ ds : List D, toPys ds = ds.map toPy
  | [] => rfl
  | d :: ds => by show toPy d :: toPys ds = _; rw [toPys_map ds]; rfl

/-- == -/
def eqv (d e : D) : Bool := PyData.eqv (toPy d) (toPy e)
/-- data that == looks at: no dict, no error, not too deep -/
def shp (d : D) : Bool := SeqAt.shaped (toPy d)

/-- the state that the draws go by -/
abbrev Sg := List D
inductive R (α : Type) where
  | ok (a : α) (s : Sg)
  | exc (c : Nat) (s : Sg)
  | bad
/-- what a slot holds: a value; a list of one's own (that may be changed); one of lists of one's own; the drawing state -/
inductive Sl where
  | val (d : D)
  | o1 (d : D)
  | o2 (d : D)
  | st
abbrev En := List (Option Sl)
inductive O where
  | nx (r : En) (s : Sg)
  | ret (d : D) (s : Sg)
  | brk (r : En) (s : Sg)
  | cont (r : En) (s : Sg)
  | exc (c : Nat) (r : En) (s : Sg)
  | bad
abbrev M := En → Sg → R D
abbrev Ml := En → Sg → R (List D)
abbrev MS := En → Sg → O

/-! ### how a value lies in the heap -/
section
variable (T L Kl : Addr → List V → Prop) (Dc : Addr → List V → List V → List D → Prop) (Ex : Addr → Nat → Prop)
mutual
inductive Rp : V → D → Prop
  | n : Rp .non .n
  | b (v : Bool) : Rp (.bl v) (.b v)
  | i (v : Int) : Rp (.int v) (.i v)
  | s (v : Str) : Rp (.str v) (.s v)
  | t {a : Addr} {vs : List V} {ds : List D} : T a vs → Rps vs ds → Rp (.ref a) (.t ds)
  | l {a : Addr} {vs : List V} {ds : List D} : L a vs → Rps vs ds → Rp (.ref a) (.l ds)
  | m {a : Addr} {ks vs : List V} {dk dv : List D} : Dc a ks vs dk → Rps ks dk → Rps vs dv → Rp (.ref a) (.m dk dv)
  | x {a : Addr} {c : Nat} : Ex a c → Rp (.ref a) (.x c)
  | k {a : Addr} {vs : List V} {ds : List D} : Kl a vs → Rps vs ds → Rp (.ref a) (.k ds)
inductive Rps : List V → List D → Prop
  | nil : Rps [] []
  | cons {v : V} {vs : List V} {d : D} {ds : List D} : Rp v d → Rps vs ds → Rps (v :: vs) (d :: ds)
end
end
section
variable {T L Kl T' L' Kl' : Addr → List V → Prop} {Dc Dc' : Addr → List V → List V → List D → Prop} {Ex Ex' : Addr → Nat → Prop}
mutual
theorem Rp.imp (ht : ∀ a vs, T a vs → T' a vs) (hl : ∀ a vs, L a vs → L' a vs) (hk : ∀ a vs, Kl a vs → Kl' a vs) (hd : ∀ a ks vs dk, Dc a ks vs dk → Dc' a ks vs dk) (hx : ∀ a c, Ex a c → Ex' a c) :
    ∀ {v : V} {d : D}, Rp T L Kl Dc Ex v d → Rp T' L' Kl' Dc' Ex' v d
  | _, _, .n => .n
  | _, _, .b v => .b v
  | _, _, .i v => .i v
  | _, _, .s v => .s v
  | _, _, .t h r => .t (ht _ _ h) (Rps.imp ht hl hk hd hx r)
  | _, _, .l h r => .l (hl _ _ h) (Rps.imp ht hl hk hd hx r)
  | _, _, .m h r q => .m (hd _ _ _ _ h) (Rps.imp ht hl hk hd hx r) (Rps.imp ht hl hk hd hx q)
  | _, _, .x h => .x (hx _ _ h)
  | _, _, .k h r => .k (hk _ _ h) (Rps.imp ht hl hk hd hx r)
theorem Rps.imp (ht : ∀ a vs, T a vs → T' a vs) (hl : ∀ a vs, L a vs → L' a vs) (hk : ∀ a vs, Kl a vs → Kl' a vs) (hd : ∀ a ks vs dk, Dc a ks vs dk → Dc' a ks vs dk) (hx : ∀ a c, Ex a c → Ex' a c) :
    ∀ {vs : List V} {ds : List D}, Rps T L Kl Dc Ex vs ds → Rps T' L' Kl' Dc' Ex' vs ds
  | _, _, .nil => .nil
  | _, _, .cons h r => .cons (Rp.imp ht hl hk hd hx h) (Rps.imp ht hl hk hd hx r)
end
theorem Rps.length : ∀ {vs : List V} {ds : List D}, Rps T L Kl Dc Ex vs ds → vs.length = ds.length
  | _, _, .nil => rfl
  | _, _, .cons _ r => by rw [List.length_cons, List.length_cons, Rps.length r]
theorem Rps.get : ∀ {vs : List V} {ds : List D} {i : Nat} {d : D}, Rps T L Kl Dc Ex vs ds → ds[i]? = some d → ∃ v, vs[i]? = some v ∧ Rp T L Kl Dc Ex v d
  | _, _, _, _, .nil, e => by simp at e
  | _, _, 0, _, .cons h _, e => by simp at e; subst e; exact ⟨_, rfl, h⟩
  | _, _, i + 1, _, .cons _ r, e => by
    obtain ⟨v, h1, h2⟩ := Rps.get (i := i) r (by simpa using e)
    exact ⟨v, by simpa using h1, h2⟩
theorem Rps.get' : ∀ {vs : List V} {ds : List D} {i : Nat} {v : V}, Rps T L Kl Dc Ex vs ds → vs[i]? = some v → ∃ d, ds[i]? = some d ∧ Rp T L Kl Dc Ex v d
  | _, _, _, _, .nil, e => by simp at e
  | _, _, 0, _, .cons h _, e => by simp at e; subst e; exact ⟨_, rfl, h⟩
  | _, _, i + 1, _, .cons _ r, e => by
    obtain ⟨v, h1, h2⟩ := Rps.get' (i := i) r (by simpa using e)
    exact ⟨v, by simpa using h1, h2⟩
theorem Rps.append : ∀ {vs ws : List V} {ds es : List D}, Rps T L Kl Dc Ex vs ds → Rps T L Kl Dc Ex ws es → Rps T L Kl Dc Ex (vs ++ ws) (ds ++ es)
  | _, _, _, _, .nil, q => q
  | _, _, _, _, .cons h r, q => .cons h (Rps.append r q)
theorem Rps.take : ∀ {vs : List V} {ds : List D} (n : Nat), Rps T L Kl Dc Ex vs ds → Rps T L Kl Dc Ex (vs.take n) (ds.take n)
  | _, _, 0, _ => .nil
  | _, _, _ + 1, .nil => .nil
  | _, _, n + 1, .cons h r => .cons h (Rps.take n r)
theorem Rps.drop : ∀ {vs : List V} {ds : List D} (n : Nat), Rps T L Kl Dc Ex vs ds → Rps T L Kl Dc Ex (vs.drop n) (ds.drop n)
  | _, _, 0, r => r
  | _, _, _ + 1, .nil => .nil
  | _, _, n + 1, .cons _ r => Rps.drop n r
theorem Rps.set {v : V} {d : D} (h : Rp T L Kl Dc Ex v d) : ∀ {vs : List V} {ds : List D} (n : Nat), Rps T L Kl Dc Ex vs ds → Rps T L Kl Dc Ex (vs.set n v) (ds.set n d)
  | _, _, _, .nil => .nil
  | _, _, 0, .cons _ r => .cons h r
  | _, _, n + 1, .cons q r => .cons q (Rps.set h n r)
end

/-- a list that never changes -/
def FzL (H : Hp) (a : Addr) (vs : List V) : Prop := ∃ o, H a = some (.frz o (.lst vs))
/-- one that came from outside -/
def FzK (K : PySem.W.Frag) (H : Hp) (a : Addr) (vs : List V) : Prop :=
  (∃ o, H a = some (.frz o (.lst vs))) ∨
    (∃ (o : Obj) (its : Array Value) (n : Nat), K.lookup a = some o ∧ o.cls = .type "list" ∧ o.dict = none ∧ o.data = .seq its n ∧ its.size ≤ sizeLine ∧ Vals vs its.toList)

/-- what is fixed: the written part, the world, where the own error classes stand; the heap at the entry of the def, the drawing state's place at its entry -/
structure Fx where
  K : PySem.W.Frag
  w : World
  cl : Nat → Addr
  H0 : Hp
  a0 : Option Addr

/-! keys of dicts -/
mutual
def kOf : D → NestedKey
  | .n => .none
  | .b v => .num (if v = true then 1 else 0)
  | .i v => .num v
  | .s v => .text v
  | .t xs => .tup (kOfs xs)
  | .l _ => .none
  | .m _ _ => .none
  | .x _ => .none
  | .k _ => .none
def kOfs : List D → List NestedKey
  | [] => []
  | d :: ds => kOf d :: kOfs ds
end

/-- a dict's object: its keys, its values -/
def DictO (w : World) (o : Obj) (ks vs : List V) (dk : List D) : Prop :=
  o.ExactDict ∧ ks.length = vs.length ∧ vs.length ≤ sizeLine ∧ (dk.map kOf).Nodup ∧ ∃ es ep, o.data = .dict es ep ∧ Vals ks (es.toList.map (·.key)) ∧ Vals vs (es.toList.map (·.val)) ∧ es.toList.map (·.hash) = dk.map (fun d => NestedKey.hash w (kOf d))
def FzD (T : Fx) (H : Hp) (a : Addr) (ks vs : List V) (dk : List D) : Prop :=
  (a == sysModules) = false ∧ ∃ o, H a = some (.frz o (.own a)) ∧ DictO T.w o ks vs dk
/-- an error that was caught -/
def FzX (T : Fx) (H : Hp) (a : Addr) (c : Nat) : Prop :=
  ∃ o, H a = some (.frz o (.own a)) ∧ o.cls = .ref (T.cl c) ∧ o.dict = none ∧ ∃ vs, o.data = .fields vs


abbrev Rep (T : Fx) (H : Hp) : V → D → Prop := Rp (SqT T.K H) (FzL H) (FzK T.K H) (FzD T H) (FzX T H)
abbrev Reps (T : Fx) (H : Hp) : List V → List D → Prop := Rps (SqT T.K H) (FzL H) (FzK T.K H) (FzD T H) (FzX T H)

/-- a dict of one's own stands at a -/
def rawAt (a : Addr) (o : Obj) : Heap → Prop := fun h => h.get? a = some o
def OwD (T : Fx) (H : Hp) (a : Addr) (ks vs : List V) (dk : List D) : Prop :=
  (a == sysModules) = false ∧ ∃ o, H a = some (.ext (rawAt a o)) ∧ DictO T.w o ks vs dk

/-- read as it stands now: lists and dicts may be of one's own, but not the drawing state's -/
def BoL (aS : Option Addr) (H : Hp) (a : Addr) (vs : List V) : Prop := Rd H a (.lst vs) ∧ aS ≠ some a
def BoD (T : Fx) (H : Hp) (a : Addr) (ks vs : List V) (dk : List D) : Prop := FzD T H a ks vs dk ∨ OwD T H a ks vs dk
abbrev Bor (T : Fx) (aS : Option Addr) (H : Hp) : V → D → Prop := Rp (SqT T.K H) (BoL aS H) (FzK T.K H) (BoD T H) (FzX T H)
abbrev Bors (T : Fx) (aS : Option Addr) (H : Hp) : List V → List D → Prop := Rps (SqT T.K H) (BoL aS H) (FzK T.K H) (BoD T H) (FzX T H)

/-- all that was tracked is as it was, but for the drawing state -/
def Ext (aS : Option Addr) (H H' : Hp) : Prop := ∀ b o, H b = some o → ((∃ xs, o = HO.lst xs) → aS ≠ some b) → H' b = some o
theorem Ext.refl {aS : Option Addr} {H : Hp} : Ext aS H H := fun _ _ e _ => e
theorem Ext.trans {aS : Option Addr} {H H1 H2 : Hp} (x : Ext aS H H1) (y : Ext aS H1 H2) : Ext aS H H2 := fun b o e c => y b o (x b o e c) c
theorem Ext.upd {aS : Option Addr} {H : Hp} {p : Addr} {o : HO} (h : H p = none) : Ext aS H (upd H p o) := fun b u e _ => by
  rw [upd_ne (ne_of_none e h)]; exact e
theorem Ext.un {aS : Option Addr} {H H' : Hp} (x : Ext aS H H') {p : Addr} (h : H' p = Option.none) (ha : ∀ a, aS = some a → H' a ≠ Option.none) : H p = Option.none := by
  cases e : H p with
  | none => rfl
  | some o =>
    by_cases c : aS = some p
    · exact absurd h (ha p c)
    · have := x p o e (fun _ => c)
      rw [h] at this; cases this

section
variable {T : Fx} {aS : Option Addr} {H H' : Hp}
theorem sqT_ext (x : Ext aS H H') {a : Addr} {vs : List V} (h : SqT T.K H a vs) : SqT T.K H' a vs := by
  rcases h with (h | ⟨o, h⟩) | h
  · exact .inl (.inl (x _ _ h (fun ⟨_, e⟩ => nomatch e)))
  · exact .inl (.inr ⟨o, x _ _ h (fun ⟨_, e⟩ => nomatch e)⟩)
  · exact .inr h
theorem fzL_ext (x : Ext aS H H') {a : Addr} {vs : List V} (h : FzL H a vs) : FzL H' a vs := by
  obtain ⟨o, h⟩ := h
  exact ⟨o, x _ _ h (fun ⟨_, e⟩ => nomatch e)⟩
theorem fzK_ext (x : Ext aS H H') {a : Addr} {vs : List V} (h : FzK T.K H a vs) : FzK T.K H' a vs := by
  rcases h with ⟨o, h⟩ | h
  · exact .inl ⟨o, x _ _ h (fun ⟨_, e⟩ => nomatch e)⟩
  · exact .inr h
theorem fzD_ext (x : Ext aS H H') {a : Addr} {ks vs : List V} {dk : List D} (h : FzD T H a ks vs dk) : FzD T H' a ks vs dk := by
  obtain ⟨n, o, h, q⟩ := h
  exact ⟨n, o, x _ _ h (fun ⟨_, e⟩ => nomatch e), q⟩
theorem fzX_ext (x : Ext aS H H') {a : Addr} {c : Nat} (h : FzX T H a c) : FzX T H' a c := by
  obtain ⟨o, h, q⟩ := h
  exact ⟨o, x _ _ h (fun ⟨_, e⟩ => nomatch e), q⟩
theorem owD_ext (x : Ext aS H H') {a : Addr} {ks vs : List V} {dk : List D} (h : OwD T H a ks vs dk) : OwD T H' a ks vs dk := by
  obtain ⟨n, o, h, q⟩ := h
  exact ⟨n, o, x _ _ h (fun ⟨_, e⟩ => nomatch e), q⟩
theorem boL_ext (x : Ext aS H H') {a : Addr} {vs : List V} (h : BoL aS H a vs) : BoL aS H' a vs := by
  obtain ⟨h, n⟩ := h
  refine ⟨?_, n⟩
  rcases h with h | ⟨o, h⟩
  · exact .inl (x _ _ h (fun _ => n))
  · exact .inr ⟨o, x _ _ h (fun ⟨_, e⟩ => nomatch e)⟩
theorem boD_ext (x : Ext aS H H') {a : Addr} {ks vs : List V} {dk : List D} (h : BoD T H a ks vs dk) : BoD T H' a ks vs dk := h.imp (fzD_ext x) (owD_ext x)
theorem Rep.ext (x : Ext aS H H') {v : V} {d : D} (h : Rep T H v d) : Rep T H' v d := Rp.imp (fun _ _ => sqT_ext x) (fun _ _ => fzL_ext x) (fun _ _ => fzK_ext x) (fun _ _ _ _ => fzD_ext x) (fun _ _ => fzX_ext x) h
theorem Reps.ext (x : Ext aS H H') {v : List V} {d : List D} (h : Reps T H v d) : Reps T H' v d := Rps.imp (fun _ _ => sqT_ext x) (fun _ _ => fzL_ext x) (fun _ _ => fzK_ext x) (fun _ _ _ _ => fzD_ext x) (fun _ _ => fzX_ext x) h
theorem Bor.ext (x : Ext aS H H') {v : V} {d : D} (h : Bor T aS H v d) : Bor T aS H' v d := Rp.imp (fun _ _ => sqT_ext x) (fun _ _ => boL_ext x) (fun _ _ => fzK_ext x) (fun _ _ _ _ => boD_ext x) (fun _ _ => fzX_ext x) h
theorem Bors.ext (x : Ext aS H H') {v : List V} {d : List D} (h : Bors T aS H v d) : Bors T aS H' v d := Rps.imp (fun _ _ => sqT_ext x) (fun _ _ => boL_ext x) (fun _ _ => fzK_ext x) (fun _ _ _ _ => boD_ext x) (fun _ _ => fzX_ext x) h
end

/-- the drawing state, where there is one -/
def Amb (T : Fx) (aS : Option Addr) (H : Hp) (S : Sg) : Prop := ∀ a, aS = some a → T.K.lookup a = none ∧ ∃ vs, H a = some (.lst vs) ∧ Reps T H vs S
theorem Amb.no {T : Fx} {H : Hp} {S : Sg} : Amb T none H S := fun _ e => nomatch e
theorem Amb.ne {T : Fx} {aS : Option Addr} {H : Hp} {S : Sg} (m : Amb T aS H S) : ∀ a, aS = some a → H a ≠ Option.none := fun a e => by
  obtain ⟨_, vs, h, _⟩ := m a e; rw [h]; simp
/-- a frozen thing isn't the drawing state -/
theorem fzL_bo {T : Fx} {aS : Option Addr} {H : Hp} {S : Sg} (m : Amb T aS H S) {a : Addr} {vs : List V} (h : FzL H a vs) : BoL aS H a vs := by
  obtain ⟨o, h⟩ := h
  refine ⟨.inr ⟨o, h⟩, fun e => ?_⟩
  obtain ⟨_, vs', h', _⟩ := m a e
  rw [h] at h'; cases h'
theorem Rep.bor {T : Fx} {aS : Option Addr} {H : Hp} {S : Sg} (m : Amb T aS H S) {v : V} {d : D} (h : Rep T H v d) : Bor T aS H v d := Rp.imp (fun _ _ => id) (fun _ _ => fzL_bo m) (fun _ _ => id) (fun _ _ _ _ => .inl) (fun _ _ => id) h
theorem Reps.bor {T : Fx} {aS : Option Addr} {H : Hp} {S : Sg} (m : Amb T aS H S) {v : List V} {d : List D} (h : Reps T H v d) : Bors T aS H v d := Rps.imp (fun _ _ => id) (fun _ _ => fzL_bo m) (fun _ _ => id) (fun _ _ _ _ => .inl) (fun _ _ => id) h

/-- a list, a dict of one's own, of values; anything else is a value -/
def Ow1 (T : Fx) (aS : Option Addr) (H : Hp) (v : V) (d : D) (F : List Addr) : Prop :=
  match d with
  | .l ds => ∃ a vs, v = .ref a ∧ F = [a] ∧ aS ≠ some a ∧ H a = some (.lst vs) ∧ Reps T H vs ds
  | .m dk dv => ∃ a ks vs, v = .ref a ∧ F = [a] ∧ OwD T H a ks vs dk ∧ Reps T H ks dk ∧ Reps T H vs dv
  | d => F = [] ∧ Rep T H v d
/-- all of several things -/
inductive Ow1s (T : Fx) (aS : Option Addr) (H : Hp) : List V → List D → List Addr → Prop
  | nil : Ow1s T aS H [] [] []
  | cons {v : V} {vs : List V} {d : D} {ds : List D} {F G : List Addr} : Ow1 T aS H v d F → Ow1s T aS H vs ds G → (∀ b ∈ F, b ∉ G) → Ow1s T aS H (v :: vs) (d :: ds) (F ++ G)
/-- a list, a dict of one's own, of lists of one's own -/
def Ow2 (T : Fx) (aS : Option Addr) (H : Hp) (v : V) (d : D) (F : List Addr) : Prop :=
  match d with
  | .l ds => ∃ a vs G, v = .ref a ∧ F = a :: G ∧ a ∉ G ∧ aS ≠ some a ∧ H a = some (.lst vs) ∧ Ow1s T aS H vs ds G
  | .m dk dv => ∃ a ks vs G, v = .ref a ∧ F = a :: G ∧ a ∉ G ∧ OwD T H a ks vs dk ∧ Reps T H ks dk ∧ Ow1s T aS H vs dv G
  | d => F = [] ∧ Rep T H v d
section
variable {T : Fx} {aS : Option Addr} {H H' : Hp}
theorem Ow1.ext (x : Ext aS H H') {v : V} {d : D} {F : List Addr} (h : Ow1 T aS H v d F) : Ow1 T aS H' v d F := by
  cases d with
  | l ds =>
    obtain ⟨a, vs, e1, e2, n, h, r⟩ := h
    exact ⟨a, vs, e1, e2, n, x _ _ h (fun _ => n), Reps.ext x r⟩
  | m dk dv =>
    obtain ⟨a, ks, vs, e1, e2, h, r, q⟩ := h
    exact ⟨a, ks, vs, e1, e2, owD_ext x h, Reps.ext x r, Reps.ext x q⟩
  | n => exact ⟨h.1, Rep.ext x h.2⟩
  | b _ => exact ⟨h.1, Rep.ext x h.2⟩
  | i _ => exact ⟨h.1, Rep.ext x h.2⟩
  | s _ => exact ⟨h.1, Rep.ext x h.2⟩
  | t _ => exact ⟨h.1, Rep.ext x h.2⟩
  | x _ => exact ⟨h.1, Rep.ext x h.2⟩
  | k _ => exact ⟨h.1, Rep.ext x h.2⟩
theorem Ow1s.ext (x : Ext aS H H') {vs : List V} {ds : List D} {F : List Addr} (h : Ow1s T aS H vs ds F) : Ow1s T aS H' vs ds F := by
  induction h with
  | nil => exact .nil
  | cons h _ n ih => exact .cons (h.ext x) ih n
theorem Ow2.ext (x : Ext aS H H') {v : V} {d : D} {F : List Addr} (h : Ow2 T aS H v d F) : Ow2 T aS H' v d F := by
  cases d with
  | l ds =>
    obtain ⟨a, vs, G, e1, e2, e3, n, h, r⟩ := h
    exact ⟨a, vs, G, e1, e2, e3, n, x _ _ h (fun _ => n), r.ext x⟩
  | m dk dv =>
    obtain ⟨a, ks, vs, G, e1, e2, e3, h, r, q⟩ := h
    exact ⟨a, ks, vs, G, e1, e2, e3, owD_ext x h, Reps.ext x r, q.ext x⟩
  | n => exact ⟨h.1, Rep.ext x h.2⟩
  | b _ => exact ⟨h.1, Rep.ext x h.2⟩
  | i _ => exact ⟨h.1, Rep.ext x h.2⟩
  | s _ => exact ⟨h.1, Rep.ext x h.2⟩
  | t _ => exact ⟨h.1, Rep.ext x h.2⟩
  | x _ => exact ⟨h.1, Rep.ext x h.2⟩
  | k _ => exact ⟨h.1, Rep.ext x h.2⟩
/-- what is one's own is tracked -/
theorem Ow1.tracked {v : V} {d : D} {F : List Addr} (h : Ow1 T aS H v d F) : ∀ b ∈ F, ∃ o, H b = some o := by
  cases d with
  | l ds =>
    obtain ⟨a, vs, e1, rfl, n, h, r⟩ := h
    intro b hb; simp at hb; subst hb; exact ⟨_, h⟩
  | m dk dv =>
    obtain ⟨a, ks, vs, e1, rfl, ⟨_, o, h, _⟩, r, q⟩ := h
    intro b hb; simp at hb; subst hb; exact ⟨_, h⟩
  | n => obtain ⟨rfl, _⟩ := h; exact fun b hb => absurd hb (by simp)
  | b _ => obtain ⟨rfl, _⟩ := h; exact fun b hb => absurd hb (by simp)
  | i _ => obtain ⟨rfl, _⟩ := h; exact fun b hb => absurd hb (by simp)
  | s _ => obtain ⟨rfl, _⟩ := h; exact fun b hb => absurd hb (by simp)
  | t _ => obtain ⟨rfl, _⟩ := h; exact fun b hb => absurd hb (by simp)
  | x _ => obtain ⟨rfl, _⟩ := h; exact fun b hb => absurd hb (by simp)
  | k _ => obtain ⟨rfl, _⟩ := h; exact fun b hb => absurd hb (by simp)
theorem Ow1s.tracked {vs : List V} {ds : List D} {F : List Addr} (h : Ow1s T aS H vs ds F) : ∀ b ∈ F, ∃ o, H b = some o := by
  induction h with
  | nil => exact fun b hb => absurd hb (by simp)
  | cons h _ n ih =>
    intro b hb
    rcases List.mem_append.mp hb with hb | hb
    · exact h.tracked b hb
    · exact ih b hb
theorem Ow2.tracked {v : V} {d : D} {F : List Addr} (h : Ow2 T aS H v d F) : ∀ b ∈ F, ∃ o, H b = some o := by
  cases d with
  | l ds =>
    obtain ⟨a, vs, G, e1, rfl, e3, n, h, r⟩ := h
    intro b hb
    rcases List.mem_cons.mp hb with rfl | hb
    · exact ⟨_, h⟩
    · exact r.tracked b hb
  | m dk dv =>
    obtain ⟨a, ks, vs, G, e1, rfl, e3, ⟨_, o, h, _⟩, r, q⟩ := h
    intro b hb
    rcases List.mem_cons.mp hb with rfl | hb
    · exact ⟨_, h⟩
    · exact q.tracked b hb
  | n => obtain ⟨rfl, _⟩ := h; exact fun b hb => absurd hb (by simp)
  | b _ => obtain ⟨rfl, _⟩ := h; exact fun b hb => absurd hb (by simp)
  | i _ => obtain ⟨rfl, _⟩ := h; exact fun b hb => absurd hb (by simp)
  | s _ => obtain ⟨rfl, _⟩ := h; exact fun b hb => absurd hb (by simp)
  | t _ => obtain ⟨rfl, _⟩ := h; exact fun b hb => absurd hb (by simp)
  | x _ => obtain ⟨rfl, _⟩ := h; exact fun b hb => absurd hb (by simp)
  | k _ => obtain ⟨rfl, _⟩ := h; exact fun b hb => absurd hb (by simp)
/-- it isn't the drawing state -/
theorem Ow1.apart {v : V} {d : D} {F : List Addr} (h : Ow1 T aS H v d F) {S : Sg} (m : Amb T aS H S) : ∀ b ∈ F, aS ≠ some b := by
  cases d with
  | l ds =>
    obtain ⟨a, vs, e1, rfl, n, h, r⟩ := h
    intro b hb; simp at hb; subst hb; exact n
  | m dk dv =>
    obtain ⟨a, ks, vs, e1, rfl, ⟨_, o, h, _⟩, r, q⟩ := h
    intro b hb e; simp at hb; subst hb
    obtain ⟨_, _, h', _⟩ := m _ e
    rw [h] at h'; cases h'
  | n => obtain ⟨rfl, _⟩ := h; exact fun b hb => absurd hb (by simp)
  | b _ => obtain ⟨rfl, _⟩ := h; exact fun b hb => absurd hb (by simp)
  | i _ => obtain ⟨rfl, _⟩ := h; exact fun b hb => absurd hb (by simp)
  | s _ => obtain ⟨rfl, _⟩ := h; exact fun b hb => absurd hb (by simp)
  | t _ => obtain ⟨rfl, _⟩ := h; exact fun b hb => absurd hb (by simp)
  | x _ => obtain ⟨rfl, _⟩ := h; exact fun b hb => absurd hb (by simp)
  | k _ => obtain ⟨rfl, _⟩ := h; exact fun b hb => absurd hb (by simp)
/-- read as it stands -/
theorem Ow1.bor {v : V} {d : D} {F : List Addr} {S : Sg} (m : Amb T aS H S) (h : Ow1 T aS H v d F) : Bor T aS H v d := by
  cases d with
  | l ds =>
    obtain ⟨a, vs, rfl, _, n, h, r⟩ := h
    exact .l ⟨.inl h, n⟩ (Reps.bor m r)
  | m dk dv =>
    obtain ⟨a, ks, vs, rfl, _, h, r, q⟩ := h
    exact .m (.inr h) (Reps.bor m r) (Reps.bor m q)
  | n => exact Rep.bor m h.2
  | b _ => exact Rep.bor m h.2
  | i _ => exact Rep.bor m h.2
  | s _ => exact Rep.bor m h.2
  | t _ => exact Rep.bor m h.2
  | x _ => exact Rep.bor m h.2
  | k _ => exact Rep.bor m h.2
theorem Ow1s.bors {vs : List V} {ds : List D} {F : List Addr} {S : Sg} (m : Amb T aS H S) (h : Ow1s T aS H vs ds F) : Bors T aS H vs ds := by
  induction h with
  | nil => exact .nil
  | cons h _ _ ih => exact .cons (h.bor m) ih
theorem Ow2.bor {v : V} {d : D} {F : List Addr} {S : Sg} (m : Amb T aS H S) (h : Ow2 T aS H v d F) : Bor T aS H v d := by
  cases d with
  | l ds =>
    obtain ⟨a, vs, G, rfl, _, _, n, h, r⟩ := h
    exact .l ⟨.inl h, n⟩ (r.bors m)
  | m dk dv =>
    obtain ⟨a, ks, vs, G, rfl, _, _, h, r, q⟩ := h
    exact .m (.inr h) (Reps.bor m r) (q.bors m)
  | n => exact Rep.bor m h.2
  | b _ => exact Rep.bor m h.2
  | i _ => exact Rep.bor m h.2
  | s _ => exact Rep.bor m h.2
  | t _ => exact Rep.bor m h.2
  | x _ => exact Rep.bor m h.2
  | k _ => exact Rep.bor m h.2
end

/-- a list, a dict that is read, of values -/
def B1 (T : Fx) (aS : Option Addr) (H : Hp) (v : V) (d : D) : Prop :=
  match d with
  | .l ds => ∃ a vs, v = .ref a ∧ BoL aS H a vs ∧ Reps T H vs ds
  | .m dk dv => ∃ a ks vs, v = .ref a ∧ BoD T H a ks vs dk ∧ Reps T H ks dk ∧ Reps T H vs dv
  | d => Rep T H v d
section
variable {T : Fx} {aS : Option Addr} {H H' : Hp}
theorem B1.ext (x : Ext aS H H') {v : V} {d : D} (h : B1 T aS H v d) : B1 T aS H' v d := by
  cases d with
  | l ds => obtain ⟨a, vs, e, h, r⟩ := h; exact ⟨a, vs, e, boL_ext x h, Reps.ext x r⟩
  | m dk dv => obtain ⟨a, ks, vs, e, h, r, q⟩ := h; exact ⟨a, ks, vs, e, boD_ext x h, Reps.ext x r, Reps.ext x q⟩
  | n => exact Rep.ext x h
  | b _ => exact Rep.ext x h
  | i _ => exact Rep.ext x h
  | s _ => exact Rep.ext x h
  | t _ => exact Rep.ext x h
  | x _ => exact Rep.ext x h
  | k _ => exact Rep.ext x h
theorem B1.bor {v : V} {d : D} {S : Sg} (m : Amb T aS H S) (h : B1 T aS H v d) : Bor T aS H v d := by
  cases d with
  | l ds => obtain ⟨a, vs, rfl, h, r⟩ := h; exact .l h (Reps.bor m r)
  | m dk dv => obtain ⟨a, ks, vs, rfl, h, r, q⟩ := h; exact .m h (Reps.bor m r) (Reps.bor m q)
  | n => exact Rep.bor m h
  | b _ => exact Rep.bor m h
  | i _ => exact Rep.bor m h
  | s _ => exact Rep.bor m h
  | t _ => exact Rep.bor m h
  | x _ => exact Rep.bor m h
  | k _ => exact Rep.bor m h
theorem Rep.b1 {v : V} {d : D} {S : Sg} (m : Amb T aS H S) (h : Rep T H v d) : B1 T aS H v d := by
  cases d with
  | l ds => cases h with | l h r => exact ⟨_, _, rfl, fzL_bo m h, r⟩
  | m dk dv => cases h with | m h r q => exact ⟨_, _, _, rfl, .inl h, r, q⟩
  | n => exact h
  | b _ => exact h
  | i _ => exact h
  | s _ => exact h
  | t _ => exact h
  | x _ => exact h
  | k _ => exact h
theorem Ow1.b1 {v : V} {d : D} {F : List Addr} (h : Ow1 T aS H v d F) : B1 T aS H v d := by
  cases d with
  | l ds => obtain ⟨a, vs, rfl, _, n, h, r⟩ := h; exact ⟨_, _, rfl, ⟨.inl h, n⟩, r⟩
  | m dk dv => obtain ⟨a, ks, vs, rfl, _, h, r, q⟩ := h; exact ⟨_, _, _, rfl, .inr h, r, q⟩
  | n => exact h.2
  | b _ => exact h.2
  | i _ => exact h.2
  | s _ => exact h.2
  | t _ => exact h.2
  | x _ => exact h.2
  | k _ => exact h.2
end

/-! ### environments -/
def SlOk (T : Fx) (aS : Option Addr) (H : Hp) (v : V) : Sl → List Addr → Prop
  | .val d, F => F = [] ∧ Rep T H v d
  | .o1 d, F => Ow1 T aS H v d F
  | .o2 d, F => Ow2 T aS H v d F
  | .st, F => F = [] ∧ ∃ a, v = .ref a ∧ aS = some a
theorem SlOk.ext {T : Fx} {aS : Option Addr} {H H' : Hp} (x : Ext aS H H') {v : V} {e : Sl} {F : List Addr} (h : SlOk T aS H v e F) : SlOk T aS H' v e F := by
  cases e with
  | val d => exact ⟨h.1, Rep.ext x h.2⟩
  | o1 d => exact Ow1.ext x h
  | o2 d => exact Ow2.ext x h
  | st => exact h
theorem SlOk.tracked {T : Fx} {aS : Option Addr} {H : Hp} {v : V} {e : Sl} {F : List Addr} (h : SlOk T aS H v e F) : ∀ b ∈ F, ∃ o, H b = some o := by
  cases e with
  | val d => obtain ⟨rfl, _⟩ := h; exact fun b hb => absurd hb (by simp)
  | o1 d => exact Ow1.tracked h
  | o2 d => exact Ow2.tracked h
  | st => obtain ⟨rfl, _⟩ := h; exact fun b hb => absurd hb (by simp)

/-- the slots hold the environment; F: what is one's own, slot by slot -/
structure ERF (T : Fx) (aS : Option Addr) (H : Hp) (σ : L2.St) (r : En) (S : Sg) (F : Nat → List Addr) : Prop where
  amb : Amb T aS H S
  len : σ.length = r.length
  sl : ∀ j e, r[j]? = some (some e) → ∃ v, σ[j]? = some (some v) ∧ SlOk T aS H v e (F j)
  no : ∀ j, (∀ e, r[j]? ≠ some (some e)) → F j = []
  dj : ∀ j k b, j ≠ k → b ∈ F j → b ∉ F k
  new : ∀ j b, b ∈ F j → T.H0 b = none ∧ aS ≠ some b
  ext : Ext T.a0 T.H0 H
  st : aS = T.a0 ∨ (T.a0 = none ∧ ∀ a, aS = some a → T.H0 a = none)
def ER (T : Fx) (aS : Option Addr) (H : Hp) (σ : L2.St) (r : En) (S : Sg) : Prop := ∃ F, ERF T aS H σ r S F
end DL

/-! DL2: environments change; the judgements; names, constants, operators. -/
namespace DL
open PySem PySem.Spec PyProof.Rows L2
section
variable {T : Fx} {aS : Option Addr} {H H' : Hp} {σ : L2.St} {r : En} {S S' : Sg}
theorem Amb.ext (x : Ext aS H H') {S : Sg} (m : Amb T aS H' S) : Amb T aS H' S := m
theorem ext0_of (h : Ext T.a0 T.H0 H) (st : aS = T.a0 ∨ (T.a0 = none ∧ ∀ a, aS = some a → T.H0 a = none)) (x : Ext aS H H') : Ext T.a0 T.H0 H' := by
  rcases st with e | ⟨e, n⟩
  · rw [e] at x; exact h.trans x
  · intro b o q c
    refine x b o (h b o q c) fun _ z => ?_
    rw [n b z] at q; cases q
theorem ER.ext (h : ER T aS H σ r S) (x : Ext aS H H') (m : Amb T aS H' S') : ER T aS H' σ r S' := by
  obtain ⟨F, a, b, c, d, e, f, g, i⟩ := h
  exact ⟨F, m, b, fun j z q => let ⟨v, h1, h2⟩ := c j z q; ⟨v, h1, h2.ext x⟩, d, e, f, ext0_of g i x, i⟩
theorem ER.amb (h : ER T aS H σ r S) : Amb T aS H S := let ⟨_, h⟩ := h; h.amb
theorem ER.ext0 (h : ER T aS H σ r S) : Ext T.a0 T.H0 H := let ⟨_, h⟩ := h; h.ext
theorem ER.st (h : ER T aS H σ r S) : aS = T.a0 ∨ (T.a0 = none ∧ ∀ a, aS = some a → T.H0 a = none) := let ⟨_, h⟩ := h; h.st
theorem ER.len (h : ER T aS H σ r S) : σ.length = r.length := let ⟨_, h⟩ := h; h.len
theorem ER.get (h : ER T aS H σ r S) {j : Nat} {d : D} (e : r[j]? = some (some (.val d))) : ∃ v, σ[j]? = some (some v) ∧ Rep T H v d := by
  obtain ⟨F, h⟩ := h
  obtain ⟨v, h1, h2⟩ := h.sl j _ e
  exact ⟨v, h1, h2.2⟩
theorem ER.getB (h : ER T aS H σ r S) {j : Nat} {d : D} {e : Sl} (q : r[j]? = some (some e)) (he : e = .val d ∨ e = .o1 d ∨ e = .o2 d) : ∃ v, σ[j]? = some (some v) ∧ Bor T aS H v d := by
  obtain ⟨F, h⟩ := h
  obtain ⟨v, h1, h2⟩ := h.sl j _ q
  rcases he with rfl | rfl | rfl
  · exact ⟨v, h1, Rep.bor h.amb h2.2⟩
  · exact ⟨v, h1, Ow1.bor h.amb h2⟩
  · exact ⟨v, h1, Ow2.bor h.amb h2⟩
theorem ER.getSt (h : ER T aS H σ r S) {j : Nat} (e : r[j]? = some (some .st)) : ∃ a, σ[j]? = some (some (.ref a)) ∧ aS = some a := by
  obtain ⟨F, h⟩ := h
  obtain ⟨v, h1, h2, a, rfl, h3⟩ := h.sl j _ e
  exact ⟨a, h1, h3⟩
/-- a slot is stored; what was there goes -/
theorem ER.set (h : ER T aS H σ r S) {j : Nat} {v : V} {e : Sl} {G : List Addr} (hv : SlOk T aS H v e G) (hn : ∀ b ∈ G, T.H0 b = none ∧ aS ≠ some b ∧ ∀ F, ERF T aS H σ r S F → ∀ k, k ≠ j → b ∉ F k) (hj : j < r.length) : ER T aS H (σ.set j (some v)) (r.set j (some e)) S := by
  obtain ⟨F, h⟩ := h
  refine ⟨fun k => if k = j then G else F k, h.amb, by rw [List.length_set, List.length_set, h.len], fun k z q => ?_, fun k q => ?_, fun k l b hkl hk => ?_, fun k b hb => ?_, h.ext, h.st⟩
  · by_cases hk : k = j
    · subst hk
      rw [List.getElem?_set_self hj] at q
      cases q
      exact ⟨v, by rw [List.getElem?_set_self (by rw [h.len]; exact hj)], by rw [if_pos rfl]; exact hv⟩
    · rw [List.getElem?_set_ne (Ne.symm hk)] at q
      obtain ⟨u, h1, h2⟩ := h.sl k z q
      exact ⟨u, by rw [List.getElem?_set_ne (Ne.symm hk)]; exact h1, by rw [if_neg hk]; exact h2⟩
  · by_cases hk : k = j
    · subst hk
      exact absurd (List.getElem?_set_self hj) (q e)
    · show (if k = j then G else F k) = []
      rw [if_neg hk]
      exact h.no k fun z hz => q z (by rw [List.getElem?_set_ne (Ne.symm hk)]; exact hz)
  · show b ∉ (if l = j then G else F l)
    have hk : b ∈ (if k = j then G else F k) := hk
    by_cases h1 : k = j
    · rw [if_pos h1] at hk
      by_cases h2 : l = j
      · exact absurd (h1.trans h2.symm) hkl
      · rw [if_neg h2]
        exact (hn b hk).2.2 F h l h2
    · rw [if_neg h1] at hk
      by_cases h2 : l = j
      · rw [if_pos h2]
        exact fun z => (hn b z).2.2 F h k h1 hk
      · rw [if_neg h2]; exact h.dj k l b hkl hk
  · have hb : b ∈ (if k = j then G else F k) := hb
    by_cases h1 : k = j
    · rw [if_pos h1] at hb; exact ⟨(hn b hb).1, (hn b hb).2.1⟩
    · rw [if_neg h1] at hb; exact h.new k b hb
theorem ER.setVal (h : ER T aS H σ r S) {j : Nat} {v : V} {d : D} (hv : Rep T H v d) (hj : j < r.length) : ER T aS H (σ.set j (some v)) (r.set j (some (.val d))) S :=
  h.set (G := []) ⟨rfl, hv⟩ (fun b hb => absurd hb (by simp)) hj
/-- new things are apart from all that is one's own -/
theorem ERF.fresh {F : Nat → List Addr} (h : ERF T aS H σ r S F) {G : List Addr} (hG : ∀ b ∈ G, H b = none) : ∀ b ∈ G, T.H0 b = none ∧ ∀ k, b ∉ F k := fun b hb => by
  refine ⟨h.ext.un (hG b hb) fun a e => ?_, fun k hk => ?_⟩
  · rcases h.st with q | ⟨q, _⟩
    · exact h.amb.ne a (q.trans e)
    · rw [q] at e; cases e
  · by_cases c : ∃ e, r[k]? = some (some e)
    · obtain ⟨e, c⟩ := c
      obtain ⟨v, _, h2⟩ := h.sl k e c
      obtain ⟨o, q⟩ := h2.tracked b hk
      rw [hG b hb] at q; cases q
    · rw [h.no k fun e q => c ⟨e, q⟩] at hk
      exact absurd hk (by simp)
/-- a slot forgotten -/
theorem ER.drop (h : ER T aS H σ r S) (j : Nat) (x : Option V) : ER T aS H (σ.set j x) (r.set j none) S := by
  obtain ⟨F, h⟩ := h
  by_cases hj : j < r.length
  · refine ⟨fun k => if k = j then [] else F k, h.amb, by rw [List.length_set, List.length_set, h.len], fun k z q => ?_, fun k q => ?_, fun k l b hkl hk => ?_, fun k b hb => ?_, h.ext, h.st⟩
    · by_cases hk : k = j
      · subst hk
        rw [List.getElem?_set_self hj] at q; cases q
      · rw [List.getElem?_set_ne (Ne.symm hk)] at q
        obtain ⟨u, h1, h2⟩ := h.sl k z q
        exact ⟨u, by rw [List.getElem?_set_ne (Ne.symm hk)]; exact h1, by rw [if_neg hk]; exact h2⟩
    · by_cases hk : k = j
      · exact if_pos hk
      · show (if k = j then [] else F k) = []
        rw [if_neg hk]
        exact h.no k fun z hz => q z (by rw [List.getElem?_set_ne (Ne.symm hk)]; exact hz)
    · show b ∉ (if l = j then [] else F l)
      have hk : b ∈ (if k = j then [] else F k) := hk
      by_cases h1 : k = j
      · rw [if_pos h1] at hk; exact absurd hk (by simp)
      · rw [if_neg h1] at hk
        by_cases h2 : l = j
        · rw [if_pos h2]; simp
        · rw [if_neg h2]; exact h.dj k l b hkl hk
    · have hb : b ∈ (if k = j then [] else F k) := hb
      by_cases h1 : k = j
      · rw [if_pos h1] at hb; exact absurd hb (by simp)
      · rw [if_neg h1] at hb; exact h.new k b hb
  · rw [List.set_eq_of_length_le (by rw [h.len]; omega), List.set_eq_of_length_le (by omega)]
    exact ⟨F, h⟩
end

/-! ### the judgements -/
inductive Md where
  | val | b1 | bor | f1 | f2
  deriving DecidableEq
/-- what a value of that mode is, at H' behind, H ahead -/
def MdOk (T : Fx) (aS : Option Addr) (H H' : Hp) (v : V) (d : D) : Md → Prop
  | .val => Rep T H' v d
  | .b1 => B1 T aS H' v d
  | .bor => Bor T aS H' v d
  | .f1 => ∃ F, Ow1 T aS H' v d F ∧ ∀ b ∈ F, H b = none
  | .f2 => ∃ F, Ow2 T aS H' v d F ∧ ∀ b ∈ F, H b = none
/-- .. where it is read -/
def RdOk (T : Fx) (aS : Option Addr) (H : Hp) (v : V) (d : D) : Md → Prop
  | .val => Rep T H v d
  | .b1 => B1 T aS H v d
  | .bor => Bor T aS H v d
  | _ => False
def Md.rd : Md → Bool
  | .val => true
  | .b1 => true
  | .bor => true
  | _ => false
theorem MdOk.rd {T : Fx} {aS : Option Addr} {H H' : Hp} {v : V} {d : D} {md : Md} (e : md.rd = true) (h : MdOk T aS H H' v d md) : RdOk T aS H' v d md := by
  cases md with
  | val => exact h
  | b1 => exact h
  | bor => exact h
  | f1 => cases e
  | f2 => cases e
theorem RdOk.ext {T : Fx} {aS : Option Addr} {H H' : Hp} (x : Ext aS H H') {v : V} {d : D} {md : Md} (h : RdOk T aS H v d md) : RdOk T aS H' v d md := by
  cases md with
  | val => exact Rep.ext x h
  | b1 => exact B1.ext x h
  | bor => exact Bor.ext x h
  | f1 => exact h
  | f2 => exact h
theorem RdOk.bor {T : Fx} {aS : Option Addr} {H : Hp} {S : Sg} (m : Amb T aS H S) {v : V} {d : D} {md : Md} (h : RdOk T aS H v d md) : Bor T aS H v d := by
  cases md with
  | val => exact Rep.bor m h
  | b1 => exact B1.bor m h
  | bor => exact h
  | f1 => exact h.elim
  | f2 => exact h.elim
/-- what is wanted behind an expression -/
def Post (T : Fx) (W : WX) (aS : Option Addr) (H : Hp) (σ : L2.St) (md : Md) (Q : VK) : R D → Prop
  | .ok d S' => ∀ v H', Ext aS H H' → Amb T aS H' S' → MdOk T aS H H' v d md → Q v H'
  | .exc c S' => ∀ H', Ext aS H H' → Amb T aS H' S' → W (.ref (T.cl c)) none σ H'
  | .bad => False
def tE (T : Fx) (W : WX) (md : Md) (m : M) : TE := fun σ H Q => ∃ r aS S, ER T aS H σ r S ∧ Post T W aS H σ md Q (m r S)
/-- an expression, its meaning m -/
def DE (X : Cx) (T : Fx) (W : WX) (md : Md) (e : Expr) (m : M) : Prop := PE X e (tE T W md m)

theorem PE.imp {X : Cx} {e : Expr} {t t' : TE} (h : PE X e t) (i : ∀ σ H Q, t' σ H Q → t σ H Q) : PE X e t' := ⟨fun pins s σ H Q I q => h.run pins s σ H Q I (i σ H Q q)⟩
theorem PS.imp {X : Cx} {e : Stmt} {t t' : TS} (h : PS X e t) (i : ∀ D σ H, t' D σ H → t D σ H) : PS X e t' := ⟨fun pins s σ H Q I q => h.run pins s σ H Q I (i Q σ H q)⟩
theorem PSs.imp {X : Cx} {e : List Stmt} {t t' : TS} (h : PSs X e t) (i : ∀ D σ H, t' D σ H → t D σ H) : PSs X e t' := ⟨fun pins s σ H Q I q => h.run pins s σ H Q I (i Q σ H q)⟩
theorem PT.imp {X : Cx} {e : Expr} {t t' : TT} (h : PT X e t) (i : ∀ σ H Q, t' σ H Q → t σ H Q) : PT X e t' := ⟨fun pins s σ H Q I q => h.run pins s σ H Q I (i σ H Q q)⟩
theorem PW.imp {X : Cx} {e : Expr} {t t' : TT} (h : PW X e t) (i : ∀ σ H Q, t' σ H Q → t σ H Q) : PW X e t' := ⟨fun w pins s σ H Q I q => h.run w pins s σ H Q I (i σ H Q q)⟩
theorem PA.imp {X : Cx} {e : List Expr} {t t' : TA} (h : PA X e t) (i : ∀ σ H Q, t' σ H Q → t σ H Q) : PA X e t' := ⟨fun w pins s σ H Q I q => h.run w pins s σ H Q I (i σ H Q q)⟩

section
variable {T : Fx} {W : WX} {aS : Option Addr} {H H' : Hp} {σ : L2.St} {r : En} {S S' : Sg} {md : Md} {Q Q' : VK}
theorem MdOk.ext (x : Ext aS H H') {H0 : Hp} {v : V} {d : D} (h : MdOk T aS H0 H v d md) : MdOk T aS H0 H' v d md := by
  cases md with
  | val => exact Rep.ext x h
  | b1 => exact B1.ext x h
  | bor => exact Bor.ext x h
  | f1 => obtain ⟨F, h, n⟩ := h; exact ⟨F, h.ext x, n⟩
  | f2 => obtain ⟨F, h, n⟩ := h; exact ⟨F, h.ext x, n⟩
theorem MdOk.bor (m : Amb T aS H' S) {v : V} {d : D} (h : MdOk T aS H H' v d md) : Bor T aS H' v d := by
  cases md with
  | val => exact Rep.bor m h
  | b1 => exact B1.bor m h
  | bor => exact h
  | f1 => obtain ⟨F, h, n⟩ := h; exact h.bor m
  | f2 => obtain ⟨F, h, n⟩ := h; exact h.bor m
theorem MdOk.b1 (m : Amb T aS H' S) {v : V} {d : D} (e : md ≠ .bor) (e2 : md ≠ .f2) (h : MdOk T aS H H' v d md) : B1 T aS H' v d := by
  cases md with
  | val => exact Rep.b1 m h
  | b1 => exact h
  | bor => exact absurd rfl e
  | f1 => obtain ⟨F, h, n⟩ := h; exact h.b1
  | f2 => exact absurd rfl e2
theorem Post.imp (hQ : ∀ v H', Ext aS H H' → Q v H' → Q' v H') : ∀ {x : R D}, Post T W aS H σ md Q x → Post T W aS H σ md Q' x
  | .ok _ _, h => fun v H' x m k => hQ v H' x (h v H' x m k)
  | .exc _ _, h => h
  | .bad, h => h
/-- from a state a step on -/
theorem Post.from (x : Ext aS H H') : ∀ {y : R D}, (∀ d S', y = .ok d S' → ∀ v H2, Ext aS H H2 → Amb T aS H2 S' → MdOk T aS H' H2 v d md → MdOk T aS H H2 v d md) → Post T W aS H σ md Q y → Post T W aS H' σ md Q y
  | .ok _ _, i, h => fun v H2 z m k => h v H2 (x.trans z) m (i _ _ rfl v H2 (x.trans z) m k)
  | .exc _ _, _, h => fun H2 z m => h H2 (x.trans z) m
  | .bad, _, h => h
end
/-- all things in a row -/
def R.bind {α β : Type} : R α → (α → Sg → R β) → R β
  | .ok a s, f => f a s
  | .exc c s, _ => .exc c s
  | .bad, _ => .bad
@[simp] theorem R.bind_ok {α β : Type} (a : α) (s : Sg) (f : α → Sg → R β) : (R.ok a s).bind f = f a s := rfl
@[simp] theorem R.bind_exc {α β : Type} (c : Nat) (s : Sg) (f : α → Sg → R β) : (R.exc c s : R α).bind f = .exc c s := rfl
@[simp] theorem R.bind_bad {α β : Type} (f : α → Sg → R β) : (R.bad : R α).bind f = .bad := rfl

/-- weaken the mode: what is new, or a value, may be read -/
theorem DE.bor {X : Cx} {T : Fx} {W : WX} {md : Md} {e : Expr} {m : M} (h : DE X T W md e m) : DE X T W .bor e m := by
  refine PE.imp h fun σ H Q ⟨r, aS, S, E, p⟩ => ⟨r, aS, S, E, ?_⟩
  cases q : m r S with
  | ok d S' =>
    rw [q] at p
    exact fun v H' x a k => p v H' x a (MdOk.bor a k)
  | exc c S' => rw [q] at p; exact p
  | bad => rw [q] at p; exact p

theorem DE.b1 {X : Cx} {T : Fx} {W : WX} {md : Md} {e : Expr} {m : M} (h : DE X T W md e m) (e1 : md ≠ .bor := by decide) (e2 : md ≠ .f2 := by decide) : DE X T W .b1 e m := by
  refine PE.imp h fun σ H Q ⟨r, aS, S, E, p⟩ => ⟨r, aS, S, E, ?_⟩
  cases q : m r S with
  | ok d S' =>
    rw [q] at p
    exact fun v H' x a k => p v H' x a (MdOk.b1 a e1 e2 k)
  | exc c S' => rw [q] at p; exact p
  | bad => rw [q] at p; exact p

/-! ### names, constants -/
section
variable {X : Cx} {T : Fx} {W : WX}
def dVar (j : Nat) : M := fun r s => match r[j]? with
  | some (some (.val d)) => .ok d s
  | _ => .bad
/-- read, also of one's own -/
def dVarB (j : Nat) : M := fun r s => match r[j]? with
  | some (some (.val d)) => .ok d s
  | some (some (.o1 d)) => .ok d s
  | some (some (.o2 d)) => .ok d s
  | _ => .bad
def dC (d : D) : M := fun _ s => .ok d s
theorem de_var (j : Nat) {x : Str} {pos : Pos} (hN : X.N[j]? = some x := by rfl) (hv : Vis X.env.scope x := by first | exact Or.inl rfl | exact Or.inr (Or.inl rfl) | exact Or.inr (Or.inr rfl)) (hd : (x == ("__debug__" : Str)) = false := by decide)
    (hcd : (x == ("__classdict__" : Str)) = false := by decide) : DE X T W .val (.Name x pos) (dVar j) := by
  refine PE.imp (pe_var hN hv hd hcd) fun σ H Q ⟨r, aS, S, E, p⟩ => ?_
  unfold dVar at p
  split at p
  · rename_i d q
    obtain ⟨v, h1, h2⟩ := E.get q
    exact ⟨v, h1, p v H Ext.refl E.amb h2⟩
  · exact p.elim
theorem de_varB (j : Nat) {x : Str} {pos : Pos} (hN : X.N[j]? = some x := by rfl) (hv : Vis X.env.scope x := by first | exact Or.inl rfl | exact Or.inr (Or.inl rfl) | exact Or.inr (Or.inr rfl)) (hd : (x == ("__debug__" : Str)) = false := by decide)
    (hcd : (x == ("__classdict__" : Str)) = false := by decide) : DE X T W .bor (.Name x pos) (dVarB j) := by
  refine PE.imp (pe_var hN hv hd hcd) fun σ H Q ⟨r, aS, S, E, p⟩ => ?_
  unfold dVarB at p
  split at p
  · rename_i d q
    obtain ⟨v, h1, h2⟩ := E.getB q (.inl rfl)
    exact ⟨v, h1, p v H Ext.refl E.amb h2⟩
  · rename_i d q
    obtain ⟨v, h1, h2⟩ := E.getB q (.inr (.inl rfl))
    exact ⟨v, h1, p v H Ext.refl E.amb h2⟩
  · rename_i d q
    obtain ⟨v, h1, h2⟩ := E.getB q (.inr (.inr rfl))
    exact ⟨v, h1, p v H Ext.refl E.amb h2⟩
  · exact p.elim
/-- read, also of one's own, of values -/
def dVar1 (j : Nat) : M := fun r s => match r[j]? with
  | some (some (.val d)) => .ok d s
  | some (some (.o1 d)) => .ok d s
  | _ => .bad
theorem de_var1 (j : Nat) {x : Str} {pos : Pos} (hN : X.N[j]? = some x := by rfl) (hv : Vis X.env.scope x := by first | exact Or.inl rfl | exact Or.inr (Or.inl rfl) | exact Or.inr (Or.inr rfl)) (hd : (x == ("__debug__" : Str)) = false := by decide)
    (hcd : (x == ("__classdict__" : Str)) = false := by decide) : DE X T W .b1 (.Name x pos) (dVar1 j) := by
  refine PE.imp (pe_var hN hv hd hcd) fun σ H Q ⟨r, aS, S, E, p⟩ => ?_
  obtain ⟨F, h⟩ := id E
  unfold dVar1 at p
  split at p
  · rename_i d q
    obtain ⟨v, h1, h2⟩ := E.get q
    exact ⟨v, h1, p v H Ext.refl E.amb (Rep.b1 E.amb h2)⟩
  · rename_i d q
    obtain ⟨v, h1, h2⟩ := h.sl j _ q
    exact ⟨v, h1, p v H Ext.refl E.amb (Ow1.b1 h2)⟩
  · exact p.elim
theorem de_const {e : Expr} {v : V} {d : D} (h : PE X e (tC v)) (hr : ∀ H, Rep T H v d) : DE X T W .val e (dC d) :=
  PE.imp h fun σ H Q ⟨r, aS, S, E, p⟩ => p v H Ext.refl E.amb (hr H)
theorem de_int {i j pos} : DE X T W .val (.Constant (.int i) j pos) (dC (.i i)) := de_const pe_int fun _ => .i _
theorem de_str {x j pos} : DE X T W .val (.Constant (.str x) j pos) (dC (.s x)) := de_const pe_str fun _ => .s _
theorem de_bool {x j pos} : DE X T W .val (.Constant (.bool x) j pos) (dC (.b x)) := de_const pe_bl fun _ => .b _
theorem de_none {j pos} : DE X T W .val (.Constant .none j pos) (dC .n) := de_const pe_non fun _ => .n
/-- a constant of the module -/
theorem de_glob {x : Str} {v : V} {d : D} {u : Value} {pos : Pos} (hg : Gl X x) (hm : X.mg x = some u) (r : RelV v u) (hr : ∀ H, Rep T H v d) (hd : (x == ("__debug__" : Str)) = false := by decide) : DE X T W .val (.Name x pos) (dC d) := de_const (pe_glob hg hm r hd) hr

/-! ### operators of two values -/
def dOp (f : D → D → Option D) (ma mb : M) : M := fun r s => (ma r s).bind fun a s1 => (mb r s1).bind fun b s2 => match f a b with
  | some d => .ok d s2
  | none => .bad
/-- how an operator acts on values as they are read -/
def OpD (T : Fx) (ro : R2) (f : D → D → Option D) (m1 m2 md : Md) : Prop := ∀ aS H S x y a b d (Q : VK), Amb T aS H S → RdOk T aS H x a m1 → RdOk T aS H y b m2 → f a b = some d →
  (∀ v H', Ext aS H H' → (∀ a, aS = some a → H' a = H a) → MdOk T aS H H' v d md → Q v H') → ro x y H Q
theorem MdOk.back {aS : Option Addr} {H H1 H' : Hp} {v : V} {d : D} {md : Md} (x : Ext aS H H1) (hm : ∀ a, aS = some a → H1 a ≠ none) (h : MdOk T aS H1 H' v d md) : MdOk T aS H H' v d md := by
  cases md with
  | val => exact h
  | b1 => exact h
  | bor => exact h
  | f1 => obtain ⟨F, h, n⟩ := h; exact ⟨F, h, fun b hb => x.un (n b hb) hm⟩
  | f2 => obtain ⟨F, h, n⟩ := h; exact ⟨F, h, fun b hb => x.un (n b hb) hm⟩
theorem Amb.keep {aS : Option Addr} {H H' : Hp} {S : Sg} (m : Amb T aS H S) (x : Ext aS H H') (e : ∀ a, aS = some a → H' a = H a) : Amb T aS H' S := fun a q => by
  obtain ⟨n, vs, h1, h2⟩ := m a q
  exact ⟨n, vs, by rw [e a q]; exact h1, Reps.ext x h2⟩
/-- two readings, one behind the other -/
theorem tE_two {ta tb : M} {f : D → D → Option D} {m1 m2 md : Md} {ro : R2} (ho : OpD T ro f m1 m2 md) (hm1 : m1.rd = true) (hm2 : m2.rd = true) : ∀ σ H Q, tE T W md (dOp f ta tb) σ H Q → tOp ro (tE T W m1 ta) (tE T W m2 tb) σ H Q := by
  intro σ H Q ⟨r, aS, S, E, p⟩
  refine ⟨r, aS, S, E, ?_⟩
  unfold dOp at p
  cases qa : ta r S with
  | bad => rw [qa] at p; exact p
  | exc c S1 => rw [qa] at p; exact p
  | ok a S1 =>
    rw [qa] at p
    simp only [R.bind_ok] at p
    refine fun x H1 x1 n1 k1 => ⟨r, aS, S1, E.ext x1 n1, ?_⟩
    cases qb : tb r S1 with
    | bad => rw [qb] at p; exact p
    | exc c S2 => rw [qb] at p; exact fun H2 x2 n2 => p H2 (x1.trans x2) n2
    | ok b S2 =>
      rw [qb] at p
      simp only [R.bind_ok] at p
      refine fun y H2 x2 n2 k2 => ?_
      cases qf : f a b with
      | none => rw [qf] at p; exact p.elim
      | some d =>
        rw [qf] at p
        refine ho aS H2 S2 x y a b d Q n2 (RdOk.ext x2 (k1.rd hm1)) (k2.rd hm2) qf fun v H' x3 e3 k3 => ?_
        exact p v H' ((x1.trans x2).trans x3) (n2.keep x3 e3) (k3.back (x1.trans x2) fun a q => n2.ne a q)
theorem de_op {op : Operator} {a b : Expr} {ma mb : M} {f : D → D → Option D} {m1 m2 md : Md} {ro : R2} {pos : Pos} (hr : OpR X (binaryOp op) ro) (ho : OpD T ro f m1 m2 md) (ha : DE X T W m1 a ma) (hb : DE X T W m2 b mb) (h1 : m1.rd = true := by rfl) (h2 : m2.rd = true := by rfl) : DE X T W md (.BinOp a op b pos) (dOp f ma mb) :=
  PE.imp (pe_op hr ha hb) (tE_two ho h1 h2)
theorem de_cmp {op : CmpOp} {a b : Expr} {ma mb : M} {f : D → D → Option D} {m1 m2 md : Md} {ro : R2} {pos : Pos} (hr : OpR X (compareOp op) ro) (ho : OpD T ro f m1 m2 md) (ha : DE X T W m1 a ma) (hb : DE X T W m2 b mb) (hm : behindInMarks op b = false) (h1 : m1.rd = true := by rfl) (h2 : m2.rd = true := by rfl) : DE X T W md (.Compare a [op] [b] pos) (dOp f ma mb) :=
  PE.imp (pe_cmpR hr ha hb hm) (tE_two ho h1 h2)
theorem de_ix {a b : Expr} {ma mb : M} {f : D → D → Option D} {m1 m2 md : Md} {ro : R2} {pos : Pos} (hr : IxR X ro) (ho : OpD T ro f m1 m2 md) (ha : DE X T W m1 a ma) (hb : DE X T W m2 b mb) (hs : PlainIx b) (h1 : m1.rd = true := by rfl) (h2 : m2.rd = true := by rfl) : DE X T W md (.Subscript a b pos) (dOp f ma mb) :=
  PE.imp (pe_ix hr ha hb hs) (tE_two ho h1 h2)
end
end DL

/-! DL3: freezing, argument lists, displays, calls of built-ins, tests, slices. -/
namespace DL
open PySem PySem.Spec PyProof.Rows L2

/-! ### freezing -/
/-- what never changes is as it was -/
def Stb (H H' : Hp) : Prop := ∀ b o, H b = some o → ((∃ xs, o = HO.tup xs) ∨ ∃ ob u, o = HO.frz ob u) → H' b = some o
theorem Ext.stb {aS : Option Addr} {H H' : Hp} (x : Ext aS H H') : Stb H H' := fun b o e c => x b o e fun ⟨_, z⟩ => by
  rcases c with ⟨_, rfl⟩ | ⟨_, _, rfl⟩ <;> cases z
theorem Stb.trans {H H1 H2 : Hp} (x : Stb H H1) (y : Stb H1 H2) : Stb H H2 := fun b o e c => y b o (x b o e c) c
section
variable {T : Fx} {aS : Option Addr} {H H' : Hp}
theorem sqT_stb (x : Stb H H') {a : Addr} {vs : List V} (h : SqT T.K H a vs) : SqT T.K H' a vs := by
  rcases h with (h | ⟨o, h⟩) | h
  · exact .inl (.inl (x _ _ h (.inl ⟨_, rfl⟩)))
  · exact .inl (.inr ⟨o, x _ _ h (.inr ⟨_, _, rfl⟩)⟩)
  · exact .inr h
theorem fzL_stb (x : Stb H H') {a : Addr} {vs : List V} (h : FzL H a vs) : FzL H' a vs := by
  obtain ⟨o, h⟩ := h
  exact ⟨o, x _ _ h (.inr ⟨_, _, rfl⟩)⟩
theorem fzK_stb (x : Stb H H') {a : Addr} {vs : List V} (h : FzK T.K H a vs) : FzK T.K H' a vs := by
  rcases h with ⟨o, h⟩ | h
  · exact .inl ⟨o, x _ _ h (.inr ⟨_, _, rfl⟩)⟩
  · exact .inr h
theorem fzD_stb (x : Stb H H') {a : Addr} {ks vs : List V} {dk : List D} (h : FzD T H a ks vs dk) : FzD T H' a ks vs dk := by
  obtain ⟨n, o, h, q⟩ := h
  exact ⟨n, o, x _ _ h (.inr ⟨_, _, rfl⟩), q⟩
theorem fzX_stb (x : Stb H H') {a : Addr} {c : Nat} (h : FzX T H a c) : FzX T H' a c := by
  obtain ⟨o, h, q⟩ := h
  exact ⟨o, x _ _ h (.inr ⟨_, _, rfl⟩), q⟩
theorem Rep.stb (x : Stb H H') {v : V} {d : D} (h : Rep T H v d) : Rep T H' v d := Rp.imp (fun _ _ => sqT_stb x) (fun _ _ => fzL_stb x) (fun _ _ => fzK_stb x) (fun _ _ _ _ => fzD_stb x) (fun _ _ => fzX_stb x) h
theorem Reps.stb (x : Stb H H') {v : List V} {d : List D} (h : Reps T H v d) : Reps T H' v d := Rps.imp (fun _ _ => sqT_stb x) (fun _ _ => fzL_stb x) (fun _ _ => fzK_stb x) (fun _ _ _ _ => fzD_stb x) (fun _ _ => fzX_stb x) h
end

/-- frozen: only what stood at F has changed, and can't change any more -/
structure Frz (F : List Addr) (H H' : Hp) : Prop where
  out : ∀ b, b ∉ F → H' b = H b
  stb : Stb H H'
  frz : ∀ b ∈ F, ∃ o u, H' b = some (.frz o u)
theorem Frz.nil {H : Hp} : Frz [] H H := ⟨fun _ _ => rfl, fun _ _ e _ => e, fun b hb => absurd hb (by simp)⟩
section
variable {X : Cx} {T : Fx} {pins : List (Addr × Obj)} {σ : L2.St} {H : Hp} {s : Shared} {aS : Option Addr}
theorem frz_one (I : Inv X pins σ H s) {v : V} {d : D} {F : List Addr} (h : Ow1 T aS H v d F) : ∃ H', Inv X pins σ H' s ∧ Frz F H H' ∧ Rep T H' v d := by
  have stb : ∀ {a : Addr} {o u : HO}, H a = some o → Mut (some o) → Stb H (upd H a u) := fun {a o u} ha mu b w e c => by
    have hb : b ≠ a := by
      rintro rfl
      rw [ha] at e; cases e
      rcases c with ⟨_, rfl⟩ | ⟨_, _, rfl⟩ <;> exact mu
    rw [upd_ne hb]; exact e
  cases d with
  | l ds =>
    obtain ⟨a, vs, rfl, rfl, n, h, r⟩ := h
    obtain ⟨z, its, k, rv, e⟩ := I.hok a _ h
    have I' := I.write (x := a) (e := a) (o := .frz _ (.lst vs)) (t' := s.toks) (h' := s.heap) (by rw [h]; trivial) (.inl rfl) (fun _ _ _ q => q) ⟨_, e⟩ ⟨e, z, its, k, rv, e⟩
    have st := stb (u := .frz { cls := .type "list", data := .seq its.toArray k } (.lst vs)) h trivial
    refine ⟨_, I', ⟨fun b hb => upd_ne (by simpa using hb), st, fun b hb => ?_⟩, ?_⟩
    · have e : b = a := by simpa using hb
      subst e
      exact ⟨_, _, upd_same⟩
    · exact .l ⟨_, upd_same⟩ (Reps.stb st r)
  | m dk dv =>
    obtain ⟨a, ks, vs, rfl, rfl, ⟨na, o, h, q⟩, r1, r2⟩ := h
    obtain ⟨e, _, _⟩ := I.hok a _ h
    have e : s.heap.get? a = some o := e
    have I' := I.write (x := a) (e := a) (o := .frz o (.own a)) (t' := s.toks) (h' := s.heap) (by rw [h]; trivial) (.inl rfl) (fun _ _ _ q => q) ⟨_, e⟩ ⟨e, o, e⟩
    have st := stb (u := .frz o (.own a)) h trivial
    refine ⟨_, I', ⟨fun b hb => upd_ne (by simpa using hb), st, fun b hb => ?_⟩, ?_⟩
    · have e : b = a := by simpa using hb
      subst e
      exact ⟨_, _, upd_same⟩
    · exact .m ⟨na, o, upd_same, q⟩ (Reps.stb st r1) (Reps.stb st r2)
  | n => obtain ⟨rfl, r⟩ := h; exact ⟨H, I, .nil, r⟩
  | b _ => obtain ⟨rfl, r⟩ := h; exact ⟨H, I, .nil, r⟩
  | i _ => obtain ⟨rfl, r⟩ := h; exact ⟨H, I, .nil, r⟩
  | s _ => obtain ⟨rfl, r⟩ := h; exact ⟨H, I, .nil, r⟩
  | t _ => obtain ⟨rfl, r⟩ := h; exact ⟨H, I, .nil, r⟩
  | x _ => obtain ⟨rfl, r⟩ := h; exact ⟨H, I, .nil, r⟩
  | k _ => obtain ⟨rfl, r⟩ := h; exact ⟨H, I, .nil, r⟩
/-- what is one's own but not at F stays so -/
theorem Ow1.frz {F : List Addr} {H' : Hp} (f : Frz F H H') {v : V} {d : D} {G : List Addr} (h : Ow1 T aS H v d G) (n : ∀ b ∈ G, b ∉ F) : Ow1 T aS H' v d G := by
  cases d with
  | l ds =>
    obtain ⟨a, vs, rfl, rfl, na, h, r⟩ := h
    exact ⟨a, vs, rfl, rfl, na, by rw [f.out a (n a (by simp))]; exact h, Reps.stb f.stb r⟩
  | m dk dv =>
    obtain ⟨a, ks, vs, rfl, rfl, ⟨na, o, h, q⟩, r1, r2⟩ := h
    exact ⟨a, ks, vs, rfl, rfl, ⟨na, o, by rw [f.out a (n a (by simp))]; exact h, q⟩, Reps.stb f.stb r1, Reps.stb f.stb r2⟩
  | n => exact ⟨h.1, Rep.stb f.stb h.2⟩
  | b _ => exact ⟨h.1, Rep.stb f.stb h.2⟩
  | i _ => exact ⟨h.1, Rep.stb f.stb h.2⟩
  | s _ => exact ⟨h.1, Rep.stb f.stb h.2⟩
  | t _ => exact ⟨h.1, Rep.stb f.stb h.2⟩
  | x _ => exact ⟨h.1, Rep.stb f.stb h.2⟩
  | k _ => exact ⟨h.1, Rep.stb f.stb h.2⟩
theorem Ow1s.frz {F : List Addr} {H' : Hp} (f : Frz F H H') {v : List V} {d : List D} {G : List Addr} (h : Ow1s T aS H v d G) : (∀ b ∈ G, b ∉ F) → Ow1s T aS H' v d G := by
  induction h with
  | nil => exact fun _ => .nil
  | cons h _ k ih => exact fun n => .cons (h.frz f fun b hb => n b (List.mem_append_left _ hb)) (ih fun b hb => n b (List.mem_append_right _ hb)) k
theorem Frz.comp {F G : List Addr} {H1 H2 : Hp} (f : Frz F H H1) (g : Frz G H1 H2) : Frz (F ++ G) H H2 :=
  ⟨fun b hb => by rw [g.out b fun z => hb (List.mem_append_right _ z), f.out b fun z => hb (List.mem_append_left _ z)], f.stb.trans g.stb, fun b hb => by
    rcases List.mem_append.mp hb with hb | hb
    · obtain ⟨o, u, e⟩ := f.frz b hb
      exact ⟨o, u, g.stb b _ e (.inr ⟨_, _, rfl⟩)⟩
    · exact g.frz b hb⟩
theorem frz_many : ∀ {ds : List D} {H : Hp} {vs : List V} {F : List Addr}, Inv X pins σ H s → Ow1s T aS H vs ds F → ∃ H', Inv X pins σ H' s ∧ Frz F H H' ∧ Reps T H' vs ds
  | [], H, _, _, I, h => by cases h; exact ⟨H, I, .nil, .nil⟩
  | d :: ds, H, _, _, I, h => by
    cases h with
    | cons h hs n =>
      obtain ⟨H1, I1, f1, r1⟩ := frz_one I h
      obtain ⟨H2, I2, f2, r2⟩ := frz_many I1 (hs.frz f1 fun b hb z => n b z hb)
      exact ⟨H2, I2, f1.comp f2, .cons (Rep.stb f2.stb r1) r2⟩
theorem frz_two (I : Inv X pins σ H s) {v : V} {d : D} {F : List Addr} (h : Ow2 T aS H v d F) : ∃ H', Inv X pins σ H' s ∧ Frz F H H' ∧ Rep T H' v d := by
  cases d with
  | l ds =>
    obtain ⟨a, vs, G, rfl, rfl, nG, na, h, hs⟩ := h
    obtain ⟨H1, I1, f1, r1⟩ := frz_many I hs
    have h1 : H1 a = some (.lst vs) := by rw [f1.out a nG]; exact h
    obtain ⟨H2, I2, f2, r2⟩ := frz_one (T := T) (aS := aS) (d := .l ds) I1 ⟨a, vs, rfl, rfl, na, h1, r1⟩
    refine ⟨H2, I2, ?_, r2⟩
    have f := f1.comp f2
    exact ⟨fun b hb => f.out b fun z => hb ((List.mem_append.mp z).elim (List.mem_cons_of_mem _) fun q => by rw [List.mem_singleton.mp q]; exact List.mem_cons_self), f.stb, fun b hb => f.frz b ((List.mem_cons.mp hb).elim (fun e => List.mem_append_right _ (by rw [e]; exact List.mem_cons_self)) (List.mem_append_left _))⟩
  | m dk dv =>
    obtain ⟨a, ks, vs, G, rfl, rfl, nG, ⟨na, o, h, q⟩, r, hs⟩ := h
    obtain ⟨H1, I1, f1, r1⟩ := frz_many I hs
    have h1 : H1 a = some (.ext (rawAt a o)) := by rw [f1.out a nG]; exact h
    obtain ⟨H2, I2, f2, r2⟩ := frz_one (T := T) (aS := aS) (d := .m dk dv) I1 ⟨a, ks, vs, rfl, rfl, ⟨na, o, h1, q⟩, Reps.stb f1.stb r, r1⟩
    refine ⟨H2, I2, ?_, r2⟩
    have f := f1.comp f2
    exact ⟨fun b hb => f.out b fun z => hb ((List.mem_append.mp z).elim (List.mem_cons_of_mem _) fun q => by rw [List.mem_singleton.mp q]; exact List.mem_cons_self), f.stb, fun b hb => f.frz b ((List.mem_cons.mp hb).elim (fun e => List.mem_append_right _ (by rw [e]; exact List.mem_cons_self)) (List.mem_append_left _))⟩
  | n => obtain ⟨rfl, r⟩ := h; exact ⟨H, I, .nil, r⟩
  | b _ => obtain ⟨rfl, r⟩ := h; exact ⟨H, I, .nil, r⟩
  | i _ => obtain ⟨rfl, r⟩ := h; exact ⟨H, I, .nil, r⟩
  | s _ => obtain ⟨rfl, r⟩ := h; exact ⟨H, I, .nil, r⟩
  | t _ => obtain ⟨rfl, r⟩ := h; exact ⟨H, I, .nil, r⟩
  | x _ => obtain ⟨rfl, r⟩ := h; exact ⟨H, I, .nil, r⟩
  | k _ => obtain ⟨rfl, r⟩ := h; exact ⟨H, I, .nil, r⟩
/-- new things frozen: nothing that was tracked ahead has changed -/
theorem Frz.ext {F : List Addr} {H0 H1 H2 : Hp} (x : Ext aS H0 H1) (f : Frz F H1 H2) (n : ∀ b ∈ F, H0 b = none) : Ext aS H0 H2 := fun b o e c => by
  rw [f.out b fun z => by rw [n b z] at e; cases e]
  exact x b o e c
theorem Frz.amb {F : List Addr} {H1 H2 : Hp} {S : Sg} (f : Frz F H1 H2) (m : Amb T aS H1 S) (n : ∀ b ∈ F, aS ≠ some b) : Amb T aS H2 S := fun a e => by
  obtain ⟨k, vs, h, r⟩ := m a e
  exact ⟨k, vs, by rw [f.out a fun z => n a z e]; exact h, Reps.stb f.stb r⟩
end
/-- what is new becomes a value -/
theorem DE.frz {X : Cx} {T : Fx} {W : WX} {e : Expr} {m : M} (h : DE X T W .f1 e m) : DE X T W .val e m := by
  refine ⟨fun pins s σ H Q I ⟨r, aS, S, E, p⟩ => ?_⟩
  refine thn (h.run pins s σ H (fun v H1 => ∃ H2, (∀ s', Inv X pins σ H1 s' → ∃ H2, Inv X pins σ H2 s' ∧ Q v H2) ∨ (H2 = H1 ∧ Q v H2)) I ⟨r, aS, S, E, ?_⟩) fun u s' ⟨v, H1, I1, r1, H2, q⟩ => ?_
  · cases q : m r S with
    | ok d S' =>
      rw [q] at p
      refine fun v H1 x a ⟨F, k, n⟩ => ⟨H1, .inl fun s' I' => ?_⟩
      obtain ⟨H2, I2, f, rr⟩ := frz_one I' k
      exact ⟨H2, I2, p v H2 (f.ext x n) (f.amb a fun b hb => k.apart a b hb) rr⟩
    | exc c S' => rw [q] at p; exact p
    | bad => rw [q] at p; exact p
  · rcases q with q | ⟨rfl, q⟩
    · obtain ⟨H3, I3, q3⟩ := q s' I1
      exact ⟨v, H3, I3, r1, q3⟩
    · exact ⟨v, _, I1, r1, q⟩
theorem Ow2.apart {T : Fx} {aS : Option Addr} {H : Hp} {v : V} {d : D} {F : List Addr} (h : Ow2 T aS H v d F) {S : Sg} (m : Amb T aS H S) : ∀ b ∈ F, aS ≠ some b := by
  have many : ∀ {vs : List V} {ds : List D} {G : List Addr}, Ow1s T aS H vs ds G → ∀ b ∈ G, aS ≠ some b := fun {vs ds G} hs => by
    induction hs with
    | nil => exact fun b hb => absurd hb (by simp)
    | cons h _ _ ih =>
      intro b hb
      rcases List.mem_append.mp hb with hb | hb
      · exact h.apart m b hb
      · exact ih b hb
  cases d with
  | l ds =>
    obtain ⟨a, vs, G, rfl, rfl, nG, na, h, hs⟩ := h
    intro b hb
    rcases List.mem_cons.mp hb with rfl | hb
    · exact na
    · exact many hs b hb
  | m dk dv =>
    obtain ⟨a, ks, vs, G, rfl, rfl, nG, ⟨na, o, h, q⟩, r, hs⟩ := h
    intro b hb
    rcases List.mem_cons.mp hb with rfl | hb
    · intro e
      obtain ⟨_, _, h', _⟩ := m _ e
      rw [h] at h'; cases h'
    · exact many hs b hb
  | n => obtain ⟨rfl, _⟩ := h; exact fun b hb => absurd hb (by simp)
  | b _ => obtain ⟨rfl, _⟩ := h; exact fun b hb => absurd hb (by simp)
  | i _ => obtain ⟨rfl, _⟩ := h; exact fun b hb => absurd hb (by simp)
  | s _ => obtain ⟨rfl, _⟩ := h; exact fun b hb => absurd hb (by simp)
  | t _ => obtain ⟨rfl, _⟩ := h; exact fun b hb => absurd hb (by simp)
  | x _ => obtain ⟨rfl, _⟩ := h; exact fun b hb => absurd hb (by simp)
  | k _ => obtain ⟨rfl, _⟩ := h; exact fun b hb => absurd hb (by simp)

/-! ### argument lists -/
section
variable {X : Cx} {T : Fx} {W : WX}
/-- things as they are read, all in one way -/
def RdOks (T : Fx) (aS : Option Addr) (H : Hp) (md : Md) : List V → List D → Prop
  | [], [] => True
  | v :: vs, d :: ds => RdOk T aS H v d md ∧ RdOks T aS H md vs ds
  | _, _ => False
theorem RdOks.ext {aS : Option Addr} {H H' : Hp} (x : Ext aS H H') {md : Md} : ∀ {vs : List V} {ds : List D}, RdOks T aS H md vs ds → RdOks T aS H' md vs ds
  | [], [], _ => trivial
  | _ :: _, _ :: _, h => ⟨h.1.ext x, RdOks.ext x h.2⟩
  | [], _ :: _, h => h.elim
  | _ :: _, [], h => h.elim
theorem RdOks.reps {aS : Option Addr} {H : Hp} : ∀ {vs : List V} {ds : List D}, RdOks T aS H .val vs ds → Reps T H vs ds
  | [], [], _ => .nil
  | _ :: _, _ :: _, h => .cons h.1 (RdOks.reps h.2)
  | [], _ :: _, h => h.elim
  | _ :: _, [], h => h.elim
theorem RdOks.length {aS : Option Addr} {H : Hp} {md : Md} : ∀ {vs : List V} {ds : List D}, RdOks T aS H md vs ds → vs.length = ds.length
  | [], [], _ => rfl
  | _ :: _, _ :: _, h => congrArg (· + 1) (RdOks.length h.2)
  | [], _ :: _, h => h.elim
  | _ :: _, [], h => h.elim
def PostA (T : Fx) (W : WX) (aS : Option Addr) (H : Hp) (σ : L2.St) (md : Md) (Q : List V → Hp → Prop) : R (List D) → Prop
  | .ok ds S' => ∀ vs H', Ext aS H H' → Amb T aS H' S' → RdOks T aS H' md vs ds → Q vs H'
  | .exc c S' => ∀ H', Ext aS H H' → Amb T aS H' S' → W (.ref (T.cl c)) none σ H'
  | .bad => False
def tA (T : Fx) (W : WX) (md : Md) (m : Ml) : TA := fun σ H Q => ∃ r aS S, ER T aS H σ r S ∧ PostA T W aS H σ md Q (m r S)
def DA (X : Cx) (T : Fx) (W : WX) (md : Md) (es : List Expr) (m : Ml) : Prop := PA X es (tA T W md m)
def dNil : Ml := fun _ s => .ok [] s
def dCons (m : M) (ms : Ml) : Ml := fun r s => (m r s).bind fun d s1 => (ms r s1).bind fun ds s2 => .ok (d :: ds) s2
theorem da_nil {md : Md} : DA X T W md [] dNil := PA.imp pa_nil fun σ H Q ⟨r, aS, S, E, p⟩ => p [] H Ext.refl E.amb trivial
theorem da_cons {md : Md} {e : Expr} {es : List Expr} {m : M} {ms : Ml} (h : DE X T W md e m) (hs : DA X T W md es ms) (hst : starEach (e :: es) X.env = (false, eval e X.env) :: starEach es X.env := by rfl) (hm : md.rd = true := by rfl) : DA X T W md (e :: es) (dCons m ms) := by
  refine PA.imp (pa_cons h hs hst) fun σ H Q ⟨r, aS, S, E, p⟩ => ⟨r, aS, S, E, ?_⟩
  unfold dCons at p
  cases q : m r S with
  | bad => rw [q] at p; exact p
  | exc c S1 => rw [q] at p; exact p
  | ok d S1 =>
    rw [q] at p
    simp only [R.bind_ok] at p
    refine fun v H1 x1 m1 k1 => ⟨r, aS, S1, E.ext x1 m1, ?_⟩
    cases q2 : ms r S1 with
    | bad => rw [q2] at p; exact p
    | exc c S2 => rw [q2] at p; exact fun H2 x2 m2 => p H2 (x1.trans x2) m2
    | ok ds S2 =>
      rw [q2] at p
      simp only [R.bind_ok] at p
      exact fun vs H2 x2 m2 k2 => p (v :: vs) H2 (x1.trans x2) m2 ⟨RdOk.ext x2 (k1.rd hm), k2⟩

/-! ### displays -/
def dTup (ms : Ml) : M := fun r s => (ms r s).bind fun ds s1 => if ds.length ≤ sizeLine then .ok (.t ds) s1 else .bad
def dLst (ms : Ml) : M := fun r s => (ms r s).bind fun ds s1 => if ds.length ≤ sizeLine then .ok (.l ds) s1 else .bad
theorem Amb.new {aS : Option Addr} {H : Hp} {S : Sg} (m : Amb T aS H S) {p : Addr} {o : HO} (h : H p = none) : Amb T aS (upd H p o) S :=
  m.keep (Ext.upd h) fun a e => by
    rw [upd_ne]; intro z; subst z; exact m.ne _ e h
theorem Amb.newNe {aS : Option Addr} {H : Hp} {S : Sg} (m : Amb T aS H S) {p : Addr} (h : H p = none) : aS ≠ some p := fun e => m.ne p e h
theorem de_tup {es : List Expr} {ms : Ml} {k : Nat} {pos : Pos} (h : DA X T W .val es ms) : DE X T W .val (.Tuple es k pos) (dTup ms) := by
  refine PE.imp (pe_tup h) fun σ H Q ⟨r, aS, S, E, p⟩ => ⟨r, aS, S, E, ?_⟩
  unfold dTup at p
  cases q : ms r S with
  | bad => rw [q] at p; exact p
  | exc c S1 => rw [q] at p; exact p
  | ok ds S1 =>
    rw [q] at p
    simp only [R.bind_ok] at p
    intro vs H1 x1 m1 k1
    have k1 : Reps T H1 vs ds := RdOks.reps k1
    split at p
    · rename_i hl
      refine ⟨by rw [k1.length]; exact hl, fun a ha => p _ _ (x1.trans (Ext.upd ha)) (m1.new ha) ?_⟩
      exact .t (.inl (.inl upd_same)) (Reps.ext (Ext.upd (aS := aS) ha) k1)
    · exact p.elim
theorem de_lst {es : List Expr} {ms : Ml} {pos : Pos} (h : DA X T W .val es ms) : DE X T W .f1 (.List es pos) (dLst ms) := by
  refine PE.imp (pe_lst h) fun σ H Q ⟨r, aS, S, E, p⟩ => ⟨r, aS, S, E, ?_⟩
  unfold dLst at p
  cases q : ms r S with
  | bad => rw [q] at p; exact p
  | exc c S1 => rw [q] at p; exact p
  | ok ds S1 =>
    rw [q] at p
    simp only [R.bind_ok] at p
    intro vs H1 x1 m1 k1
    have k1 : Reps T H1 vs ds := RdOks.reps k1
    split at p
    · rename_i hl
      refine ⟨by rw [k1.length]; exact hl, fun a ha => p _ _ (x1.trans (Ext.upd ha)) (m1.new ha) ⟨[a], ⟨a, vs, rfl, rfl, m1.newNe ha, upd_same, Reps.ext (Ext.upd (aS := aS) ha) k1⟩, fun b hb => ?_⟩⟩
      have e : b = a := by simpa using hb
      subst e
      exact x1.un ha m1.ne
    · exact p.elim

/-! ### calls of built-ins, by values -/
def dCall (f : List D → Option D) (ms : Ml) : M := fun r s => (ms r s).bind fun ds s1 => match f ds with
  | some d => .ok d s1
  | none => .bad
def CallD (T : Fx) (rc : List V → Hp → VK → Prop) (f : List D → Option D) (m1 md : Md) : Prop := ∀ aS H S xs ds d (Q : VK), Amb T aS H S → RdOks T aS H m1 xs ds → f ds = some d →
  (∀ v H', Ext aS H H' → (∀ a, aS = some a → H' a = H a) → MdOk T aS H H' v d md → Q v H') → rc xs H Q
theorem tA_call {ms : Ml} {f : List D → Option D} {m1 md : Md} {rc : List V → Hp → VK → Prop} (ho : CallD T rc f m1 md) : ∀ σ H Q, tE T W md (dCall f ms) σ H Q → tA T W m1 ms σ H (fun vs H1 => rc vs H1 Q) := by
  intro σ H Q ⟨r, aS, S, E, p⟩
  refine ⟨r, aS, S, E, ?_⟩
  unfold dCall at p
  cases q : ms r S with
  | bad => rw [q] at p; exact p
  | exc c S1 => rw [q] at p; exact p
  | ok ds S1 =>
    rw [q] at p
    simp only [R.bind_ok] at p
    intro vs H1 x1 n1 k1
    cases qf : f ds with
    | none => rw [qf] at p; exact p.elim
    | some d =>
      rw [qf] at p
      exact ho aS H1 S1 vs ds d Q n1 k1 qf fun v H' x2 e2 k2 => p v H' (x1.trans x2) (n1.keep x2 e2) (k2.back x1 n1.ne)
theorem de_callB {id : String} {rc : List V → Hp → VK → Prop} {f : List D → Option D} {m1 md : Md} {x : Str} {p pos : Pos} {e : Expr} {es : List Expr} {ms : Ml} (hc : CallR X (.builtin id) rc) (ho : CallD T rc f m1 md) (hg : Gl X x) (hm : X.mg x = none) (hv : bootBuiltins x = some (.builtin id)) (ha : DA X T W m1 (e :: es) ms) (hn : x ≠ "__name__" := by decide) (hdb : (x == ("__debug__" : Str)) = false := by decide)
    (he : starEach (e :: es) X.env = (false, eval e X.env) :: starEach es X.env := by rfl) (hpl : (backTo pos (starEach es X.env)).any (·.1) = false := by rfl) : DE X T W md (.Call (.Name x p) (e :: es) [] pos) (dCall f ms) :=
  PE.imp (pe_callB hc hg hm hv ha hn hdb he hpl) (tA_call ho)
theorem de_callTy {id : String} {rc : List V → Hp → VK → Prop} {f : List D → Option D} {m1 md : Md} {x : Str} {p pos : Pos} {e : Expr} {es : List Expr} {ms : Ml} (hc : CallR X (.type id) rc) (ho : CallD T rc f m1 md) (hg : Gl X x) (hm : X.mg x = none) (hv : bootBuiltins x = some (.type id)) (ha : DA X T W m1 (e :: es) ms) (hn : x ≠ "__name__" := by decide) (hdb : (x == ("__debug__" : Str)) = false := by decide)
    (he : starEach (e :: es) X.env = (false, eval e X.env) :: starEach es X.env := by rfl) (hpl : (backTo pos (starEach es X.env)).any (·.1) = false := by rfl) : DE X T W md (.Call (.Name x p) (e :: es) [] pos) (dCall f ms) :=
  PE.imp (pe_callTy hc hg hm hv ha hn hdb he hpl) (tA_call ho)
end
end DL

/-! DL4: tests, chains, and or not, conditional expressions. -/
namespace DL
open PySem PySem.Spec PyProof.Rows L2
section
variable {X : Cx} {T : Fx} {W : WX}
def PostT (T : Fx) (W : WX) (aS : Option Addr) (H : Hp) (σ : L2.St) (Q : Bool → Hp → Prop) : R Bool → Prop
  | .ok b S' => ∀ H', Ext aS H H' → Amb T aS H' S' → Q b H'
  | .exc c S' => ∀ H', Ext aS H H' → Amb T aS H' S' → W (.ref (T.cl c)) none σ H'
  | .bad => False
abbrev Mt := En → Sg → R Bool
def tT (T : Fx) (W : WX) (m : Mt) : TT := fun σ H Q => ∃ r aS S, ER T aS H σ r S ∧ PostT T W aS H σ Q (m r S)
def DT (X : Cx) (T : Fx) (W : WX) (e : Expr) (m : Mt) : Prop := PT X e (tT T W m)
def DW (X : Cx) (T : Fx) (W : WX) (e : Expr) (m : Mt) : Prop := PW X e (tT T W m)

/-- a value's truth -/
def truth : D → Option Bool
  | .n => some false
  | .b v => some v
  | .i v => some (v != 0)
  | .s v => if v.length ≤ sizeLine then some ((v.length : Int) != 0) else none
  | .t xs => some (!xs.isEmpty)
  | .l xs => some (!xs.isEmpty)
  | _ => none
theorem Rps.isEmpty {T' L Kl : Addr → List V → Prop} {Dc : Addr → List V → List V → List D → Prop} {Ex : Addr → Nat → Prop} {vs : List V} {ds : List D} (r : Rps T' L Kl Dc Ex vs ds) : vs.isEmpty = ds.isEmpty := by cases r <;> rfl
theorem truth_ok {aS : Option Addr} {H : Hp} {v : V} {d : D} {k : Bool} (hK : T.K = X.K) (r : Bor T aS H v d) (e : truth d = some k) : TruV X.K v H k := by
  rw [← hK]
  cases r with
  | n => cases e; rfl
  | b v => cases e; rfl
  | i v => cases e; rfl
  | s v =>
    have e : (if v.length ≤ sizeLine then some ((v.length : Int) != 0) else none) = some k := e
    by_cases h : v.length ≤ sizeLine
    · rw [if_pos h] at e; cases e; exact ⟨h, rfl⟩
    · rw [if_neg h] at e; cases e
  | t h q => cases e; exact .inr (.inl ⟨_, h, by rw [q.isEmpty]⟩)
  | l h q => cases e; exact .inl ⟨_, .inl h.1, by rw [q.isEmpty]⟩
  | m _ _ _ => cases e
  | x _ => cases e
  | k _ _ => cases e
/-- a test by its value's truth -/
def mTru (m : M) : Mt := fun r s => (m r s).bind fun d s1 => match truth d with
  | some k => .ok k s1
  | none => .bad
theorem tT_tru {m : M} (hK : T.K = X.K) : ∀ σ H Q, tT T W (mTru m) σ H Q → tE T W .bor m σ H (fun x H' => ∃ k, TruV X.K x H' k ∧ Q k H') := by
  intro σ H Q ⟨r, aS, S, E, p⟩
  refine ⟨r, aS, S, E, ?_⟩
  unfold mTru at p
  cases q : m r S with
  | bad => rw [q] at p; exact p
  | exc c S1 => rw [q] at p; exact p
  | ok d S1 =>
    rw [q] at p
    simp only [R.bind_ok] at p
    intro v H1 x1 m1 k1
    cases qt : truth d with
    | none => rw [qt] at p; exact p.elim
    | some k => rw [qt] at p; exact ⟨k, truth_ok hK k1 qt, p H1 x1 m1⟩
theorem dt_tru {e : Expr} {m : M} (h : DE X T W .bor e m) (hK : T.K = X.K := by rfl) (he : ∀ whole, isTrue e X.env whole = (do let v ← whole; standAt e.pos; holding [v] (truthy v)) := by intro _; rfl) : DT X T W e (mTru m) :=
  PT.imp (pt_truth h he) (tT_tru hK)
/-- the outcome of a comparison is a truth value -/
def mB (m : M) : Mt := fun r s => (m r s).bind fun d s1 => match d with
  | .b k => .ok k s1
  | _ => .bad
theorem tT_b {m : M} : ∀ σ H Q, tT T W (mB m) σ H Q → tE T W .val m σ H (fun x H' => ∃ k, x = .bl k ∧ Q k H') := by
  intro σ H Q ⟨r, aS, S, E, p⟩
  refine ⟨r, aS, S, E, ?_⟩
  unfold mB at p
  cases q : m r S with
  | bad => rw [q] at p; exact p
  | exc c S1 => rw [q] at p; exact p
  | ok d S1 =>
    rw [q] at p
    simp only [R.bind_ok] at p
    intro v H1 x1 m1 k1
    cases k1 with
    | b k => exact ⟨k, rfl, p H1 x1 m1⟩
    | n => exact p.elim
    | i _ => exact p.elim
    | s _ => exact p.elim
    | t _ _ => exact p.elim
    | l _ _ => exact p.elim
    | m _ _ _ => exact p.elim
    | x _ => exact p.elim
    | k _ _ => exact p.elim
theorem dt_cmp {op : CmpOp} {m1 m2 : Md} {a b : Expr} {ma mb : M} {f : D → D → Option D} {ro : R2} {pos : Pos} (hr : OpR X (compareOp op) ro) (ho : OpD T ro f m1 m2 .val) (ha : DE X T W m1 a ma) (hb : DE X T W m2 b mb) (hm : behindInMarks op b = false) (h1 : m1.rd = true := by rfl) (h2 : m2.rd = true := by rfl) : DT X T W (.Compare a [op] [b] pos) (mB (dOp f ma mb)) :=
  PT.imp (pt_cmpR hr ha hb hm) fun σ H Q h => tE_two ho h1 h2 _ _ _ (tT_b _ _ _ h)
/-- an expression that gives a truth value, as a test -/
theorem dt_val {e : Expr} {m : M} (h : DE X T W .val e m) (he : ∀ whole, isTrue e X.env whole = (do let v ← whole; standAt e.pos; holding [v] (truthy v)) := by intro _; rfl) : DT X T W e (mB m) :=
  PT.imp (pt_val h he) tT_b

/-! ### chains of two comparisons -/
def dChain (f g : D → D → Option D) (ma mb mc : M) : M := fun r s => (ma r s).bind fun a s1 => (mb r s1).bind fun b s2 => match f a b with
  | some (.b true) => (mc r s2).bind fun c s3 => (match g b c with
    | some d => .ok d s3
    | none => .bad)
  | some (.b false) => .ok (.b false) s2
  | _ => .bad
theorem tE_chain {f g : D → D → Option D} {ma mb mc : M} {ro ro' : R2} (ho : OpD T ro f .bor .bor .val) (ho' : OpD T ro' g .bor .bor .val) : ∀ σ H Q, tE T W .val (dChain f g ma mb mc) σ H Q → tChain ro ro' (tE T W .bor ma) (tE T W .bor mb) (tE T W .bor mc) σ H Q := by
  intro σ H Q ⟨r, aS, S, E, p⟩
  refine ⟨r, aS, S, E, ?_⟩
  unfold dChain at p
  cases qa : ma r S with
  | bad => rw [qa] at p; exact p
  | exc c S1 => rw [qa] at p; exact p
  | ok a S1 =>
    rw [qa] at p
    simp only [R.bind_ok] at p
    refine fun x H1 x1 m1 k1 => ⟨r, aS, S1, E.ext x1 m1, ?_⟩
    cases qb : mb r S1 with
    | bad => rw [qb] at p; exact p
    | exc c S2 => rw [qb] at p; exact fun H2 x2 m2 => p H2 (x1.trans x2) m2
    | ok b S2 =>
      rw [qb] at p
      simp only [R.bind_ok] at p
      refine fun y H2 x2 m2 k2 => ?_
      cases qf : f a b with
      | none => rw [qf] at p; exact p.elim
      | some d =>
        rw [qf] at p
        refine ho aS H2 S2 x y a b d _ m2 (Bor.ext x2 k1) k2 qf fun z H3 x3 e3 k3 => ?_
        have m3 := m2.keep x3 e3
        have X3 := (x1.trans x2).trans x3
        have k3 : Rep T H3 z d := k3
        cases k3 with
        | b k =>
          refine ⟨k, rfl, ?_⟩
          cases k with
          | false => exact p _ H3 X3 m3 (.b false)
          | true =>
            refine ⟨r, aS, S2, E.ext X3 m3, ?_⟩
            simp only at p
            cases qc : mc r S2 with
            | bad => rw [qc] at p; exact p
            | exc c S3 => rw [qc] at p; exact fun H4 x4 m4 => p H4 (X3.trans x4) m4
            | ok c S3 =>
              rw [qc] at p
              simp only [R.bind_ok] at p
              intro w H4 x4 m4 k4
              cases qg : g b c with
              | none => rw [qg] at p; exact p.elim
              | some e =>
                rw [qg] at p
                refine ho' aS H4 S3 y w b c e Q m4 (Bor.ext x4 (Bor.ext x3 k2)) k4 qg fun v H' x5 e5 k5 => ?_
                exact p v H' ((X3.trans x4).trans x5) (m4.keep x5 e5) k5
        | n => exact p.elim
        | i _ => exact p.elim
        | s _ => exact p.elim
        | t _ _ => exact p.elim
        | l _ _ => exact p.elim
        | m _ _ _ => exact p.elim
        | x _ => exact p.elim
        | k _ _ => exact p.elim
theorem de_chain {op op' : CmpOp} {a b c : Expr} {f g : D → D → Option D} {ma mb mc : M} {ro ro' : R2} {pos : Pos} (hr : OpR X (compareOp op) ro) (hr' : OpR X (compareOp op') ro') (ho : OpD T ro f .bor .bor .val) (ho' : OpD T ro' g .bor .bor .val) (ha : DE X T W .bor a ma) (hb : DE X T W .bor b mb) (hc : DE X T W .bor c mc)
    (hm : lastMarks [op, op'] [b, c] = false := by with_unfolding_all rfl) : DE X T W .val (.Compare a [op, op'] [b, c] pos) (dChain f g ma mb mc) := PE.imp (pe_chain hr hr' ha hb hc hm) (tE_chain ho ho')
theorem dt_chain {op op' : CmpOp} {a b c : Expr} {f g : D → D → Option D} {ma mb mc : M} {ro ro' : R2} {pos : Pos} (hr : OpR X (compareOp op) ro) (hr' : OpR X (compareOp op') ro') (ho : OpD T ro f .bor .bor .val) (ho' : OpD T ro' g .bor .bor .val) (ha : DE X T W .bor a ma) (hb : DE X T W .bor b mb) (hc : DE X T W .bor c mc)
    (hm : lastMarks [op, op'] [b, c] = false := by with_unfolding_all rfl) : DT X T W (.Compare a [op, op'] [b, c] pos) (mB (dChain f g ma mb mc)) := PT.imp (pt_chain hr hr' ha hb hc hm) fun σ H Q h => tE_chain ho ho' _ _ _ (tT_b _ _ _ h)

/-! ### not, and, or as tests -/
def mNot (m : Mt) : Mt := fun r s => (m r s).bind fun k s1 => .ok (!k) s1
def mAnd (a b : Mt) : Mt := fun r s => (a r s).bind fun k s1 => if k = true then b r s1 else .ok false s1
def mOr (a b : Mt) : Mt := fun r s => (a r s).bind fun k s1 => if k = true then .ok true s1 else b r s1
theorem dt_not {a : Expr} {m : Mt} {pos : Pos} (h : DT X T W a m) : DT X T W (.UnaryOp .Not a pos) (mNot m) := by
  refine PT.imp (pt_not h) fun σ H Q ⟨r, aS, S, E, p⟩ => ⟨r, aS, S, E, ?_⟩
  unfold mNot at p
  cases q : m r S with
  | bad => rw [q] at p; exact p
  | exc c S1 => rw [q] at p; exact p
  | ok k S1 => rw [q] at p; exact p
theorem dw_and1 {a : Expr} {m : Mt} {pos : Pos} (h : DT X T W a m) : DW X T W (.BoolOp .And [a] pos) m := pw_and1 h
theorem dw_or1 {a : Expr} {m : Mt} {pos : Pos} (h : DT X T W a m) : DW X T W (.BoolOp .Or [a] pos) m := pw_or1 h
theorem dw_and {a b : Expr} {rest : List Expr} {m n : Mt} {pos : Pos} (h : DT X T W a m) (h2 : DW X T W (.BoolOp .And (b :: rest) pos) n) : DW X T W (.BoolOp .And (a :: b :: rest) pos) (mAnd m n) := by
  refine PW.imp (pw_and h h2) fun σ H Q ⟨r, aS, S, E, p⟩ => ⟨r, aS, S, E, ?_⟩
  unfold mAnd at p
  cases q : m r S with
  | bad => rw [q] at p; exact p
  | exc c S1 => rw [q] at p; exact p
  | ok k S1 =>
    rw [q] at p
    simp only [R.bind_ok] at p
    intro H1 x1 m1
    cases k with
    | true =>
      rw [if_pos rfl] at p ⊢
      refine ⟨r, aS, S1, E.ext x1 m1, ?_⟩
      cases q2 : n r S1 with
      | bad => rw [q2] at p; exact p
      | exc c S2 => rw [q2] at p; exact fun H2 x2 m2 => p H2 (x1.trans x2) m2
      | ok k S2 => rw [q2] at p; exact fun H2 x2 m2 => p H2 (x1.trans x2) m2
    | false => rw [if_neg Bool.false_ne_true] at p ⊢; exact p H1 x1 m1
theorem dw_or {a b : Expr} {rest : List Expr} {m n : Mt} {pos : Pos} (h : DT X T W a m) (h2 : DW X T W (.BoolOp .Or (b :: rest) pos) n) : DW X T W (.BoolOp .Or (a :: b :: rest) pos) (mOr m n) := by
  refine PW.imp (pw_or h h2) fun σ H Q ⟨r, aS, S, E, p⟩ => ⟨r, aS, S, E, ?_⟩
  unfold mOr at p
  cases q : m r S with
  | bad => rw [q] at p; exact p
  | exc c S1 => rw [q] at p; exact p
  | ok k S1 =>
    rw [q] at p
    simp only [R.bind_ok] at p
    intro H1 x1 m1
    cases k with
    | false =>
      rw [if_neg Bool.false_ne_true] at p ⊢
      refine ⟨r, aS, S1, E.ext x1 m1, ?_⟩
      cases q2 : n r S1 with
      | bad => rw [q2] at p; exact p
      | exc c S2 => rw [q2] at p; exact fun H2 x2 m2 => p H2 (x1.trans x2) m2
      | ok k S2 => rw [q2] at p; exact fun H2 x2 m2 => p H2 (x1.trans x2) m2
    | true => rw [if_pos rfl] at p ⊢; exact p H1 x1 m1
theorem dt_bo {e : Expr} {m : Mt} (h : DW X T W e m) : DT X T W e m := PW.pt h

/-! ### and, or, not as values -/
def dAnd (a b : M) : M := fun r s => (a r s).bind fun d s1 => match truth d with
  | some true => b r s1
  | some false => .ok d s1
  | none => .bad
def dOr (a b : M) : M := fun r s => (a r s).bind fun d s1 => match truth d with
  | some true => .ok d s1
  | some false => b r s1
  | none => .bad
theorem Post.at {aS : Option Addr} {H H1 : Hp} {σ : L2.St} {Q : VK} {y : R D} (x : Ext aS H H1) (p : Post T W aS H σ .val Q y) : Post T W aS H1 σ .val Q y :=
  p.from x fun _ _ _ _ _ _ _ k => k
theorem de_one {a : Expr} {op : BoolOp} {m : M} {pos : Pos} (h : DE X T W .val a m) : DE X T W .val (.BoolOp op [a] pos) m := pe_one h
theorem de_and {a b : Expr} {rest : List Expr} {m n : M} {pos : Pos} (h : DE X T W .val a m) (h2 : DE X T W .val (.BoolOp .And (b :: rest) pos) n) (hK : T.K = X.K := by rfl) : DE X T W .val (.BoolOp .And (a :: b :: rest) pos) (dAnd m n) := by
  refine PE.imp (pe_andT h h2) fun σ H Q ⟨r, aS, S, E, p⟩ => ⟨r, aS, S, E, ?_⟩
  unfold dAnd at p
  cases q : m r S with
  | bad => rw [q] at p; exact p
  | exc c S1 => rw [q] at p; exact p
  | ok d S1 =>
    rw [q] at p
    simp only [R.bind_ok] at p
    intro v H1 x1 m1 k1
    cases qt : truth d with
    | none => rw [qt] at p; exact p.elim
    | some k =>
      rw [qt] at p
      refine ⟨k, truth_ok hK (Rep.bor m1 k1) qt, ?_⟩
      cases k with
      | true => rw [if_pos rfl]; exact ⟨r, aS, S1, E.ext x1 m1, Post.at x1 p⟩
      | false => rw [if_neg Bool.false_ne_true]; exact p v H1 x1 m1 k1
theorem de_or {a b : Expr} {rest : List Expr} {m n : M} {pos : Pos} (h : DE X T W .val a m) (h2 : DE X T W .val (.BoolOp .Or (b :: rest) pos) n) (hK : T.K = X.K := by rfl) : DE X T W .val (.BoolOp .Or (a :: b :: rest) pos) (dOr m n) := by
  refine PE.imp (pe_orT h h2) fun σ H Q ⟨r, aS, S, E, p⟩ => ⟨r, aS, S, E, ?_⟩
  unfold dOr at p
  cases q : m r S with
  | bad => rw [q] at p; exact p
  | exc c S1 => rw [q] at p; exact p
  | ok d S1 =>
    rw [q] at p
    simp only [R.bind_ok] at p
    intro v H1 x1 m1 k1
    cases qt : truth d with
    | none => rw [qt] at p; exact p.elim
    | some k =>
      rw [qt] at p
      refine ⟨k, truth_ok hK (Rep.bor m1 k1) qt, ?_⟩
      cases k with
      | true => rw [if_pos rfl]; exact p v H1 x1 m1 k1
      | false => rw [if_neg Bool.false_ne_true]; exact ⟨r, aS, S1, E.ext x1 m1, Post.at x1 p⟩
def dNot (m : M) : M := fun r s => (m r s).bind fun d s1 => match truth d with
  | some k => .ok (.b (!k)) s1
  | none => .bad
theorem de_not {a : Expr} {m : M} {pos : Pos} (h : DE X T W .bor a m) (hK : T.K = X.K := by rfl) : DE X T W .val (.UnaryOp .Not a pos) (dNot m) := by
  refine PE.imp (pe_notT h) fun σ H Q ⟨r, aS, S, E, p⟩ => ⟨r, aS, S, E, ?_⟩
  unfold dNot at p
  cases q : m r S with
  | bad => rw [q] at p; exact p
  | exc c S1 => rw [q] at p; exact p
  | ok d S1 =>
    rw [q] at p
    simp only [R.bind_ok] at p
    intro v H1 x1 m1 k1
    cases qt : truth d with
    | none => rw [qt] at p; exact p.elim
    | some k =>
      rw [qt] at p
      exact ⟨k, truth_ok hK k1 qt, p _ H1 x1 m1 (.b _)⟩
def dIf (t : Mt) (a b : M) : M := fun r s => (t r s).bind fun k s1 => if k = true then a r s1 else b r s1
theorem de_if {c a b : Expr} {t : Mt} {ma mb : M} {md : Md} {pos : Pos} (hc : DT X T W c t) (ha : DE X T W md a ma) (hb : DE X T W md b mb) : DE X T W md (.IfExp c a b pos) (dIf t ma mb) := by
  refine PE.imp (pe_ifExp hc ha hb) fun σ H Q ⟨r, aS, S, E, p⟩ => ⟨r, aS, S, E, ?_⟩
  unfold dIf at p
  cases q : t r S with
  | bad => rw [q] at p; exact p
  | exc c S1 => rw [q] at p; exact p
  | ok k S1 =>
    rw [q] at p
    simp only [R.bind_ok] at p
    intro H1 x1 m1
    have ne : ∀ a, aS = some a → H1 a ≠ none := m1.ne
    cases k with
    | true =>
      rw [if_pos rfl] at p ⊢
      exact ⟨r, aS, S1, E.ext x1 m1, p.from x1 fun _ _ _ _ _ _ _ k => k.back x1 ne⟩
    | false =>
      rw [if_neg Bool.false_ne_true] at p ⊢
      exact ⟨r, aS, S1, E.ext x1 m1, p.from x1 fun _ _ _ _ _ _ _ k => k.back x1 ne⟩
end
end DL

/-! DL5: statements, defs, calls of defs. -/
namespace DL
open PySem PySem.Spec PyProof.Rows L2
section
variable {X : Cx} {T : Fx} {W : WX} {fr : Bool}
/-- what a def hands back: a value, or (fr) a new list of values -/
def RetOk (T : Fx) (fr : Bool) (H' : Hp) (v : V) (d : D) (S' : Sg) : Prop :=
  Ext T.a0 T.H0 H' ∧ Amb T T.a0 H' S' ∧ MdOk T T.a0 T.H0 H' v d (if fr = true then .f1 else .val)
/-- what stays true once it is -/
def Cl (N : Hp → Prop) : Prop := ∀ H H', Stb H H' → N H → N H'
def PostS (T : Fx) (N : Hp → Prop) (W : WX) (fr : Bool) (E : Ends) : O → Prop
  | .nx r' S' => ∀ σ' H' aS', ER T aS' H' σ' r' S' → N H' → E.nx σ' H'
  | .ret d S' => ∀ v H', RetOk T fr H' v d S' → E.rt v H'
  | .brk r' S' => ∀ σ' H' aS', ER T aS' H' σ' r' S' → N H' → E.bk σ' H'
  | .cont r' S' => ∀ σ' H' aS', ER T aS' H' σ' r' S' → N H' → E.ct σ' H'
  | .exc c r' S' => ∀ σ' H' aS', ER T aS' H' σ' r' S' → N H' → W (.ref (T.cl c)) none σ' H'
  | .bad => False
def tS (T : Fx) (N : Hp → Prop) (W : WX) (fr : Bool) (m : MS) : TS := fun E σ H => ∃ r aS S, ER T aS H σ r S ∧ N H ∧ PostS T N W fr E (m r S)
def DS (X : Cx) (T : Fx) (W : WX) (fr : Bool) (st : Stmt) (m : MS) : Prop := ∀ N, Cl N → PS X st (tS T N W fr m)
def DSs (X : Cx) (T : Fx) (W : WX) (fr : Bool) (st : List Stmt) (m : MS) : Prop := ∀ N, Cl N → PSs X st (tS T N W fr m)

/-! ### blocks -/
def sNil : MS := fun r s => .nx r s
def O.bind : O → (En → Sg → O) → O
  | .nx r s, f => f r s
  | o, _ => o
@[simp] theorem O.bind_nx (r : En) (s : Sg) (f : En → Sg → O) : (O.nx r s).bind f = f r s := rfl
@[simp] theorem O.bind_ret (d : D) (s : Sg) (f : En → Sg → O) : (O.ret d s).bind f = .ret d s := rfl
@[simp] theorem O.bind_brk (r : En) (s : Sg) (f : En → Sg → O) : (O.brk r s).bind f = .brk r s := rfl
@[simp] theorem O.bind_cont (r : En) (s : Sg) (f : En → Sg → O) : (O.cont r s).bind f = .cont r s := rfl
@[simp] theorem O.bind_exc (c : Nat) (r : En) (s : Sg) (f : En → Sg → O) : (O.exc c r s).bind f = .exc c r s := rfl
@[simp] theorem O.bind_bad (f : En → Sg → O) : O.bad.bind f = .bad := rfl
def sSeq (m n : MS) : MS := fun r s => (m r s).bind n
theorem PostS.nx {N : Hp → Prop} {E : Ends} {u : En → Sg → O} : ∀ {o : O}, PostS T N W fr E (o.bind u) → PostS T N W fr { E with nx := tS T N W fr u E } o
  | .nx r s, h => fun σ' H' aS' e n => ⟨r, aS', s, e, n, h⟩
  | .ret _ _, h => h
  | .brk _ _, h => h
  | .cont _ _, h => h
  | .exc _ _ _, h => h
  | .bad, h => h
theorem dss_nil : DSs X T W fr [] sNil := fun N _ => PSs.imp pss_nil fun E σ H ⟨r, aS, S, e, n, p⟩ => p σ H aS e n
theorem dss_one {st : Stmt} {m : MS} (h : DS X T W fr st m) : DSs X T W fr [st] m := fun N c => pss_one (h N c)
theorem dss_cons {st : Stmt} {rest : List Stmt} {m n : MS} (h : DS X T W fr st m) (h2 : DSs X T W fr rest n) : DSs X T W fr (st :: rest) (sSeq m n) :=
  fun N c => PSs.imp (pss_cons (h N c) (h2 N c)) fun E σ H ⟨r, aS, S, e, n, p⟩ => ⟨r, aS, S, e, n, PostS.nx p⟩
theorem ds_pass {pos : Pos} : DS X T W fr (.Pass pos) sNil := fun N _ => PS.imp ps_pass fun E σ H ⟨r, aS, S, e, n, p⟩ => p σ H aS e n
def sCont : MS := fun r s => .cont r s
def sBreak : MS := fun r s => .brk r s
theorem ds_cont {pos : Pos} : DS X T W fr (.Continue pos) sCont := fun N _ => PS.imp ps_continue fun E σ H ⟨r, aS, S, e, n, p⟩ => p σ H aS e n
theorem ds_break {pos : Pos} : DS X T W fr (.Break pos) sBreak := fun N _ => PS.imp ps_break fun E σ H ⟨r, aS, S, e, n, p⟩ => p σ H aS e n
/-- a statement that the proof never comes to -/
def sBad : MS := fun _ _ => .bad
theorem ds_bad {st : Stmt} : DS X T W fr st sBad := fun N _ => PS.imp ps_never fun E σ H ⟨r, aS, S, e, n, p⟩ => p
theorem dss_bad {st : List Stmt} : DSs X T W fr st sBad := fun N _ => PSs.imp pss_never fun E σ H ⟨r, aS, S, e, n, p⟩ => p

/-- from an expression to a statement -/
def sE (m : M) (f : D → En → Sg → O) : MS := fun r s => match m r s with
  | .ok d s1 => f d r s1
  | .exc c s1 => .exc c r s1
  | .bad => .bad
@[simp] theorem sE_ok {m : M} {f : D → En → Sg → O} {r : En} {s s1 : Sg} {d : D} (h : m r s = .ok d s1) : sE m f r s = f d r s1 := by unfold sE; rw [h]
@[simp] theorem sE_exc {m : M} {f : D → En → Sg → O} {r : En} {s s1 : Sg} {c : Nat} (h : m r s = .exc c s1) : sE m f r s = .exc c r s1 := by unfold sE; rw [h]
theorem tE_of {N : Hp → Prop} (cN : Cl N) {md : Md} {m : M} {f : D → En → Sg → O} {E : Ends} {Q : VK} {σ : L2.St} {H : Hp} (h : tS T N W fr (sE m f) E σ H)
    (k : ∀ r aS S S' d v H', ER T aS H σ r S → Ext aS H H' → ER T aS H' σ r S' → N H' → MdOk T aS H H' v d md → PostS T N W fr E (f d r S') → Q v H') : tE T W md m σ H Q := by
  obtain ⟨r, aS, S, e, n, p⟩ := h
  refine ⟨r, aS, S, e, ?_⟩
  unfold sE at p
  cases q : m r S with
  | bad => rw [q] at p; exact p
  | exc c S1 => rw [q] at p; exact fun H' x a => p σ H' aS (e.ext x a) (cN _ _ x.stb n)
  | ok d S1 => rw [q] at p; exact fun v H' x a km => k r aS S S1 d v H' e x (e.ext x a) (cN _ _ x.stb n) km p

/-! ### small statements -/
def sExpr (m : M) : MS := sE m fun _ r s => .nx r s
theorem ds_expr {e : Expr} {m : M} {md : Md} {pos : Pos} (h : DE X T W md e m) (hs : swapsWith e none pos.line X.env = pure false := by rfl) : DS X T W fr (.Expr e pos) (sExpr m) :=
  fun N c => PS.imp (ps_expr h hs) fun E σ H q => tE_of c q fun r aS S S' d v H' e x e' n km p => p σ H' aS e' n
def sRet (m : M) : MS := sE m fun d _ s => .ret d s
theorem ds_ret {e : Expr} {m : M} {pos : Pos} (h : DE X T W .val e m) : DS X T W false (.Return (some e) pos) (sRet m) :=
  fun N c => PS.imp (ps_ret h) fun E σ H q => tE_of c q fun r aS S S' d v H' e x e' n km p => p v H' ⟨e'.ext0, (by
    rcases e'.st with q | ⟨q, _⟩
    · rw [← q]; exact e'.amb
    · rw [q]; exact Amb.no), km⟩
theorem ds_retF {e : Expr} {m : M} {pos : Pos} (h : DE X T W .f1 e m) : DS X T W true (.Return (some e) pos) (sRet m) :=
  fun N c => PS.imp (ps_ret h) fun E σ H q => tE_of c q fun r aS S S' d v H' e x e' n km p => p v H' ⟨e'.ext0, (by
    rcases e'.st with q | ⟨q, _⟩
    · rw [← q]; exact e'.amb
    · rw [q]; exact Amb.no), (by
    obtain ⟨F, k, nn⟩ := km
    rcases e'.st with q | ⟨q, _⟩
    · refine ⟨F, by rw [← q]; exact k, fun b hb => e.ext0.un (nn b hb) fun a z => e.amb.ne a (q.trans z)⟩
    · refine ⟨F, ?_, fun b hb => e.ext0.un (nn b hb) fun a z => by rw [q] at z; cases z⟩
      show Ow1 T T.a0 H' v d F
      cases d with
      | l ds => obtain ⟨a, vs, e1, e2, _, h, r⟩ := k; exact ⟨a, vs, e1, e2, by rw [q]; simp, h, r⟩
      | m dk dv => exact k
      | n => exact k
      | b _ => exact k
      | i _ => exact k
      | s _ => exact k
      | t _ => exact k
      | x _ => exact k
      | k _ => exact k)⟩
def sRetN : MS := fun _ s => .ret .n s
theorem ds_retN {pos : Pos} : DS X T W false (.Return none pos) sRetN := fun N _ => PS.imp ps_retN fun E σ H ⟨r, aS, S, e, n, p⟩ => p .non H ⟨e.ext0, (by
    rcases e.st with q | ⟨q, _⟩
    · rw [← q]; exact e.amb
    · rw [q]; exact Amb.no), .n⟩
def sSet (j : Nat) (m : M) : MS := sE m fun d r s => if j < r.length then .nx (r.set j (some (.val d))) s else .bad
theorem ds_set (j : Nat) {x : Str} {e : Expr} {m : M} {pos pos' : Pos} (hN : X.N.Nodup) (h : DE X T W .val e m) (hi : X.N[j]? = some x := by rfl) (hx : Loc X.env.scope x := by first | exact Or.inl rfl | exact Or.inr rfl) (hs : swapsWith e (some (.Name x pos')) pos.line X.env = pure false := by rfl)
    (hf : X.fn x = true ∨ X.env.scope.names.lookup x = some .local := by first | exact .inl rfl | exact .inr rfl) : DS X T W fr (.Assign [.Name x pos'] e pos) (sSet j m) :=
  fun N c => PS.imp (ps_set hN hi hx h hs hf) fun E σ H q => tE_of c q fun r aS S S' d v H' e x e' nh km p => by
    by_cases hj : j < r.length
    · rw [if_pos hj] at p; exact p _ H' aS (e'.setVal km hj) nh
    · rw [if_neg hj] at p; exact p.elim
/-- a name of one's own list or dict -/
def sSetO (j : Nat) (m : M) : MS := sE m fun d r s => if j < r.length then .nx (r.set j (some (.o1 d))) s else .bad
def sSetO2 (j : Nat) (m : M) : MS := sE m fun d r s => if j < r.length then .nx (r.set j (some (.o2 d))) s else .bad
theorem ER.setNew {aS : Option Addr} {H H' : Hp} {σ : L2.St} {r : En} {S S' : Sg} {j : Nat} {v : V} {e : Sl} {F : List Addr} (E : ER T aS H σ r S) (x : Ext aS H H') (m : Amb T aS H' S') (k : SlOk T aS H' v e F) (n : ∀ b ∈ F, H b = none) (na : ∀ b ∈ F, aS ≠ some b) (hj : j < r.length) :
    ER T aS H' (σ.set j (some v)) (r.set j (some e)) S' := by
  obtain ⟨G, g⟩ := id E
  have g' : ERF T aS H' σ r S' G := ⟨m, g.len, fun j z q => let ⟨v, h1, h2⟩ := g.sl j z q; ⟨v, h1, h2.ext x⟩, g.no, g.dj, g.new, ext0_of g.ext g.st x, g.st⟩
  have fr := g.fresh n
  have E' : ER T aS H' σ r S' := ⟨G, g'⟩
  -- apart from this very footprint
  refine ⟨fun i => if i = j then F else G i, m, by rw [List.length_set, List.length_set, g.len], fun i z q => ?_, fun i q => ?_, fun i l b hkl hk => ?_, fun i b hb => ?_, g'.ext, g.st⟩
  · by_cases hk : i = j
    · subst hk
      rw [List.getElem?_set_self hj] at q
      cases q
      exact ⟨v, by rw [List.getElem?_set_self (by rw [g.len]; exact hj)], by rw [if_pos rfl]; exact k⟩
    · rw [List.getElem?_set_ne (Ne.symm hk)] at q
      obtain ⟨u, h1, h2⟩ := g'.sl i z q
      exact ⟨u, by rw [List.getElem?_set_ne (Ne.symm hk)]; exact h1, by rw [if_neg hk]; exact h2⟩
  · by_cases hk : i = j
    · subst hk
      exact absurd (List.getElem?_set_self hj) (q e)
    · show (if i = j then F else G i) = []
      rw [if_neg hk]
      exact g.no i fun z hz => q z (by rw [List.getElem?_set_ne (Ne.symm hk)]; exact hz)
  · show b ∉ (if l = j then F else G l)
    have hk : b ∈ (if i = j then F else G i) := hk
    by_cases h1 : i = j
    · rw [if_pos h1] at hk
      by_cases h2 : l = j
      · exact absurd (h1.trans h2.symm) hkl
      · rw [if_neg h2]; exact (fr b hk).2 l
    · rw [if_neg h1] at hk
      by_cases h2 : l = j
      · rw [if_pos h2]; exact fun z => (fr b z).2 i hk
      · rw [if_neg h2]; exact g.dj i l b hkl hk
  · have hb : b ∈ (if i = j then F else G i) := hb
    by_cases h1 : i = j
    · rw [if_pos h1] at hb; exact ⟨(fr b hb).1, na b hb⟩
    · rw [if_neg h1] at hb; exact g.new i b hb
theorem ds_setO (j : Nat) {x : Str} {e : Expr} {m : M} {pos pos' : Pos} (hN : X.N.Nodup) (h : DE X T W .f1 e m) (hi : X.N[j]? = some x := by rfl) (hx : Loc X.env.scope x := by first | exact Or.inl rfl | exact Or.inr rfl) (hs : swapsWith e (some (.Name x pos')) pos.line X.env = pure false := by rfl)
    (hf : X.fn x = true ∨ X.env.scope.names.lookup x = some .local := by first | exact .inl rfl | exact .inr rfl) : DS X T W fr (.Assign [.Name x pos'] e pos) (sSetO j m) :=
  fun N c => PS.imp (ps_set hN hi hx h hs hf) fun E σ H q => tE_of c q fun r aS S S' d v H' e x e' nh km p => by
    obtain ⟨F, k, n⟩ := km
    by_cases hj : j < r.length
    · rw [if_pos hj] at p; exact p _ H' aS (e.setNew x e'.amb (e := .o1 d) k n (k.apart e'.amb) hj) nh
    · rw [if_neg hj] at p; exact p.elim
theorem ds_setO2 (j : Nat) {x : Str} {e : Expr} {m : M} {pos pos' : Pos} (hN : X.N.Nodup) (h : DE X T W .f2 e m) (hi : X.N[j]? = some x := by rfl) (hx : Loc X.env.scope x := by first | exact Or.inl rfl | exact Or.inr rfl) (hs : swapsWith e (some (.Name x pos')) pos.line X.env = pure false := by rfl)
    (hf : X.fn x = true ∨ X.env.scope.names.lookup x = some .local := by first | exact .inl rfl | exact .inr rfl) : DS X T W fr (.Assign [.Name x pos'] e pos) (sSetO2 j m) :=
  fun N c => PS.imp (ps_set hN hi hx h hs hf) fun E σ H q => tE_of c q fun r aS S S' d v H' e x e' nh km p => by
    obtain ⟨F, k, n⟩ := km
    by_cases hj : j < r.length
    · rw [if_pos hj] at p; exact p _ H' aS (e.setNew x e'.amb (e := .o2 d) k n (k.apart e'.amb) hj) nh
    · rw [if_neg hj] at p; exact p.elim
def sIf (t : Mt) (a b : MS) : MS := fun r s => match t r s with
  | .ok k s1 => if k = true then a r s1 else b r s1
  | .exc c s1 => .exc c r s1
  | .bad => .bad
theorem ds_if {c : Expr} {a b : List Stmt} {t : Mt} {ma mb : MS} {pos : Pos} (hc : DT X T W c t) (ha : DSs X T W fr a ma) (hb : DSs X T W fr b mb) : DS X T W fr (.If c a b pos) (sIf t ma mb) := by
  intro N cN
  refine PS.imp (ps_if hc (ha N cN) (hb N cN)) fun E σ H ⟨r, aS, S, e, n, p⟩ => ⟨r, aS, S, e, ?_⟩
  unfold sIf at p
  cases q : t r S with
  | bad => rw [q] at p; exact p
  | exc c S1 => rw [q] at p; exact fun H' x a => p σ H' aS (e.ext x a) (cN _ _ x.stb n)
  | ok k S1 =>
    rw [q] at p
    intro H' x a
    cases k with
    | true => rw [if_pos rfl]; exact ⟨r, aS, S1, e.ext x a, cN _ _ x.stb n, p⟩
    | false => rw [if_neg Bool.false_ne_true]; exact ⟨r, aS, S1, e.ext x a, cN _ _ x.stb n, p⟩
end

/-! ### a slot's own list becomes a value, ahead of a statement -/
def sFrz (j : Nat) (m : MS) : MS := fun r s => match r[j]? with
  | some (some (.o1 d)) => m (r.set j (some (.val d))) s
  | some (some (.o2 d)) => m (r.set j (some (.val d))) s
  | some (some (.val d)) => m r s
  | _ => .bad
theorem ER.frz {X : Cx} {T : Fx} {pins : List (Addr × Obj)} {σ : L2.St} {H : Hp} {s : Shared} {aS : Option Addr} {r : En} {S : Sg} (I : Inv X pins σ H s) (E : ER T aS H σ r S) {j : Nat} {d : D} (q : r[j]? = some (some (.o1 d)) ∨ r[j]? = some (some (.o2 d))) :
    ∃ H', Inv X pins σ H' s ∧ Stb H H' ∧ ER T aS H' σ (r.set j (some (.val d))) S := by
  obtain ⟨F, g⟩ := E
  have hj : j < r.length := by
    rcases q with q | q <;> exact (List.getElem?_eq_some_iff.mp q).1
  have key : ∃ v H', σ[j]? = some (some v) ∧ Inv X pins σ H' s ∧ Frz (F j) H H' ∧ Rep T H' v d := by
    rcases q with q | q
    · obtain ⟨v, h1, h2⟩ := g.sl j _ q
      obtain ⟨H', I', f, k⟩ := frz_one I h2
      exact ⟨v, H', h1, I', f, k⟩
    · obtain ⟨v, h1, h2⟩ := g.sl j _ q
      obtain ⟨H', I', f, k⟩ := frz_two I h2
      exact ⟨v, H', h1, I', f, k⟩
  obtain ⟨v, H', h1, I', f, k⟩ := key
  refine ⟨H', I', f.stb, fun i => if i = j then [] else F i, f.amb g.amb fun b hb => (g.new j b hb).2, by rw [List.length_set]; exact g.len, fun i z hz => ?_, fun i hz => ?_, fun i l b hil hb => ?_, fun i b hb => ?_, fun b o e c => ?_, g.st⟩
  · by_cases hi : i = j
    · subst hi
      rw [List.getElem?_set_self hj] at hz
      cases hz
      exact ⟨v, h1, by rw [if_pos rfl]; exact ⟨rfl, k⟩⟩
    · rw [List.getElem?_set_ne (Ne.symm hi)] at hz
      obtain ⟨u, h3, h4⟩ := g.sl i z hz
      refine ⟨u, h3, ?_⟩
      rw [if_neg hi]
      have ap : ∀ b ∈ F i, b ∉ F j := fun b hb => g.dj i j b hi hb
      cases z with
      | val d => exact ⟨h4.1, Rep.stb f.stb h4.2⟩
      | o1 d => exact Ow1.frz f h4 ap
      | o2 d =>
        cases d with
        | l ds => obtain ⟨a, vs, G, e1, e2, e3, n, h, r⟩ := h4; exact ⟨a, vs, G, e1, e2, e3, n, by rw [f.out a (ap a (by rw [e2]; exact List.mem_cons_self))]; exact h, r.frz f fun b hb => ap b (by rw [e2]; exact List.mem_cons_of_mem _ hb)⟩
        | m dk dv =>
          obtain ⟨a, ks, vs, G, e1, e2, e3, ⟨na, o, h, q⟩, r, hs⟩ := h4
          exact ⟨a, ks, vs, G, e1, e2, e3, ⟨na, o, by rw [f.out a (ap a (by rw [e2]; exact List.mem_cons_self))]; exact h, q⟩, Reps.stb f.stb r, hs.frz f fun b hb => ap b (by rw [e2]; exact List.mem_cons_of_mem _ hb)⟩
        | n => exact ⟨h4.1, Rep.stb f.stb h4.2⟩
        | b _ => exact ⟨h4.1, Rep.stb f.stb h4.2⟩
        | i _ => exact ⟨h4.1, Rep.stb f.stb h4.2⟩
        | s _ => exact ⟨h4.1, Rep.stb f.stb h4.2⟩
        | t _ => exact ⟨h4.1, Rep.stb f.stb h4.2⟩
        | x _ => exact ⟨h4.1, Rep.stb f.stb h4.2⟩
        | k _ => exact ⟨h4.1, Rep.stb f.stb h4.2⟩
      | st => exact h4
  · by_cases hi : i = j
    · exact if_pos hi
    · show (if i = j then [] else F i) = []
      rw [if_neg hi]
      exact g.no i fun z hq => hz z (by rw [List.getElem?_set_ne (Ne.symm hi)]; exact hq)
  · show b ∉ (if l = j then [] else F l)
    have hb : b ∈ (if i = j then [] else F i) := hb
    by_cases h1 : i = j
    · rw [if_pos h1] at hb; exact absurd hb (by simp)
    · rw [if_neg h1] at hb
      by_cases h2 : l = j
      · rw [if_pos h2]; simp
      · rw [if_neg h2]; exact g.dj i l b hil hb
  · have hb : b ∈ (if i = j then [] else F i) := hb
    by_cases h1 : i = j
    · rw [if_pos h1] at hb; exact absurd hb (by simp)
    · rw [if_neg h1] at hb; exact g.new i b hb
  · rw [f.out b fun z => by rw [(g.new j b z).1] at e; cases e]
    exact g.ext b o e c
section
variable {X : Cx} {T : Fx} {W : WX} {fr : Bool}
theorem ds_frz (j : Nat) {st : Stmt} {m : MS} (h : DS X T W fr st m) : DS X T W fr st (sFrz j m) := by
  refine fun N cN => ⟨fun pins s σ H E I ⟨r, aS, S, e, n, p⟩ => ?_⟩
  unfold sFrz at p
  split at p
  · rename_i d q
    obtain ⟨H', I', st, e'⟩ := e.frz I (.inl q)
    exact (h N cN).run pins s σ H' E I' ⟨_, aS, S, e', cN _ _ st n, p⟩
  · rename_i d q
    obtain ⟨H', I', st, e'⟩ := e.frz I (.inr q)
    exact (h N cN).run pins s σ H' E I' ⟨_, aS, S, e', cN _ _ st n, p⟩
  · exact (h N cN).run pins s σ H E I ⟨r, aS, S, e, n, p⟩
  · exact p.elim
end
end DL

/-! DL6: what a def promises; calls of defs. -/
namespace DL
open PySem PySem.Spec PyProof.Rows L2

/-- a def's meaning -/
abbrev Fn := List D → Sg → R D
/-- sg: which parameters are the drawing state -/
def envOf : List Bool → List D → En
  | [], _ => []
  | true :: sg, ds => some .st :: envOf sg ds
  | false :: sg, d :: ds => some (.val d) :: envOf sg ds
  | false :: sg, [] => none :: envOf sg []
def ArgOk (T : Fx) (aS : Option Addr) (H : Hp) : List Bool → List V → List D → Prop
  | [], [], [] => True
  | true :: sg, v :: vs, ds => (∃ a, v = .ref a ∧ aS = some a) ∧ ArgOk T aS H sg vs ds
  | false :: sg, v :: vs, d :: ds => Rep T H v d ∧ ArgOk T aS H sg vs ds
  | _, _, _ => False
def runF (sg : List Bool) (n : Nat) (m : MS) : Fn := fun ds s => if ds.length = (sg.filter (!·)).length then (match m (envOf sg ds ++ List.replicate (n - sg.length) none) s with
  | .nx _ s' => .ok .n s'
  | .ret d s' => .ok d s'
  | .exc c _ s' => .exc c s'
  | _ => .bad) else .bad
def PostF (T : Fx) (fr : Bool) (Q : VK) (E : XK) : R D → Prop
  | .ok d S' => ∀ v H', RetOk T fr H' v d S' → Q v H'
  | .exc c S' => ∀ H', Ext T.a0 T.H0 H' → Amb T T.a0 H' S' → E (.ref (T.cl c)) none H'
  | .bad => False
/-- the promise -/
def spD (K : PySem.W.Frag) (w : World) (cl : Nat → Addr) (sg : List Bool) (fr : Bool) (F : Fn) : Sp := fun vs H Q E => vs.length = sg.length ∧ ∃ ds a0 S,
  ArgOk ⟨K, w, cl, H, a0⟩ a0 H sg vs ds ∧ Amb ⟨K, w, cl, H, a0⟩ a0 H S ∧ PostF ⟨K, w, cl, H, a0⟩ fr Q E (F ds S)
theorem spD_imp {K : PySem.W.Frag} {w : World} {cl : Nat → Addr} {sg : List Bool} {fr : Bool} {F G : Fn} (h : ∀ ds S, G ds S ≠ .bad → F ds S = G ds S) : ∀ vs H Q E, spD K w cl sg fr G vs H Q E → spD K w cl sg fr F vs H Q E := by
  intro vs H Q E ⟨l, ds, a0, S, a, m, p⟩
  refine ⟨l, ds, a0, S, a, m, ?_⟩
  by_cases c : G ds S = .bad
  · rw [c] at p; exact p.elim
  · rw [h ds S c]; exact p
section
variable {T : Fx} {aS : Option Addr} {H H' : Hp}
theorem ArgOk.len : ∀ {sg : List Bool} {vs : List V} {ds : List D}, ArgOk T aS H sg vs ds → vs.length = sg.length
  | [], [], [], _ => rfl
  | true :: sg, v :: vs, ds, h => congrArg (· + 1) (ArgOk.len h.2)
  | false :: sg, v :: vs, d :: ds, h => congrArg (· + 1) (ArgOk.len h.2)
  | [], _ :: _, _, h => h.elim
  | [], [], _ :: _, h => h.elim
  | true :: _, [], _, h => h.elim
  | false :: _, [], _, h => h.elim
  | false :: _, _ :: _, [], h => h.elim
theorem ArgOk.lenD : ∀ {sg : List Bool} {vs : List V} {ds : List D}, ArgOk T aS H sg vs ds → ds.length = (sg.filter (!·)).length
  | [], [], [], _ => rfl
  | true :: sg, v :: vs, ds, h => ArgOk.lenD (sg := sg) h.2
  | false :: sg, v :: vs, d :: ds, h => congrArg (· + 1) (ArgOk.lenD (sg := sg) h.2)
  | [], _ :: _, _, h => h.elim
  | [], [], _ :: _, h => h.elim
  | true :: _, [], _, h => h.elim
  | false :: _, [], _, h => h.elim
  | false :: _, _ :: _, [], h => h.elim
theorem envOf_len : ∀ (sg : List Bool) (ds : List D), (envOf sg ds).length = sg.length
  | [], _ => rfl
  | true :: sg, ds => congrArg (· + 1) (envOf_len sg ds)
  | false :: sg, d :: ds => congrArg (· + 1) (envOf_len sg ds)
  | false :: sg, [] => congrArg (· + 1) (envOf_len sg [])
theorem ArgOk.slots : ∀ {sg : List Bool} {vs : List V} {ds : List D}, ArgOk T aS H sg vs ds → ∀ (j : Nat) (e : Sl), (envOf sg ds)[j]? = some (some e) → ∃ v : V, vs[j]? = some v ∧ SlOk T aS H v e []
  | [], [], [], _, j, e, q => by simp [envOf] at q
  | true :: sg, v :: vs, ds, h, j, e, q => by
    cases j with
    | zero =>
      simp [envOf] at q
      subst q
      exact ⟨v, rfl, rfl, h.1⟩
    | succ j => exact ArgOk.slots h.2 j e (by simpa [envOf] using q)
  | false :: sg, v :: vs, d :: ds, h, j, e, q => by
    cases j with
    | zero =>
      simp [envOf] at q
      subst q
      exact ⟨v, rfl, rfl, h.1⟩
    | succ j => exact ArgOk.slots h.2 j e (by simpa [envOf] using q)
  | [], _ :: _, _, h, _, _, _ => h.elim
  | [], [], _ :: _, h, _, _, _ => h.elim
  | true :: _, [], _, h, _, _, _ => h.elim
  | false :: _, [], _, h, _, _, _ => h.elim
  | false :: _, _ :: _, [], h, _, _, _ => h.elim
end
/-- the slots at a def's start -/
theorem ER.start {K : PySem.W.Frag} {w : World} {cl : Nat → Addr} {H : Hp} {a0 : Option Addr} {sg : List Bool} {vs : List V} {ds : List D} {S : Sg} {N : List Str}
    (h : ArgOk ⟨K, w, cl, H, a0⟩ a0 H sg vs ds) (m : Amb ⟨K, w, cl, H, a0⟩ a0 H S) : ER ⟨K, w, cl, H, a0⟩ a0 H (L2.start N vs) (envOf sg ds ++ List.replicate (N.length - sg.length) none) S := by
  have hl := h.len
  refine ⟨fun _ => [], m, ?_, fun j e q => ?_, fun _ _ => rfl, fun _ _ b _ hb => absurd hb (by simp), fun _ b hb => absurd hb (by simp), Ext.refl, .inl rfl⟩
  · unfold L2.start
    rw [List.length_append, List.length_append, List.length_map, List.length_replicate, List.length_replicate, envOf_len, hl]
  · by_cases hj : j < sg.length
    · rw [List.getElem?_append_left (by rw [envOf_len]; exact hj)] at q
      obtain ⟨v, h1, h2⟩ := h.slots j e q
      refine ⟨v, ?_, h2⟩
      unfold L2.start
      rw [List.getElem?_append_left (by rw [List.length_map, hl]; exact hj), List.getElem?_map, h1]
      rfl
    · rw [List.getElem?_append_right (by rw [envOf_len]; omega), List.getElem?_replicate] at q
      split at q <;> cases q
theorem spD_len {K : PySem.W.Frag} {w : World} {cl : Nat → Addr} {sg : List Bool} {fr : Bool} {F : Fn} {ps : List Str} (hp : ps.length = sg.length) : ∀ vs H Q E, spD K w cl sg fr F vs H Q E → vs.length = ps.length := fun vs H Q E h => by rw [hp]; exact h.1

/-- a def of the text: its body's meaning is its meaning -/
theorem fn_ok {P : Program} {w : World} {K : PySem.W.Frag} {mg : Str → Option Value} {base : Heap} {cl : Nat → Addr} {x qual : Str} {st : Stmt} {f : Addr} {fd : FuncData} {N ps : List Str} {k : Nat} {sg : List Bool} {fr : Bool} {m : MS}
    (F : Fun K x qual st f fd) (S : FnScope N ps (defScope st)) (hp : ps.length = sg.length)
    (hbody : ∀ (cdv : Value) (A : Around) (outer : List Env) (s : Shared) (H : Hp) (E : XK) (a0 : Option Addr), Room k (A.deeper (envOfC qual (defScope st) s.heap.objs.size f cdv)) →
      DSs (cxOf (L2.CX P w) P w K mg base N qual (defScope st) f cdv A outer s H E) ⟨K, w, cl, H, a0⟩ (fun c d _ H => E c d H) fr (defBody st) m)
    (hn : fr = true → ∀ ds S r s, m (envOf sg ds ++ List.replicate (N.length - sg.length) none) S ≠ .nx r s := by intro h; cases h) :
    FnOk P w K mg base (L2.CX P w) (k + 1) f fd ps (spD K w cl sg fr (runF sg N.length m)) := by
  refine F.okX S (spD_len hp) fun cdv A outer s H vs Q E hr h => ?_
  obtain ⟨hl, ds, a0, S0, a, am, p⟩ := h
  refine ⟨_, hbody cdv A outer s H E a0 hr (fun _ => True) (fun _ _ _ h => h), ?_⟩
  refine ⟨envOf sg ds ++ List.replicate (N.length - sg.length) none, a0, S0, ER.start a am, trivial, ?_⟩
  unfold runF at p
  rw [if_pos a.lenD] at p
  cases q : m (envOf sg ds ++ List.replicate (N.length - sg.length) none) S0 with
  | nx r s' =>
    rw [q] at p
    intro σ' H' aS' e _
    cases fr with
    | true => exact absurd q (hn rfl ds S0 r s')
    | false =>
      exact p .non H' ⟨e.ext0, (by
        rcases e.st with z | ⟨z, _⟩
        · rw [← z]; exact e.amb
        · rw [z]; exact Amb.no), .n⟩
  | ret d s' => rw [q] at p; exact p
  | exc c r s' =>
    rw [q] at p
    exact fun σ' H' aS' e _ => p H' e.ext0 (by
        rcases e.st with z | ⟨z, _⟩
        · rw [← z]; exact e.amb
        · rw [z]; exact Amb.no)
  | brk r s' => rw [q] at p; exact p.elim
  | cont r s' => rw [q] at p; exact p.elim
  | bad => rw [q] at p; exact p.elim
/-- .. or any meaning that agrees where it says something -/
theorem fn_imp {P : Program} {w : World} {K : PySem.W.Frag} {mg : Str → Option Value} {base : Heap} {CX : CXT} {cl : Nat → Addr} {f : Addr} {fd : FuncData} {ps : List Str} {k : Nat} {sg : List Bool} {fr : Bool} {F G : Fn}
    (h : FnOk P w K mg base CX k f fd ps (spD K w cl sg fr F)) (i : ∀ ds S, G ds S ≠ .bad → F ds S = G ds S) : FnOk P w K mg base CX k f fd ps (spD K w cl sg fr G) := h.imp (spD_imp i)

/-! ### calls -/
section
variable {X : Cx} {T : Fx} {W : WX}
/-- arguments: values, and the drawing state's name -/
def ArgC (T : Fx) (aS : Option Addr) (H : Hp) (vs : List V) (sg : List Bool) (ds : List D) : Prop := ArgOk T aS H sg vs ds
theorem ArgOk.ext {aS : Option Addr} {H H' : Hp} (x : Ext aS H H') : ∀ {sg : List Bool} {vs : List V} {ds : List D}, ArgOk T aS H sg vs ds → ArgOk T aS H' sg vs ds
  | [], [], [], _ => trivial
  | true :: sg, v :: vs, ds, h => ⟨h.1, ArgOk.ext x h.2⟩
  | false :: sg, v :: vs, d :: ds, h => ⟨Rep.ext x h.1, ArgOk.ext x h.2⟩
  | [], _ :: _, _, h => h.elim
  | [], [], _ :: _, h => h.elim
  | true :: _, [], _, h => h.elim
  | false :: _, [], _, h => h.elim
  | false :: _, _ :: _, [], h => h.elim
def PostG (T : Fx) (W : WX) (aS : Option Addr) (H : Hp) (σ : L2.St) (sg : List Bool) (Q : List V → Hp → Prop) : R (List D) → Prop
  | .ok ds S' => ∀ vs H', Ext aS H H' → Amb T aS H' S' → ArgOk T aS H' sg vs ds → Q vs H'
  | .exc c S' => ∀ H', Ext aS H H' → Amb T aS H' S' → W (.ref (T.cl c)) none σ H'
  | .bad => False
def tG (T : Fx) (W : WX) (sg : List Bool) (m : Ml) : TA := fun σ H Q => ∃ r aS S, ER T aS H σ r S ∧ PostG T W aS H σ sg Q (m r S)
def DG (X : Cx) (T : Fx) (W : WX) (sg : List Bool) (es : List Expr) (m : Ml) : Prop := PA X es (tG T W sg m)
theorem dg_nil : DG X T W [] [] dNil := PA.imp pa_nil fun σ H Q ⟨r, aS, S, E, p⟩ => p [] H Ext.refl E.amb trivial
theorem dg_cons {sg : List Bool} {e : Expr} {es : List Expr} {m : M} {ms : Ml} (h : DE X T W .val e m) (hs : DG X T W sg es ms) (hst : starEach (e :: es) X.env = (false, eval e X.env) :: starEach es X.env := by rfl) : DG X T W (false :: sg) (e :: es) (dCons m ms) := by
  refine PA.imp (pa_cons h hs hst) fun σ H Q ⟨r, aS, S, E, p⟩ => ⟨r, aS, S, E, ?_⟩
  unfold dCons at p
  cases q : m r S with
  | bad => rw [q] at p; exact p
  | exc c S1 => rw [q] at p; exact p
  | ok d S1 =>
    rw [q] at p
    simp only [R.bind_ok] at p
    refine fun v H1 x1 m1 k1 => ⟨r, aS, S1, E.ext x1 m1, ?_⟩
    cases q2 : ms r S1 with
    | bad => rw [q2] at p; exact p
    | exc c S2 => rw [q2] at p; exact fun H2 x2 m2 => p H2 (x1.trans x2) m2
    | ok ds S2 =>
      rw [q2] at p
      simp only [R.bind_ok] at p
      exact fun vs H2 x2 m2 k2 => p (v :: vs) H2 (x1.trans x2) m2 ⟨Rep.ext x2 k1, k2⟩
def dSt (j : Nat) (ms : Ml) : Ml := fun r s => match r[j]? with
  | some (some .st) => ms r s
  | _ => .bad
theorem dg_st (j : Nat) {sg : List Bool} {x : Str} {pos : Pos} {es : List Expr} {ms : Ml} (hs : DG X T W sg es ms) (hN : X.N[j]? = some x := by rfl) (hv : Vis X.env.scope x := by first | exact Or.inl rfl | exact Or.inr (Or.inl rfl) | exact Or.inr (Or.inr rfl)) (hd : (x == ("__debug__" : Str)) = false := by decide)
    (hcd : (x == ("__classdict__" : Str)) = false := by decide) (hst : starEach (.Name x pos :: es) X.env = (false, eval (.Name x pos) X.env) :: starEach es X.env := by rfl) : DG X T W (true :: sg) (.Name x pos :: es) (dSt j ms) := by
  refine PA.imp (pa_cons (pe_var hN hv hd hcd) hs hst) fun σ H Q ⟨r, aS, S, E, p⟩ => ?_
  unfold dSt at p
  split at p
  · rename_i q
    obtain ⟨a, h1, h2⟩ := E.getSt q
    refine ⟨_, h1, r, aS, S, E, ?_⟩
    cases q2 : ms r S with
    | bad => rw [q2] at p; exact p
    | exc c S2 => rw [q2] at p; exact p
    | ok ds S2 => rw [q2] at p; exact fun vs H2 x2 m2 k2 => p _ H2 x2 m2 ⟨⟨a, rfl, h2⟩, k2⟩
  · exact p.elim
/-- a call of a def that draws nothing: dd its defaults -/
def dFn (F : Fn) (ms : Ml) (dd : List D) : M := fun r s => (ms r s).bind fun ds s1 => match F (ds ++ dd) [] with
  | .ok d _ => .ok d s1
  | .exc c _ => .exc c s1
  | .bad => .bad
/-- .. of one that draws -/
def dFnS (F : Fn) (ms : Ml) (dd : List D) : M := fun r s => (ms r s).bind fun ds s1 => F (ds ++ dd) s1
theorem Ext.weak {aS : Option Addr} {H H' : Hp} (x : Ext none H H') : Ext aS H H' := fun b o e _ => x b o e fun _ z => nomatch z
theorem ArgOk.re {T' : Fx} (hK : T'.K = T.K) (hw : T'.w = T.w) (hc : T'.cl = T.cl) {aS : Option Addr} {H : Hp} : ∀ {sg : List Bool} {vs : List V} {ds : List D}, ArgOk T aS H sg vs ds → ArgOk T' aS H sg vs ds := by
  obtain ⟨K, w, cl, H0, a0⟩ := T
  obtain ⟨K', w', cl', H0', a0'⟩ := T'
  cases hK; cases hw; cases hc
  have re : ∀ {v d}, Rep ⟨K, w, cl, H0, a0⟩ H v d → Rep ⟨K, w, cl, H0', a0'⟩ H v d := fun h => Rp.imp (fun _ _ => id) (fun _ _ => id) (fun _ _ => id) (fun _ _ _ _ => id) (fun _ _ => id) h
  intro sg
  induction sg with
  | nil =>
    intro vs ds h
    cases vs with
    | nil => cases ds with
      | nil => exact h
      | cons _ _ => exact h.elim
    | cons _ _ => exact h.elim
  | cons b sg ih =>
    intro vs ds h
    cases b with
    | true => cases vs with
      | nil => exact h.elim
      | cons v vs => exact ⟨h.1, ih h.2⟩
    | false => cases vs with
      | nil => exact h.elim
      | cons v vs => cases ds with
        | nil => exact h.elim
        | cons d ds => exact ⟨re h.1, ih h.2⟩
theorem Rep.re {T' : Fx} (hK : T'.K = T.K) (hw : T'.w = T.w) (hc : T'.cl = T.cl) {H : Hp} {v : V} {d : D} (h : Rep T H v d) : Rep T' H v d := by
  obtain ⟨K, w, cl, H0, a0⟩ := T
  obtain ⟨K', w', cl', H0', a0'⟩ := T'
  cases hK; cases hw; cases hc
  exact Rp.imp (fun _ _ => id) (fun _ _ => id) (fun _ _ => id) (fun _ _ _ _ => id) (fun _ _ => id) h
theorem Reps.re {T' : Fx} (hK : T'.K = T.K) (hw : T'.w = T.w) (hc : T'.cl = T.cl) {H : Hp} {v : List V} {d : List D} (h : Reps T H v d) : Reps T' H v d := by
  obtain ⟨K, w, cl, H0, a0⟩ := T
  obtain ⟨K', w', cl', H0', a0'⟩ := T'
  cases hK; cases hw; cases hc
  exact Rps.imp (fun _ _ => id) (fun _ _ => id) (fun _ _ => id) (fun _ _ _ _ => id) (fun _ _ => id) h
theorem OwD.re {T' : Fx} (hw : T'.w = T.w) {H : Hp} {a : Addr} {ks vs : List V} {dk : List D} (h : OwD T H a ks vs dk) : OwD T' H a ks vs dk := by
  obtain ⟨n, o, e, q⟩ := h
  exact ⟨n, o, e, by rw [hw]; exact q⟩
theorem Amb.re {T' : Fx} (hK : T'.K = T.K) (hw : T'.w = T.w) (hc : T'.cl = T.cl) {aS : Option Addr} {H : Hp} {S : Sg} (m : Amb T aS H S) : Amb T' aS H S := fun a e => by
  obtain ⟨n, vs, h, r⟩ := m a e
  exact ⟨by rw [hK]; exact n, vs, h, Reps.re hK hw hc r⟩
/-- a list of one's own, of another def's: apart from our drawing state -/
theorem Ow1.re {T' : Fx} (hK : T'.K = T.K) (hw : T'.w = T.w) (hc : T'.cl = T.cl) {aS aS' : Option Addr} {H : Hp} {v : V} {d : D} {F : List Addr} (h : Ow1 T aS H v d F) (n : ∀ b ∈ F, aS' ≠ some b) : Ow1 T' aS' H v d F := by
  cases d with
  | l ds => obtain ⟨a, vs, e1, e2, _, h, r⟩ := h; exact ⟨a, vs, e1, e2, n a (by rw [e2]; exact List.mem_cons_self), h, Reps.re hK hw hc r⟩
  | m dk dv => obtain ⟨a, ks, vs, e1, e2, h, r, q⟩ := h; exact ⟨a, ks, vs, e1, e2, h.re hw, Reps.re hK hw hc r, Reps.re hK hw hc q⟩
  | n => exact ⟨h.1, Rep.re hK hw hc h.2⟩
  | b _ => exact ⟨h.1, Rep.re hK hw hc h.2⟩
  | i _ => exact ⟨h.1, Rep.re hK hw hc h.2⟩
  | s _ => exact ⟨h.1, Rep.re hK hw hc h.2⟩
  | t _ => exact ⟨h.1, Rep.re hK hw hc h.2⟩
  | x _ => exact ⟨h.1, Rep.re hK hw hc h.2⟩
  | k _ => exact ⟨h.1, Rep.re hK hw hc h.2⟩
/-- which parameters are values -/
def noSt (sg : List Bool) : Bool := sg.all (!·)
theorem ArgOk.noSt {aS aS' : Option Addr} {H : Hp} : ∀ {sg : List Bool} {vs : List V} {ds : List D}, noSt sg = true → ArgOk T aS H sg vs ds → ArgOk T aS' H sg vs ds
  | [], [], [], _, _ => trivial
  | true :: sg, v :: vs, ds, n, h => by simp [DL.noSt] at n
  | false :: sg, v :: vs, d :: ds, n, h => ⟨h.1, ArgOk.noSt (by simpa [DL.noSt] using n) h.2⟩
  | [], _ :: _, _, _, h => h.elim
  | [], [], _ :: _, _, h => h.elim
  | true :: _, [], _, _, h => h.elim
  | false :: _, [], _, _, h => h.elim
  | false :: _, _ :: _, [], _, h => h.elim
theorem ArgOk.st {aS : Option Addr} {H : Hp} : ∀ {sg : List Bool} {vs : List V} {ds : List D}, DL.noSt sg = false → ArgOk T aS H sg vs ds → ∃ a, aS = some a
  | [], [], [], n, _ => by simp [DL.noSt] at n
  | true :: sg, v :: vs, ds, n, h => let ⟨a, _, e⟩ := h.1; ⟨a, e⟩
  | false :: sg, v :: vs, d :: ds, n, h => ArgOk.st (sg := sg) (by simpa [DL.noSt] using n) h.2
  | [], _ :: _, _, _, h => h.elim
  | [], [], _ :: _, _, h => h.elim
  | true :: _, [], _, _, h => h.elim
  | false :: _, [], _, _, h => h.elim
  | false :: _, _ :: _, [], _, h => h.elim
theorem ArgOk.app {aS : Option Addr} {H : Hp} {ws : List V} {es : List D} (r : Reps T H ws es) : ∀ {sg : List Bool} {vs : List V} {ds : List D}, ArgOk T aS H sg vs ds → ArgOk T aS H (sg ++ List.replicate es.length false) (vs ++ ws) (ds ++ es)
  | [], [], [], _ => by
    have go : ∀ {ws : List V} {es : List D}, Reps T H ws es → ArgOk T aS H (List.replicate es.length false) ws es := fun {ws es} r => by
      induction es generalizing ws with
      | nil => cases r; trivial
      | cons e es ih => cases r with | cons h r => exact ⟨h, ih r⟩
    exact go r
  | true :: sg, v :: vs, ds, h => ⟨h.1, ArgOk.app r h.2⟩
  | false :: sg, v :: vs, d :: ds, h => ⟨h.1, ArgOk.app r h.2⟩
  | [], _ :: _, _, h => h.elim
  | [], [], _ :: _, h => h.elim
  | true :: _, [], _, h => h.elim
  | false :: _, [], _, h => h.elim
  | false :: _, _ :: _, [], h => h.elim
def mdF (fr : Bool) : Md := if fr = true then .f1 else .val
/-- the meaning of a call, from the promise -/
theorem tG_call {fr dr : Bool} {sg : List Bool} {F : Fn} {ms : Ml} {dvs : List V} {dd : List D} {K : PySem.W.Frag} {w : World} {cl : Nat → Addr} (hK : K = T.K) (hw : w = T.w) (hc : cl = T.cl) (hn : noSt sg = !dr) (hd : ∀ H, Reps T H dvs dd) :
    ∀ σ H Q, tE T W (mdF fr) (if dr = true then dFnS F ms dd else dFn F ms dd) σ H Q → tG T W sg ms σ H (fun vs H1 => spD K w cl (sg ++ List.replicate dd.length false) fr F (vs ++ dvs) H1 Q (WE W σ)) := by
  subst hK; subst hw; subst hc
  intro σ H Q ⟨r, aS, S, E, p⟩
  refine ⟨r, aS, S, E, ?_⟩
  cases q : ms r S with
  | bad =>
    cases dr with
    | true => rw [if_pos rfl] at p; unfold dFnS at p; rw [q] at p; exact p
    | false => rw [if_neg (by simp)] at p; unfold dFn at p; rw [q] at p; exact p
  | exc c S1 =>
    cases dr with
    | true => rw [if_pos rfl] at p; unfold dFnS at p; rw [q] at p; exact p
    | false => rw [if_neg (by simp)] at p; unfold dFn at p; rw [q] at p; exact p
  | ok ds S1 =>
    intro vs H1 x1 m1 k1
    have k2 := k1.app (hd H1)
    refine ⟨k2.len, ?_⟩
    cases dr with
    | true =>
      rw [if_pos rfl] at p; unfold dFnS at p; rw [q] at p
      simp only [R.bind_ok] at p
      obtain ⟨a, ha⟩ := k1.st (by rw [hn]; rfl)
      have ne := m1.ne
      refine ⟨_, aS, S1, ArgOk.re (T := T) (T' := ⟨T.K, T.w, T.cl, H1, aS⟩) rfl rfl rfl k2, Amb.re (T := T) (T' := ⟨T.K, T.w, T.cl, H1, aS⟩) rfl rfl rfl m1, ?_⟩
      cases qf : F (ds ++ dd) S1 with
      | bad => rw [qf] at p; exact p
      | exc c S2 =>
        rw [qf] at p
        exact fun H2 x2 m2 => p H2 (x1.trans x2) (Amb.re (T := ⟨T.K, T.w, T.cl, H1, aS⟩) rfl rfl rfl m2)
      | ok d S2 =>
        rw [qf] at p
        rintro v H2 ⟨x2, m2, k3⟩
        have m2' : Amb T aS H2 S2 := Amb.re (T := ⟨T.K, T.w, T.cl, H1, aS⟩) rfl rfl rfl m2
        refine p v H2 (x1.trans x2) m2' ?_
        cases fr with
        | false => exact Rep.re (T := ⟨T.K, T.w, T.cl, H1, aS⟩) rfl rfl rfl k3
        | true =>
          obtain ⟨G, k3, n3⟩ := k3
          have k3' : Ow1 T aS H2 v d G := Ow1.re (T := ⟨T.K, T.w, T.cl, H1, aS⟩) rfl rfl rfl k3 fun b hb e => by
            have := n3 b hb
            exact ne b e this
          exact ⟨G, k3', fun b hb => x1.un (n3 b hb) ne⟩
    | false =>
      rw [if_neg (by simp)] at p; unfold dFn at p; rw [q] at p
      simp only [R.bind_ok] at p
      have k2' : ArgOk ⟨T.K, T.w, T.cl, H1, none⟩ none H1 (sg ++ List.replicate dd.length false) (vs ++ dvs) (ds ++ dd) := by
        refine ArgOk.re (T := T) (T' := ⟨T.K, T.w, T.cl, H1, none⟩) rfl rfl rfl (ArgOk.noSt (aS := aS) ?_ k2)
        unfold noSt at hn ⊢
        rw [List.all_append, hn, List.all_eq_true.mpr fun b hb => by rw [(List.mem_replicate.mp hb).2]; rfl]
        rfl
      refine ⟨_, none, [], k2', Amb.no, ?_⟩
      have back : ∀ {H2 : Hp}, Ext none H1 H2 → Amb T aS H2 S1 := fun {H2} x2 => m1.keep x2.weak fun a e => by
        obtain ⟨_, vs, h, _⟩ := m1 a e
        rw [h]; exact x2 a _ h fun _ z => nomatch z
      cases qf : F (ds ++ dd) [] with
      | bad => rw [qf] at p; exact p
      | exc c S2 =>
        rw [qf] at p
        exact fun H2 x2 _ => p H2 (x1.trans x2.weak) (back x2)
      | ok d S2 =>
        rw [qf] at p
        rintro v H2 ⟨x2, _, k3⟩
        have x2 : Ext none H1 H2 := x2
        refine p v H2 (x1.trans x2.weak) (back x2) ?_
        cases fr with
        | false => exact Rep.re (T := ⟨T.K, T.w, T.cl, H1, none⟩) rfl rfl rfl k3
        | true =>
          obtain ⟨G, k3, n3⟩ := k3
          have k3' : Ow1 T aS H2 v d G := Ow1.re (T := ⟨T.K, T.w, T.cl, H1, none⟩) rfl rfl rfl k3 fun b hb e => m1.ne b e (n3 b hb)
          exact ⟨G, k3', fun b hb => x1.un (n3 b hb) m1.ne⟩
end
end DL

/-! DL7: calls of defs as rules; loops; comprehensions. -/
namespace DL
open PySem PySem.Spec PyProof.Rows L2

/-- a def that stands behind the top, its meaning F (sg: all its parameters; dd: its defaults) -/
structure DefOk (P : Program) (w : World) (K : PySem.W.Frag) (mg : Str → Option Value) (base : Heap) (cl : Nat → Addr) (x : Str) (k : Nat) (sg : List Bool) (fr : Bool) (F : Fn) (dd : List D) : Prop where
  ex : ∃ (f : Addr) (fd : FuncData) (ps : List Str), FnOk P w K mg base (L2.CX P w) k f fd ps (spD K w cl sg fr F) ∧ mg x = some (.ref f) ∧ PySem.W.keepIn K (.ref f) = true ∧ Binds K fd ps [] ∧
    ∃ (dvs : List V) (ds : List Value), Vals dvs ds ∧ Binds K fd ps ds ∧ ∀ (T : Fx) H, Reps T H dvs dd
theorem DefOk.imp {P : Program} {w : World} {K : PySem.W.Frag} {mg : Str → Option Value} {base : Heap} {cl : Nat → Addr} {x : Str} {k : Nat} {sg : List Bool} {fr : Bool} {F G : Fn} {dd : List D} (h : DefOk P w K mg base cl x k sg fr F dd) (i : ∀ ds S, G ds S ≠ .bad → F ds S = G ds S) : DefOk P w K mg base cl x k sg fr G dd := by
  obtain ⟨f, fd, ps, h1, h2⟩ := h.ex
  exact ⟨f, fd, ps, fn_imp h1 i, h2⟩
section
variable {X : Cx} {T : Fx} {W : WX}
theorem de_fn_core {fr dr : Bool} {x : Str} {k j : Nat} {sg : List Bool} {F : Fn} {p pos : Pos} {e : Expr} {es : List Expr} {ms : Ml} {dd : List D} (h : DefOk X.prog X.w X.K X.mg X.base T.cl x k (sg ++ List.replicate dd.length false) fr F dd)
    (hr : Room j X.A) (tk : Takes X W) (ha : DG X T W sg (e :: es) ms) (hl : k ≤ j) (hg : Gl X x) (hn : noSt sg = !dr) (hK : X.K = T.K) (hw : X.w = T.w) (hdb : (x == ("__debug__" : Str)) = false)
    (he : starEach (e :: es) X.env = (false, eval e X.env) :: starEach es X.env) (hpl : (backTo pos (starEach es X.env)).any (·.1) = false) :
    DE X T W (mdF fr) (.Call (.Name x p) (e :: es) [] pos) (if dr = true then dFnS F ms dd else dFn F ms dd) := by
  obtain ⟨f, fd, ps, h1, h2, h3, _, dvs, ds, h5, h6, h7⟩ := h.ex
  exact PE.imp (pe_callSD h1 (hr.mono hl) hg h2 h3 h6 h5 (fun σ => passAt tk σ) ha hdb he hpl) (tG_call (by exact hK) (by exact hw) rfl hn (h7 T))
/-- f(..) with all its arguments, a value -/
theorem de_fn {x : Str} {k j : Nat} {sg : List Bool} {F : Fn} {p pos : Pos} {e : Expr} {es : List Expr} {ms : Ml} {dd : List D} (h : DefOk X.prog X.w X.K X.mg X.base T.cl x k sg false F dd) (hr : Room j X.A) (tk : Takes X W) (ha : DG X T W sg (e :: es) ms)
    (hl : k ≤ j := by decide) (hg : Gl X x := by rfl) (hn : noSt sg = true := by rfl) (hK : X.K = T.K := by rfl) (hw : X.w = T.w := by rfl) (hdb : (x == ("__debug__" : Str)) = false := by decide)
    (he : starEach (e :: es) X.env = (false, eval e X.env) :: starEach es X.env := by rfl) (hpl : (backTo pos (starEach es X.env)).any (·.1) = false := by rfl) : DE X T W .val (.Call (.Name x p) (e :: es) [] pos) (dFn F ms []) := by
  obtain ⟨f, fd, ps, h1, h2, h3, h4, _⟩ := h.ex
  exact de_fn_core (fr := false) (dr := false) (dd := []) ⟨f, fd, ps, by simpa using h1, h2, h3, h4, [], [], .nil, h4, fun _ _ => .nil⟩ hr tk ha hl hg hn hK hw hdb he hpl
/-- .. a new list -/
theorem de_fnF {x : Str} {k j : Nat} {sg : List Bool} {F : Fn} {p pos : Pos} {e : Expr} {es : List Expr} {ms : Ml} {dd : List D} (h : DefOk X.prog X.w X.K X.mg X.base T.cl x k sg true F dd) (hr : Room j X.A) (tk : Takes X W) (ha : DG X T W sg (e :: es) ms)
    (hl : k ≤ j := by decide) (hg : Gl X x := by rfl) (hn : noSt sg = true := by rfl) (hK : X.K = T.K := by rfl) (hw : X.w = T.w := by rfl) (hdb : (x == ("__debug__" : Str)) = false := by decide)
    (he : starEach (e :: es) X.env = (false, eval e X.env) :: starEach es X.env := by rfl) (hpl : (backTo pos (starEach es X.env)).any (·.1) = false := by rfl) : DE X T W .f1 (.Call (.Name x p) (e :: es) [] pos) (dFn F ms []) := by
  obtain ⟨f, fd, ps, h1, h2, h3, h4, _⟩ := h.ex
  exact de_fn_core (fr := true) (dr := false) (dd := []) ⟨f, fd, ps, by simpa using h1, h2, h3, h4, [], [], .nil, h4, fun _ _ => .nil⟩ hr tk ha hl hg hn hK hw hdb he hpl
/-- .. that draws -/
theorem de_fnS {x : Str} {k j : Nat} {sg : List Bool} {F : Fn} {p pos : Pos} {e : Expr} {es : List Expr} {ms : Ml} {dd : List D} (h : DefOk X.prog X.w X.K X.mg X.base T.cl x k sg false F dd) (hr : Room j X.A) (tk : Takes X W) (ha : DG X T W sg (e :: es) ms)
    (hl : k ≤ j := by decide) (hg : Gl X x := by rfl) (hn : noSt sg = false := by rfl) (hK : X.K = T.K := by rfl) (hw : X.w = T.w := by rfl) (hdb : (x == ("__debug__" : Str)) = false := by decide)
    (he : starEach (e :: es) X.env = (false, eval e X.env) :: starEach es X.env := by rfl) (hpl : (backTo pos (starEach es X.env)).any (·.1) = false := by rfl) : DE X T W .val (.Call (.Name x p) (e :: es) [] pos) (dFnS F ms []) := by
  obtain ⟨f, fd, ps, h1, h2, h3, h4, _⟩ := h.ex
  exact de_fn_core (fr := false) (dr := true) (dd := []) ⟨f, fd, ps, by simpa using h1, h2, h3, h4, [], [], .nil, h4, fun _ _ => .nil⟩ hr tk ha hl hg hn hK hw hdb he hpl
theorem de_fnSF {x : Str} {k j : Nat} {sg : List Bool} {F : Fn} {p pos : Pos} {e : Expr} {es : List Expr} {ms : Ml} {dd : List D} (h : DefOk X.prog X.w X.K X.mg X.base T.cl x k sg true F dd) (hr : Room j X.A) (tk : Takes X W) (ha : DG X T W sg (e :: es) ms)
    (hl : k ≤ j := by decide) (hg : Gl X x := by rfl) (hn : noSt sg = false := by rfl) (hK : X.K = T.K := by rfl) (hw : X.w = T.w := by rfl) (hdb : (x == ("__debug__" : Str)) = false := by decide)
    (he : starEach (e :: es) X.env = (false, eval e X.env) :: starEach es X.env := by rfl) (hpl : (backTo pos (starEach es X.env)).any (·.1) = false := by rfl) : DE X T W .f1 (.Call (.Name x p) (e :: es) [] pos) (dFnS F ms []) := by
  obtain ⟨f, fd, ps, h1, h2, h3, h4, _⟩ := h.ex
  exact de_fn_core (fr := true) (dr := true) (dd := []) ⟨f, fd, ps, by simpa using h1, h2, h3, h4, [], [], .nil, h4, fun _ _ => .nil⟩ hr tk ha hl hg hn hK hw hdb he hpl
/-- .. where the last arguments are left out -/
theorem de_fnD {x : Str} {k j : Nat} {sg : List Bool} {F : Fn} {p pos : Pos} {e : Expr} {es : List Expr} {ms : Ml} {dd : List D} (h : DefOk X.prog X.w X.K X.mg X.base T.cl x k (sg ++ List.replicate dd.length false) false F dd) (hr : Room j X.A) (tk : Takes X W) (ha : DG X T W sg (e :: es) ms)
    (hl : k ≤ j := by decide) (hg : Gl X x := by rfl) (hn : noSt sg = true := by rfl) (hK : X.K = T.K := by rfl) (hw : X.w = T.w := by rfl) (hdb : (x == ("__debug__" : Str)) = false := by decide)
    (he : starEach (e :: es) X.env = (false, eval e X.env) :: starEach es X.env := by rfl) (hpl : (backTo pos (starEach es X.env)).any (·.1) = false := by rfl) : DE X T W .val (.Call (.Name x p) (e :: es) [] pos) (dFn F ms dd) :=
  de_fn_core (fr := false) (dr := false) h hr tk ha hl hg hn hK hw hdb he hpl
/-- f() -/
def dFn0 (F : Fn) : M := fun _ s => match F [] [] with
  | .ok d _ => .ok d s
  | _ => .bad
theorem de_fn0 {x : Str} {k j : Nat} {F : Fn} {p pos : Pos} {dd : List D} (h : DefOk X.prog X.w X.K X.mg X.base T.cl x k [] false F dd) (hr : Room j X.A) (tk : Takes X W)
    (hl : k ≤ j := by decide) (hg : Gl X x := by rfl) (hK : X.K = T.K := by rfl) (hw : X.w = T.w := by rfl) (hdb : (x == ("__debug__" : Str)) = false := by decide) : DE X T W .val (.Call (.Name x p) [] [] pos) (dFn0 F) := by
  obtain ⟨f, fd, ps, h1, h2, h3, h4, _⟩ := h.ex
  have hx : Passes (L2.CX X.prog X.w) X (fun _ _ _ => False) := fun pins σ H s e s' I c => passes_call (E := fun _ _ _ => False) tk (fun _ _ _ _ z => z.elim) pins σ H s e s' I c
  refine PE.imp (pe_call0 (E := fun _ _ _ => False) h1 (hr.mono hl) hg h2 h3 h4 .nil hx hdb) fun σ H Q ⟨r, aS, S, E, p⟩ => ?_
  refine ⟨rfl, [], none, [], trivial, Amb.no, ?_⟩
  unfold dFn0 at p
  cases q : F [] [] with
  | bad => rw [q] at p; exact p.elim
  | exc c s' => rw [q] at p; exact p.elim
  | ok d s' =>
    rw [q] at p
    rintro v H2 ⟨x2, _, k3⟩
    have x2 : Ext none H H2 := x2
    obtain ⟨K, w, cl, H0, a0⟩ := T
    refine p v H2 x2.weak (E.amb.keep x2.weak fun a e => ?_) (Rep.re (T := ⟨X.K, X.w, cl, H, none⟩) hK.symm hw.symm rfl k3)
    obtain ⟨_, vs, h, _⟩ := E.amb a e
    rw [h]; exact x2 a _ h fun _ z => nomatch z
end

/-! ### what is walked -/
/-- one turn: it goes on as long as there are items, and gives out the next -/
def One (T : Fx) (J : It) (ds : List D) (H1 : Hp) : Prop :=
  (∀ i d, ds[i]? = some d → J.go i H1 ∧ ∀ x H2, J.yld i H1 x H2 → (H2 = H1 ∨ ∃ p o, H1 p = none ∧ H2 = upd H1 p o) ∧ Rep T H2 x d) ∧ J.stop ds.length H1
/-- all later heaps: where nothing frozen changed (st), or nothing tracked but the drawing state -/
def Lat (st : Bool) (aS : Option Addr) (H H1 : Hp) : Prop := if st = true then Stb H H1 else Ext aS H H1
section
variable {X : Cx} {T : Fx} {W : WX}
def PostI (T : Fx) (W : WX) (st : Bool) (aS : Option Addr) (H : Hp) (σ : L2.St) (Q : It → Hp → Prop) : R (List D) → Prop
  | .ok ds S' => ∀ J H', Ext aS H H' → Amb T aS H' S' → (∀ H1, Lat st aS H' H1 → One T J ds H1) → Q J H'
  | .exc c S' => ∀ H', Ext aS H H' → Amb T aS H' S' → W (.ref (T.cl c)) none σ H'
  | .bad => False
def tI (T : Fx) (W : WX) (st : Bool) (m : Ml) : TI := fun σ H Q => ∃ r aS S, ER T aS H σ r S ∧ PostI T W st aS H σ Q (m r S)
def DI (X : Cx) (T : Fx) (W : WX) (st : Bool) (tg e : Expr) (m : Ml) : Prop := PI X tg e (tI T W st m)
theorem PI.imp {tg e : Expr} {t t' : TI} (h : PI X tg e t) (i : ∀ σ H Q, t' σ H Q → t σ H Q) : PI X tg e t' := ⟨fun pins s σ H R I q => h.run pins s σ H R I (i σ H R q)⟩
/-- the items of a value -/
def itemsOf : D → Option (List D)
  | .t ds => some ds
  | .l ds => some ds
  | .s x => some (x.cps.toList.map fun c => .s ⟨#[c]⟩)
  | _ => none
def iOf (m : M) : Ml := fun r s => (m r s).bind fun d s1 => match itemsOf d with
  | some ds => .ok ds s1
  | none => .bad
theorem lat_refl {st : Bool} {aS : Option Addr} {H : Hp} : Lat st aS H H := by
  unfold Lat; split
  · exact fun _ _ e _ => e
  · exact Ext.refl
theorem lat_trans {st : Bool} {aS : Option Addr} {H H1 H2 : Hp} (a : Lat st aS H H1) (b : Lat st aS H1 H2) : Lat st aS H H2 := by
  unfold Lat at *
  split
  · rename_i h; rw [if_pos h] at a b; exact a.trans b
  · rename_i h; rw [if_neg h] at a b; exact a.trans b
theorem lat_stb {st : Bool} {aS : Option Addr} {H H1 : Hp} (a : Lat st aS H H1) : Stb H H1 := by
  unfold Lat at a
  split at a
  · exact a
  · exact a.stb
theorem SqLof {K : PySem.W.Frag} {H : Hp} {a : Addr} {xs : List V} (h : Rd H a (.lst xs)) : SqL K H a xs := .inl h
theorem one_tup {H' H1 : Hp} {a : Addr} {vs : List V} {ds : List D} (h : SqT T.K H' a vs) (r : Reps T H' vs ds) (x : Stb H' H1) : One T (Itt T.K a) ds H1 := by
  have h1 := sqT_stb x h
  have r1 := Reps.stb x r
  refine ⟨fun i d e => ?_, ⟨vs, h1, by rw [r1.length]; exact Nat.le_refl _⟩⟩
  obtain ⟨v, e1, r2⟩ := r1.get e
  refine ⟨⟨vs, v, h1, e1⟩, fun y H2 q => ?_⟩
  obtain ⟨rfl, q⟩ := q
  have := q vs h1
  rw [e1] at this; cases this
  exact ⟨.inl rfl, r2⟩
theorem one_lst {H1 : Hp} {a : Addr} {vs : List V} {ds : List D} (h1 : SqL T.K H1 a vs) (r1 : Reps T H1 vs ds) : One T (Itl T.K a) ds H1 := by
  refine ⟨fun i d e => ?_, ⟨vs, h1, by rw [r1.length]; exact Nat.le_refl _⟩⟩
  obtain ⟨v, e1, r2⟩ := r1.get e
  refine ⟨⟨vs, v, h1, e1⟩, fun y H2 q => ?_⟩
  obtain ⟨rfl, q⟩ := q
  have := q vs h1
  rw [e1] at this; cases this
  exact ⟨.inl rfl, r2⟩
theorem one_str {H1 : Hp} {x : Str} : One T (Its x) (x.cps.toList.map fun c => D.s ⟨#[c]⟩) H1 := by
  refine ⟨fun i d e => ?_, by show x.cps.size ≤ _; simp⟩
  rw [List.getElem?_map] at e
  cases q : x.cps.toList[i]? with
  | none => rw [q] at e; cases e
  | some c =>
    rw [q] at e; cases e
    have hi : i < x.cps.size := by
      have := (List.getElem?_eq_some_iff.mp q).1
      simpa using this
    refine ⟨hi, fun y H2 q2 => ?_⟩
    obtain ⟨rfl, c', e', rfl⟩ := q2
    have : some c = some c' := by rw [← q, ← e']; simp
    cases this
    exact ⟨.inl rfl, .s _⟩
/-- a tuple, a list, a text: one value, whatever it is -/
def iAny (K : PySem.W.Frag) (tl : TE) : TI := fun σ H R => tl σ H fun x H1 =>
  (∃ a xs, x = .ref a ∧ SqT K H1 a xs ∧ R (Itt K a) H1) ∨ (∃ a xs, x = .ref a ∧ SqL K H1 a xs ∧ R (Itl K a) H1) ∨ ∃ z, x = .str z ∧ R (Its z) H1
theorem pi_any {tg l : Expr} {tl : TE} (hl : PE X l tl) : PI X tg l (iAny X.K tl) := by
  constructor
  intro pins s σ H R I h
  refine thn (hl.run pins s σ H _ I h) ?_
  rintro v s1 ⟨x, H1, I1, r1, ⟨a, xs, rfl, hq, q⟩ | ⟨a, xs, rfl, hq, q⟩ | ⟨z, rfl, q⟩⟩
  · cases r1
    obtain ⟨its, rv, p, hz⟩ := I1.tuple hq
    exact wpAny_pyIter_tuple (show s1.heap.IsTuple a its.toArray from p) (pi_one (tk := s1.toks) I1 _ (turn_tuple a _) ⟨_, Heap.get?_push_size _ rfl, rfl, rfl⟩ q)
  · cases r1
    obtain ⟨its, rv, p, hz⟩ := I1.list hq
    exact wpAny_pyIter_list p.isList (pi_one (tk := s1.toks) I1 _ (turn_list a _) ⟨_, Heap.get?_push_size _ rfl, rfl, rfl⟩ q)
  · obtain ⟨t, rfl⟩ := r1
    by_cases ha : (z.cps.all (· < 128)) = true
    · exact wpAny_pyIter_ascii ha (pi_one (tk := s1.toks) I1 _ (turn_str _ z t "str_ascii_iterator" (.inl rfl)) ⟨_, Heap.get?_push_size _ rfl, rfl, rfl⟩ q)
    · exact wpAny_pyIter_wide (by simpa using ha) (pi_one (tk := s1.toks) I1 _ (turn_str _ z t "str_iterator" (.inr rfl)) ⟨_, Heap.get?_push_size _ rfl, rfl, rfl⟩ q)
theorem tI_any {st : Bool} {md : Md} {m : M} (hK : X.K = T.K) (hm : (md = .val ∧ st = true) ∨ (md = .b1 ∧ st = false)) : ∀ σ H R, tI T W st (iOf m) σ H R → iAny X.K (tE T W md m) σ H R := by
  intro σ H Rr ⟨r, aS, S, E, p⟩
  refine ⟨r, aS, S, E, ?_⟩
  rw [hK]
  unfold iOf at p
  cases q : m r S with
  | bad => rw [q] at p; exact p
  | exc c S1 => rw [q] at p; exact p
  | ok d S1 =>
    rw [q] at p
    simp only [R.bind_ok] at p
    intro v H1 x1 m1 k1
    cases qi : itemsOf d with
    | none => rw [qi] at p; exact p.elim
    | some ds =>
      rw [qi] at p
      rcases hm with ⟨rfl, rfl⟩ | ⟨rfl, rfl⟩
      · have k1 : Rep T H1 v d := k1
        cases k1 with
        | t h rr => cases qi; exact .inl ⟨_, _, rfl, h, p _ H1 x1 m1 fun H2 l => one_tup h rr (lat_stb l)⟩
        | l h rr =>
          cases qi
          refine .inr (.inl ⟨_, _, rfl, SqLof (fzL_bo m1 h).1, p _ H1 x1 m1 fun H2 l => ?_⟩)
          have h2 := fzL_stb (lat_stb l) h
          exact one_lst (.inl (.inr h2)) (Reps.stb (lat_stb l) rr)
        | s x => cases qi; exact .inr (.inr ⟨x, rfl, p _ H1 x1 m1 fun H2 l => one_str⟩)
        | n => cases qi
        | b _ => cases qi
        | i _ => cases qi
        | m _ _ _ => cases qi
        | x _ => cases qi
        | k _ _ => cases qi
      · have k1 : B1 T aS H1 v d := k1
        cases d with
        | t _ => cases k1 with | t h rr => cases qi; exact .inl ⟨_, _, rfl, h, p _ H1 x1 m1 fun H2 l => one_tup h rr (lat_stb l)⟩
        | l _ =>
          obtain ⟨a, vs, rfl, h, rr⟩ := k1
          cases qi
          refine .inr (.inl ⟨_, _, rfl, SqLof h.1, p _ H1 x1 m1 fun H2 l => ?_⟩)
          have l : Ext aS H1 H2 := l
          exact one_lst (SqLof (boL_ext l h).1) (Reps.ext l rr)
        | s x => cases k1 with | s _ => cases qi; exact .inr (.inr ⟨x, rfl, p _ H1 x1 m1 fun H2 l => one_str⟩)
        | n => cases qi
        | b _ => cases qi
        | i _ => cases qi
        | m _ _ => cases qi
        | x _ => cases qi
        | k _ => cases qi
theorem di_val {tg e : Expr} {m : M} (h : DE X T W .val e m) (hK : X.K = T.K := by rfl) : DI X T W true tg e (iOf m) := PI.imp (pi_any h) (tI_any hK (.inl ⟨rfl, rfl⟩))
theorem di_b1 {tg e : Expr} {m : M} (h : DE X T W .b1 e m) (hK : X.K = T.K := by rfl) : DI X T W false tg e (iOf m) := PI.imp (pi_any h) (tI_any hK (.inr ⟨rfl, rfl⟩))

/-- range(n), range(a, b) -/
def intsD (lo : Int) (n : Nat) : List D := (List.range n).map fun k => .i (lo + (k : Nat))
def inR (i : Int) : Bool := decide (-(2 ^ 62) ≤ i) && decide (i < 2 ^ 62)
def iRange1 (m : M) : Ml := fun r s => (m r s).bind fun d s1 => match d with
  | .i n => if inR n = true then .ok (intsD 0 n.toNat) s1 else .bad
  | _ => .bad
def iRange2 (m n : M) : Ml := fun r s => (m r s).bind fun d s1 => (n r s1).bind fun e s2 => match d, e with
  | .i a, .i b => if (inR a && inR b) = true then .ok (intsD a (b - a).toNat) s2 else .bad
  | _, _ => .bad
theorem intsD_get {lo : Int} {n i : Nat} {d : D} (h : (intsD lo n)[i]? = some d) : i < n ∧ d = .i (lo + (i : Nat)) := by
  unfold intsD at h
  rw [List.getElem?_map] at h
  cases q : (List.range n)[i]? with
  | none => rw [q] at h; cases h
  | some k =>
    rw [q] at h
    obtain ⟨h1, h2⟩ := List.getElem?_eq_some_iff.mp q
    rw [List.length_range] at h1
    rw [List.getElem_range] at h2
    subst h2
    cases h
    exact ⟨h1, rfl⟩
theorem one_range {lo : Int} {n : Nat} {H1 : Hp} : One T (Itr lo n) (intsD lo n) H1 := by
  refine ⟨fun i d e => ?_, by show n ≤ _; unfold intsD; simp⟩
  obtain ⟨h1, rfl⟩ := intsD_get e
  refine ⟨h1, fun y H2 q => ?_⟩
  obtain ⟨rfl, rfl⟩ := q
  exact ⟨.inl rfl, .i _⟩
theorem inR_bd {i : Int} (h : inR i = true) : -(2 ^ 62) ≤ i ∧ i < 2 ^ 62 := by
  unfold inR at h
  rw [Bool.and_eq_true, decide_eq_true_eq, decide_eq_true_eq] at h
  exact h
theorem di_range1 {tg a : Expr} {m : M} {p pos : Pos} {st : Bool} (ha : DE X T W .val a m) (hm : X.mg "range" = none) (hg : Gl X "range" := by rfl) (hs : starEach [a] X.env = [(false, eval a X.env)] := by rfl) : DI X T W st tg (.Call (.Name "range" p) [a] [] pos) (iRange1 m) := by
  refine PI.imp (pi_range1 hg hm (pa_cons ha pa_nil (hs := hs)) hs) fun σ H Rr ⟨r, aS, S, E, p⟩ => ⟨r, aS, S, E, ?_⟩
  unfold iRange1 at p
  cases q : m r S with
  | bad => rw [q] at p; exact p
  | exc c S1 => rw [q] at p; exact p
  | ok d S1 =>
    rw [q] at p
    simp only [R.bind_ok] at p
    intro v H1 x1 m1 k1
    have k1 : Rep T H1 v d := k1
    cases k1 with
    | i n =>
      simp only at p
      split at p
      · rename_i hn
        obtain ⟨b1, b2⟩ := inR_bd hn
        exact ⟨n, rfl, b1, b2, p _ H1 x1 m1 fun H2 l => one_range⟩
      · exact p.elim
    | n => exact p.elim
    | b _ => exact p.elim
    | s _ => exact p.elim
    | t _ _ => exact p.elim
    | l _ _ => exact p.elim
    | m _ _ _ => exact p.elim
    | x _ => exact p.elim
    | k _ _ => exact p.elim
theorem di_range2 {tg a b : Expr} {m n : M} {p pos : Pos} {st : Bool} (ha : DE X T W .val a m) (hb : DE X T W .val b n) (hm : X.mg "range" = none) (hg : Gl X "range" := by rfl) (hs : starEach [a, b] X.env = [(false, eval a X.env), (false, eval b X.env)] := by rfl) (hs2 : starEach [b] X.env = [(false, eval b X.env)] := by rfl) : DI X T W st tg (.Call (.Name "range" p) [a, b] [] pos) (iRange2 m n) := by
  refine PI.imp (pi_range2 hg hm (pa_cons ha (pa_cons hb pa_nil (hs := hs2)) (hs := by rw [hs, hs2])) hs hs2) fun σ H Rr ⟨r, aS, S, E, p⟩ => ⟨r, aS, S, E, ?_⟩
  unfold iRange2 at p
  cases q : m r S with
  | bad => rw [q] at p; exact p
  | exc c S1 => rw [q] at p; exact p
  | ok d S1 =>
    rw [q] at p
    simp only [R.bind_ok] at p
    intro v H1 x1 m1 k1
    refine ⟨r, aS, S1, E.ext x1 m1, ?_⟩
    cases q2 : n r S1 with
    | bad => rw [q2] at p; exact p
    | exc c S2 => rw [q2] at p; exact fun H2 x2 m2 => p H2 (x1.trans x2) m2
    | ok e S2 =>
      rw [q2] at p
      simp only [R.bind_ok] at p
      intro u H2 x2 m2 k2
      split at p
      · rename_i a b
        split at p
        · rename_i h
          rw [Bool.and_eq_true] at h
          obtain ⟨b1, b2⟩ := inR_bd h.1
          obtain ⟨b3, b4⟩ := inR_bd h.2
          have k1 : Rep T H1 v (.i a) := k1
          have k2 : Rep T H2 u (.i b) := k2
          cases k1
          cases k2
          exact ⟨a, b, rfl, ⟨b1, b2, b3, b4⟩, p _ H2 (x1.trans x2) m2 fun H3 l => one_range⟩
        · exact p.elim
      · exact p.elim

/-! ### targets -/
/-- a target: what the environment is behind the store; js: the slots that it stores to -/
def tTg (T : Fx) (js : List Nat) (f : D → En → Option En) : TG := fun v σ H Q => ∃ d r aS S, Rep T H v d ∧ ER T aS H σ r S ∧ ∃ r', f d r = some r' ∧
  ∀ σ', ER T aS H σ' r' S → σ'.length = σ.length → (∀ i, i ∉ js → σ'[i]? = σ[i]?) → Q σ' H
def DTg (X : Cx) (T : Fx) (js : List Nat) (tg : Expr) (f : D → En → Option En) : Prop := PG X tg (tTg T js f)
theorem PG.imp {tg : Expr} {t t' : TG} (h : PG X tg t) (i : ∀ v σ H Q, t' v σ H Q → t v σ H Q) : PG X tg t' := ⟨fun pins s σ H v u Q I r q => h.run pins s σ H v u Q I r (i v σ H Q q)⟩
def gN (j : Nat) : D → En → Option En := fun d r => if j < r.length then some (r.set j (some (.val d))) else none
theorem dt_name (j : Nat) {x : Str} {pos : Pos} (hN : X.N.Nodup) (hi : X.N[j]? = some x := by rfl) (hx : Loc X.env.scope x := by first | exact Or.inl rfl | exact Or.inr rfl)
    (hf : X.fn x = true ∨ X.env.scope.names.lookup x = some .local := by first | exact .inl rfl | exact .inr rfl) : DTg X T [j] (.Name x pos) (gN j) := by
  refine PG.imp (pg_name hN hi hx hf) fun v σ H Q ⟨d, r, aS, S, k, E, r', e, q⟩ => ?_
  unfold gN at e
  split at e
  · rename_i hj
    cases e
    exact q _ (E.setVal k hj) (by rw [List.length_set]) fun i hi => by
      rw [List.getElem?_set_ne]
      intro z; exact hi (by rw [z]; exact List.mem_cons_self)
  · cases e
/-- several names -/
def gNs : List Nat → List D → En → Option En
  | [], [], r => some r
  | j :: js, d :: ds, r => if j < r.length then gNs js ds (r.set j (some (.val d))) else none
  | _, _, _ => none
def tTgs (T : Fx) (js : List Nat) : TGs := fun vs σ H Q => ∃ ds r aS S, Reps T H vs ds ∧ ER T aS H σ r S ∧ ∃ r', gNs js ds r = some r' ∧
  ∀ σ', ER T aS H σ' r' S → σ'.length = σ.length → (∀ i, i ∉ js → σ'[i]? = σ[i]?) → Q σ' H
def DTgs (X : Cx) (T : Fx) (tgs : List Expr) (js : List Nat) : Prop := PGs X tgs (tTgs T js)
theorem PGs.imp {tg : List Expr} {t t' : TGs} (h : PGs X tg t) (i : ∀ v σ H Q, t' v σ H Q → t v σ H Q) : PGs X tg t' := ⟨fun pins s σ H v u Q I r q => h.run pins s σ H v u Q I r (i v σ H Q q)⟩
theorem dts_nil : DTgs X T [] [] := by
  refine PGs.imp pgs_nil fun vs σ H Q ⟨ds, r, aS, S, k, E, r', e, q⟩ => ?_
  cases ds with
  | cons d ds => cases e
  | nil => cases k; cases e; exact ⟨rfl, q σ E rfl fun _ _ => rfl⟩
theorem dts_cons (j : Nat) {x : Str} {pos : Pos} {tgs : List Expr} {js : List Nat} (h : DTgs X T tgs js) (hN : X.N.Nodup) (hi : X.N[j]? = some x := by rfl) (hx : Loc X.env.scope x := by first | exact Or.inl rfl | exact Or.inr rfl)
    (hf : X.fn x = true ∨ X.env.scope.names.lookup x = some .local := by first | exact .inl rfl | exact .inr rfl) (hs : (assignEach (.Name x pos :: tgs) X.env).map (·.2) = assign (.Name x pos) X.env :: (assignEach tgs X.env).map (·.2) := by rfl) : DTgs X T (.Name x pos :: tgs) (j :: js) := by
  refine PGs.imp (pgs_cons (pg_name hN hi hx hf) h hs) fun vs σ H Q ⟨ds, r, aS, S, k, E, r', e, q⟩ => ?_
  cases ds with
  | nil => cases e
  | cons d ds =>
    cases k with
    | @cons v vs _ _ k ks =>
      have e : (if j < r.length then gNs js ds (r.set j (some (.val d))) else none) = some r' := e
      by_cases hj : j < r.length
      · rw [if_pos hj] at e
        refine ⟨v, vs, rfl, ds, r.set j (some (.val d)), aS, S, ks, E.setVal k hj, r', e, fun σ' E' l o => q σ' E' (by rw [l, List.length_set]) fun i hi => ?_⟩
        rw [o i fun z => hi (List.mem_cons_of_mem _ z), List.getElem?_set_ne]
        intro z; exact hi (by rw [z]; exact List.mem_cons_self)
      · rw [if_neg hj] at e; cases e
def gT (js : List Nat) : D → En → Option En := fun d r => match d with
  | .t ds => gNs js ds r
  | _ => none
def gL (js : List Nat) : D → En → Option En := fun d r => match d with
  | .l ds => gNs js ds r
  | _ => none
theorem gNs_len : ∀ {js : List Nat} {ds : List D} {r r' : En}, gNs js ds r = some r' → ds.length = js.length
  | [], [], _, _, _ => rfl
  | j :: js, d :: ds, r, r', e => by
    have e : (if j < r.length then gNs js ds (r.set j (some (.val d))) else none) = some r' := e
    split at e
    · exact congrArg (· + 1) (gNs_len e)
    · cases e
  | [], _ :: _, _, _, e => by cases e
  | _ :: _, [], _, _, e => by cases e
theorem dt_tup {es : List Expr} {k n : Nat} {pos : Pos} {js : List Nat} (h : DTgs X T es js) (hc : X.calm = true := by rfl) (hK : X.K = T.K := by rfl) (hl : js.length = n := by rfl) (hn : (assignEach es X.env).length = n := by rfl) (hst : (assignEach es X.env).findIdx? (·.1) = none := by rfl) : DTg X T js (.Tuple es k pos) (gT js) := by
  refine PG.imp (pg_tup hc h hn hst) fun v σ H Q ⟨d, r, aS, S, k, E, r', e, q⟩ => ?_
  cases k with
  | t h rr => exact ⟨_, _, rfl, by rw [hK]; exact h, by rw [rr.length, ← hl]; exact gNs_len e, _, r, aS, S, rr, E, r', e, q⟩
  | n => cases e
  | b _ => cases e
  | i _ => cases e
  | s _ => cases e
  | l _ _ => cases e
  | m _ _ _ => cases e
  | x _ => cases e
  | k _ _ => cases e
theorem dt_lst {es : List Expr} {k n : Nat} {pos : Pos} {js : List Nat} (h : DTgs X T es js) (hc : X.calm = true := by rfl) (hK : X.K = T.K := by rfl) (hl : js.length = n := by rfl) (hn : (assignEach es X.env).length = n := by rfl) (hst : (assignEach es X.env).findIdx? (·.1) = none := by rfl) : DTg X T js (.Tuple es k pos) (gL js) := by
  refine PG.imp (pg_lst hc h hn hst) fun v σ H Q ⟨d, r, aS, S, k, E, r', e, q⟩ => ?_
  cases k with
  | l h rr => exact ⟨_, _, rfl, SqLof (fzL_bo E.amb h).1, by rw [rr.length, ← hl]; exact gNs_len e, _, r, aS, S, rr, E, r', e, q⟩
  | n => cases e
  | b _ => cases e
  | i _ => cases e
  | s _ => cases e
  | t _ _ => cases e
  | m _ _ _ => cases e
  | x _ => cases e
  | k _ _ => cases e
/-- target = e -/
def sAsg (f : D → En → Option En) (m : M) : MS := sE m fun d r s => match f d r with
  | some r' => .nx r' s
  | none => .bad
theorem ds_asg {fr : Bool} {tg e : Expr} {m : M} {js : List Nat} {f : D → En → Option En} {pos : Pos} (h : DE X T W .val e m) (hg : DTg X T js tg f) (hs : swapsWithSole [tg] e pos.line X.env = pure false := by rfl) (hw : swappedStores [tg] e X.env = pure none := by rfl)
    (h1 : (assignEach [tg] X.env).map (·.2) = [assign tg X.env] := by rfl) : DS X T W fr (.Assign [tg] e pos) (sAsg f m) :=
  fun N c => PS.imp (ps_asg h hg hs hw h1) fun E σ H q => tE_of c q fun r aS S S' d v H' e x e' nh km p => by
    cases qf : f d r with
    | none => rw [qf] at p; exact p.elim
    | some r' => rw [qf] at p; exact ⟨d, r, aS, S', km, e', r', qf, fun σ' E' _ _ => p σ' H' aS E' nh⟩
end
end DL

/-! DL8: for, while, list comprehensions. -/
namespace DL
open PySem PySem.Spec PyProof.Rows L2
section
variable {X : Cx} {T : Fx} {W : WX} {fr : Bool}
/-- the turns of a for -/
def loopF (f : D → En → Option En) (b : MS) : List D → MS
  | [] => fun r s => .nx r s
  | d :: ds => fun r s => match f d r with
    | none => .bad
    | some r1 => match b r1 s with
      | .nx r2 s2 => loopF f b ds r2 s2
      | .cont r2 s2 => loopF f b ds r2 s2
      | .brk r2 s2 => .nx r2 s2
      | .ret d s2 => .ret d s2
      | .exc c r2 s2 => .exc c r2 s2
      | .bad => .bad
def sFor (it : Ml) (f : D → En → Option En) (b : MS) : MS := fun r s => match it r s with
  | .ok ds s1 => loopF f b ds r s1
  | .exc c s1 => .exc c r s1
  | .bad => .bad
theorem tS_turn {N : Hp → Prop} {f : D → En → Option En} {b : MS} {d : D} {ds : List D} {E : Ends} {r r1 : En} {aS : Option Addr} {S : Sg} {σ : L2.St} {H : Hp} {N' : L2.St → Hp → Prop} {M : Hp → Prop}
    (p : PostS T N W fr E (loopF f b (d :: ds) r S)) (hf : f d r = some r1) (e : ER T aS H σ r1 S) (hm : N H ∧ M H)
    (k : ∀ σ' H' aS' r' S', ER T aS' H' σ' r' S' → N H' ∧ M H' → PostS T N W fr E (loopF f b ds r' S') → N' σ' H') : tS T (fun H => N H ∧ M H) W fr b { E with nx := N', ct := N', bk := E.nx } σ H := by
  refine ⟨r1, aS, S, e, hm, ?_⟩
  have p : PostS T N W fr E (match f d r with
    | none => .bad
    | some r1 => match b r1 S with
      | .nx r2 s2 => loopF f b ds r2 s2
      | .cont r2 s2 => loopF f b ds r2 s2
      | .brk r2 s2 => .nx r2 s2
      | .ret d s2 => .ret d s2
      | .exc c r2 s2 => .exc c r2 s2
      | .bad => .bad) := p
  rw [hf] at p
  simp only at p
  cases q : b r1 S with
  | nx r2 s2 => rw [q] at p; exact fun σ' H' aS' e' n => k σ' H' aS' r2 s2 e' n p
  | cont r2 s2 => rw [q] at p; exact fun σ' H' aS' e' n => k σ' H' aS' r2 s2 e' n p
  | brk r2 s2 => rw [q] at p; exact fun σ' H' aS' e' n => p σ' H' aS' e' n.1
  | ret d s2 => rw [q] at p; exact p
  | exc c r2 s2 => rw [q] at p; exact fun σ' H' aS' e' n => p σ' H' aS' e' n.1
  | bad => rw [q] at p; exact p
theorem ds_for {tg iter : Expr} {body : List Stmt} {it : Ml} {js : List Nat} {f : D → En → Option En} {b : MS} {pos : Pos} (hp : PassesOwn (model X.prog X.w) X.A X.env X.xe) (hi : DI X T W true tg iter it) (hg : DTg X T js tg f) (hb : DSs X T W fr body b) (hc : X.calm = true := by rfl)
    (hs : ∀ x, foldedSetIterable iter X.env x = pure x := by intro _; rfl) : DS X T W fr (.For tg iter body [] pos) (sFor it f b) := by
  intro N cN
  have hb' : PSs X body (fun D σ H => ∃ M : Hp → Prop, Cl M ∧ tS T (fun H => N H ∧ M H) W fr b D σ H) :=
    ⟨fun pins s σ H D I ⟨M, cM, q⟩ => (hb _ fun H H' s n => ⟨cN _ _ s n.1, cM _ _ s n.2⟩).run pins s σ H D I q⟩
  refine PS.imp (ps_for hp hc hi hg hb' hs) fun E σ H ⟨r, aS, S, e, n, p⟩ => ⟨r, aS, S, e, ?_⟩
  unfold sFor at p
  cases q : it r S with
  | bad => rw [q] at p; exact p
  | exc c S1 => rw [q] at p; exact fun H' x a => p σ H' aS (e.ext x a) (cN _ _ x.stb n)
  | ok ds S1 =>
    rw [q] at p
    intro J H1 x1 m1 one
    let M : Hp → Prop := fun H2 => ∀ H3, Stb H2 H3 → One T J ds H3
    have cM : Cl M := fun H2 H3 s h H4 s2 => h H4 (s.trans s2)
    refine ⟨fun i m σ H => m = ds.length - i ∧ i ≤ ds.length ∧ N H ∧ M H ∧ ∃ r aS S, ER T aS H σ r S ∧ PostS T N W fr E (loopF f b (ds.drop i) r S), ⟨_, rfl, Nat.zero_le _, cN _ _ x1.stb n, fun H3 s => one H3 s, r, aS, S1, e.ext x1 m1, p⟩, ?_⟩
    rintro i m σ2 H2 ⟨rfl, hi, nh, mh, r2, aS2, S2, e2, p2⟩
    have o := mh H2 fun _ _ e _ => e
    by_cases hlt : i < ds.length
    · obtain ⟨d, hd⟩ : ∃ d, ds[i]? = some d := ⟨_, List.getElem?_eq_getElem hlt⟩
      have hdr : ds.drop i = d :: ds.drop (i + 1) := by
        rw [List.drop_eq_getElem_cons hlt]
        rw [List.getElem?_eq_getElem hlt] at hd
        cases hd; rfl
      rw [hdr] at p2
      obtain ⟨go, yl⟩ := o.1 i d hd
      refine .inr ⟨go, fun σ' H' => N H' ∧ M H' ∧ ∃ r aS S, ER T aS H' σ' r S ∧ PostS T N W fr E (loopF f b (ds.drop (i + 1)) r S), fun σ' H' ⟨a1, a2, a3⟩ => ⟨ds.length - (i + 1), by omega, rfl, hlt, a1, a2, a3⟩, fun x H3 y => ?_⟩
      obtain ⟨hH, k⟩ := yl x H3 y
      have E3 : ER T aS2 H3 σ2 r2 S2 := by
        rcases hH with rfl | ⟨a, o, ha, rfl⟩
        · exact e2
        · exact e2.ext (Ext.upd ha) (e2.amb.new ha)
      have st3 : Stb H2 H3 := by
        rcases hH with rfl | ⟨a, o, ha, rfl⟩
        · exact fun _ _ e _ => e
        · exact (Ext.upd (aS := none) ha).stb
      cases qf : f d r2 with
      | none =>
        have p2 : PostS T N W fr E (match f d r2 with
          | none => .bad
          | some r1 => match b r1 S2 with
            | .nx r2 s2 => loopF f b (ds.drop (i + 1)) r2 s2
            | .cont r2 s2 => loopF f b (ds.drop (i + 1)) r2 s2
            | .brk r2 s2 => .nx r2 s2
            | .ret d s2 => .ret d s2
            | .exc c r2 s2 => .exc c r2 s2
            | .bad => .bad) := p2
        rw [qf] at p2
        exact p2.elim
      | some r1 =>
        refine ⟨d, r2, aS2, S2, k, E3, r1, qf, fun σ' E' _ _ => ⟨M, cM, ?_⟩⟩
        exact tS_turn p2 qf E' ⟨cN _ _ st3 nh, cM _ _ st3 mh⟩ fun σ4 H4 aS4 r4 S4 e4 n4 p4 => ⟨n4.1, n4.2, r4, aS4, S4, e4, p4⟩
    · have hle : i = ds.length := by omega
      subst hle
      rw [List.drop_length] at p2
      exact .inl ⟨o.2, p2 σ2 H2 aS2 e2 nh⟩

/-! ### while -/
/-- n: more than the turns that there may be -/
def whileF (t : Mt) (b : MS) : Nat → MS
  | 0 => fun _ _ => .bad
  | n + 1 => fun r s => match t r s with
    | .bad => .bad
    | .exc c s1 => .exc c r s1
    | .ok false s1 => .nx r s1
    | .ok true s1 => match b r s1 with
      | .nx r2 s2 => whileF t b n r2 s2
      | .cont r2 s2 => whileF t b n r2 s2
      | .brk r2 s2 => .nx r2 s2
      | .ret d s2 => .ret d s2
      | .exc c r2 s2 => .exc c r2 s2
      | .bad => .bad
theorem ds_while (n : Nat) {c : Expr} {body : List Stmt} {t : Mt} {b : MS} {pos : Pos} (hp : PassesOwn (model X.prog X.w) X.A X.env X.xe) (hc : DT X T W c t) (hb : DSs X T W fr body b) : DS X T W fr (.While c body [] pos) (whileF t b n) := by
  intro N cN
  refine PS.imp (ps_while hp hc (hb N cN)) fun E σ H ⟨r, aS, S, e, nh, p⟩ => ?_
  refine ⟨fun m σ H => N H ∧ ∃ r aS S, ER T aS H σ r S ∧ PostS T N W fr E (whileF t b m r S), ⟨n, nh, r, aS, S, e, p⟩, ?_⟩
  rintro m σ2 H2 ⟨n2, r2, aS2, S2, e2, p2⟩
  refine ⟨r2, aS2, S2, e2, ?_⟩
  cases m with
  | zero => exact p2.elim
  | succ m =>
    unfold whileF at p2
    cases q : t r2 S2 with
    | bad => rw [q] at p2; exact p2.elim
    | exc c S3 => rw [q] at p2; exact fun H' x a => p2 σ2 H' aS2 (e2.ext x a) (cN _ _ x.stb n2)
    | ok k S3 =>
      rw [q] at p2
      intro H3 x3 m3
      have n3 := cN _ _ x3.stb n2
      cases k with
      | false => rw [if_neg Bool.false_ne_true]; exact p2 σ2 H3 aS2 (e2.ext x3 m3) n3
      | true =>
        rw [if_pos rfl]
        simp only at p2
        refine ⟨fun σ' H' => N H' ∧ ∃ r aS S, ER T aS H' σ' r S ∧ PostS T N W fr E (whileF t b m r S), fun σ' H' h => ⟨m, Nat.lt_succ_self m, h⟩, r2, aS2, S3, e2.ext x3 m3, n3, ?_⟩
        cases qb : b r2 S3 with
        | nx r4 s4 => rw [qb] at p2; exact fun σ' H' aS' e' n' => ⟨n', r4, aS', s4, e', p2⟩
        | cont r4 s4 => rw [qb] at p2; exact fun σ' H' aS' e' n' => ⟨n', r4, aS', s4, e', p2⟩
        | brk r4 s4 => rw [qb] at p2; exact p2
        | ret d s4 => rw [qb] at p2; exact p2
        | exc c r4 s4 => rw [qb] at p2; exact p2
        | bad => rw [qb] at p2; exact p2

/-! ### list comprehensions -/
def wipeE (r : En) : List Nat → En
  | [] => r
  | j :: js => (wipeE r js).set j none
/-- the items made: t the test, m the element; the environment is that of the block -/
def compF (f : D → En → Option En) (t : Mt) (m : M) (r : En) : List D → Sg → R (List D)
  | [], s => .ok [] s
  | d :: ds, s => match f d r with
    | none => .bad
    | some r1 => (t r1 s).bind fun k s1 => if k = true then (m r1 s1).bind fun x s2 => (compF f t m r ds s2).bind fun xs s3 => .ok (x :: xs) s3 else compF f t m r ds s1
/-- nothing may be raised within -/
def noX {α : Type} : R α → R α
  | .exc _ _ => .bad
  | y => y
def dComp (it : Ml) (vs : List Nat) (f : D → En → Option En) (t : Mt) (m : M) : M := fun r s => (it r s).bind fun ds s1 => (noX (compF f t m (wipeE r vs) ds s1)).bind fun xs s2 => if xs.length ≤ sizeLine then .ok (.l xs) s2 else .bad
abbrev W0 : WX := fun _ _ _ _ => False
theorem ER.wipe {aS : Option Addr} {H : Hp} {σ : L2.St} {r : En} {S : Sg} (e : ER T aS H σ r S) : ∀ js : List Nat, ER T aS H (wipe σ js) (wipeE r js) S
  | [] => e
  | j :: js => (ER.wipe e js).drop j none
theorem wipe_get (σ : L2.St) (i : Nat) : ∀ vs : List Nat, (wipe σ vs)[i]? = if i ∈ vs then (σ[i]?).map (fun _ => none) else σ[i]?
  | [] => by simp [L2.wipe]
  | v :: vs => by
    unfold L2.wipe
    by_cases hv : v = i
    · subst hv
      rw [if_pos List.mem_cons_self]
      by_cases hl : v < (wipe σ vs).length
      · rw [List.getElem?_set_self hl]
        rw [wipe_length] at hl
        rw [List.getElem?_eq_getElem hl]; rfl
      · rw [List.set_eq_of_length_le (by omega), List.getElem?_eq_none (by omega)]
        rw [wipe_length] at hl
        rw [List.getElem?_eq_none (by omega)]; rfl
    · rw [List.getElem?_set_ne hv, wipe_get σ i vs]
      by_cases hm : i ∈ vs
      · rw [if_pos hm, if_pos (List.mem_cons_of_mem _ hm)]
      · rw [if_neg hm, if_neg (by intro z; rcases List.mem_cons.mp z with z | z; exact hv z.symm; exact hm z)]
theorem wipe_eq {σ σ2 : L2.St} {vs js : List Nat} (hl : σ2.length = (wipe σ vs).length) (ho : ∀ i, i ∉ js → σ2[i]? = (wipe σ vs)[i]?) (hj : ∀ j ∈ js, j ∈ vs) : wipe σ2 vs = wipe σ vs := by
  apply List.ext_getElem?
  intro i
  rw [wipe_get σ2 i vs, wipe_get σ i vs]
  by_cases hm : i ∈ vs
  · rw [if_pos hm, if_pos hm]
    rw [wipe_length] at hl
    by_cases h : i < σ.length
    · rw [List.getElem?_eq_getElem (by omega), List.getElem?_eq_getElem h]; rfl
    · rw [List.getElem?_eq_none (by omega), List.getElem?_eq_none (by omega)]
  · rw [if_neg hm, if_neg hm, ho i fun z => hm (hj i z), wipe_get σ i vs, if_neg hm]
def DTs (X : Cx) (T : Fx) (ifs : List Expr) (t : Mt) : Prop := PTs X ifs (tT T W0 t)
def mYes : Mt := fun _ s => .ok true s
theorem dts_yes : DTs X T [] mYes := ⟨fun pins s σ H Q I ⟨r, aS, S, e, p⟩ => pts_nil.run pins s σ H Q I (p H Ext.refl e.amb)⟩
theorem dts_one {c : Expr} {t : Mt} (h : DT X T W0 c t) : DTs X T [c] t := pts_one h
/-- the tests and the element of one turn -/
theorem comp_turn {md : Md} {aS : Option Addr} {r1 : En} {S1 Sf : Sg} {σ : L2.St} {H : Hp} {f : D → En → Option En} {t : Mt} {m : M} {rw0 : En} {ds rest : List D}
    (e : ER T aS H σ r1 S1) (q : ((t r1 S1).bind fun k s1 => if k = true then (m r1 s1).bind fun x s2 => (compF f t m rw0 ds s2).bind fun xs s3 => .ok (x :: xs) s3 else compF f t m rw0 ds s1) = .ok rest Sf) {K1 : V → Hp → Prop} {K2 : Hp → Prop}
    (h1 : ∀ y d H' S', Ext aS H H' → Amb T aS H' S' → (∃ Hm, Ext aS H Hm ∧ Ext aS Hm H' ∧ (∀ a, aS = some a → Hm a ≠ none) ∧ MdOk T aS Hm H' y d md) → ∀ xs, rest = d :: xs → compF f t m rw0 ds S' = .ok xs Sf → K1 y H')
    (h2 : ∀ H' S', Ext aS H H' → Amb T aS H' S' → compF f t m rw0 ds S' = .ok rest Sf → K2 H') :
    tT T W0 t σ H fun b H3 => if b = true then tE T W0 md m σ H3 K1 else K2 H3 := by
  refine ⟨r1, aS, S1, e, ?_⟩
  cases qt : t r1 S1 with
  | bad => rw [qt] at q; cases q
  | exc c S2 => rw [qt] at q; cases q
  | ok k S2 =>
    rw [qt] at q
    simp only [R.bind_ok] at q
    intro H3 x3 m3
    cases k with
    | false =>
      rw [if_neg Bool.false_ne_true] at q ⊢
      exact h2 H3 S2 x3 m3 q
    | true =>
      rw [if_pos rfl] at q ⊢
      refine ⟨r1, aS, S2, e.ext x3 m3, ?_⟩
      cases qm : m r1 S2 with
      | bad => rw [qm] at q; cases q
      | exc c S3 => rw [qm] at q; cases q
      | ok d S3 =>
        rw [qm] at q
        simp only [R.bind_ok] at q
        intro y H4 x4 m4 k4
        cases qc : compF f t m rw0 ds S3 with
        | bad => rw [qc] at q; cases q
        | exc c S4 => rw [qc] at q; cases q
        | ok xs S4 =>
          rw [qc] at q
          simp only [R.bind_ok] at q
          cases q
          exact h1 y d H4 S3 (x3.trans x4) m4 ⟨H3, x3, x4, m3.ne, k4⟩ xs rfl qc
theorem dComp_ok {it : Ml} {vs : List Nat} {f : D → En → Option En} {t : Mt} {m : M} {r : En} {s S1 : Sg} {ds : List D} {aS : Option Addr} {H : Hp} {σ : L2.St} {md : Md} {Q : VK} (qi : it r s = .ok ds S1) (p : Post T W aS H σ md Q (dComp it vs f t m r s)) :
    ∃ all Sf, compF f t m (wipeE r vs) ds S1 = .ok all Sf ∧ all.length ≤ sizeLine ∧ ∀ v H', Ext aS H H' → Amb T aS H' Sf → MdOk T aS H H' v (.l all) md → Q v H' := by
  unfold dComp at p
  rw [qi] at p
  simp only [R.bind_ok] at p
  cases qc : compF f t m (wipeE r vs) ds S1 with
  | bad => rw [qc] at p; exact p.elim
  | exc c S2 => rw [qc] at p; exact p.elim
  | ok all Sf =>
    rw [qc] at p
    simp only [noX, R.bind_ok] at p
    split at p
    · rename_i hl; exact ⟨all, Sf, rfl, hl, p⟩
    · exact p.elim
theorem tLc_of {st : Bool} {it : Ml} {js vs : List Nat} {f : D → En → Option En} {t : Mt} {m : M} (hj : ∀ j ∈ js, j ∈ vs) : ∀ σ H Q, tE T W .f1 (dComp it vs f t m) σ H Q → tLc (tI T W st it) (tTg T js f) (tT T W0 t) (tE T W0 .val m) vs σ H Q := by
  intro σ H Q ⟨r, aS, S, E, p⟩
  refine ⟨r, aS, S, E, ?_⟩
  cases qi : it r S with
  | bad => unfold dComp at p; rw [qi] at p; exact p
  | exc c S1 => unfold dComp at p; rw [qi] at p; exact p
  | ok ds S1 =>
    obtain ⟨all, Sf, qc, hl, p⟩ := dComp_ok qi p
    intro J H1 x1 m1 one D hD
    have nD : aS ≠ some D := m1.newNe hD
    refine ⟨fun i n H2 => n = ds.length - i ∧ i ≤ ds.length ∧ Ext aS H1 H2 ∧ ∃ acc done rest S2, H2 D = some (.lst acc) ∧ Reps T H2 acc done ∧ all = done ++ rest ∧ Amb T aS H2 S2 ∧ compF f t m (wipeE r vs) (ds.drop i) S2 = .ok rest Sf,
      ⟨_, rfl, Nat.zero_le _, Ext.upd hD, [], [], all, S1, upd_same, .nil, rfl, m1.new hD, qc⟩, ?_⟩
    rintro i n H2 ⟨rfl, hi2, x2, acc, done, rest, S2, hacc, racc, hall, m2, q2⟩
    have E2 : ER T aS H2 σ r S2 := E.ext (x1.trans x2) m2
    have lat : Lat st aS H1 H2 := by
      unfold Lat; split
      · exact x2.stb
      · exact x2
    have o := one H2 lat
    by_cases hlt : i < ds.length
    · obtain ⟨d, hd⟩ : ∃ d, ds[i]? = some d := ⟨_, List.getElem?_eq_getElem hlt⟩
      have hdr : ds.drop i = d :: ds.drop (i + 1) := by
        rw [List.drop_eq_getElem_cons hlt]
        rw [List.getElem?_eq_getElem hlt] at hd
        cases hd; rfl
      rw [hdr] at q2
      obtain ⟨go, yl⟩ := o.1 i d hd
      refine .inr ⟨go, fun H' => Ext aS H1 H' ∧ ∃ acc done rest S2, H' D = some (.lst acc) ∧ Reps T H' acc done ∧ all = done ++ rest ∧ Amb T aS H' S2 ∧ compF f t m (wipeE r vs) (ds.drop (i + 1)) S2 = .ok rest Sf, fun H' ⟨a1, a2⟩ => ⟨ds.length - (i + 1), by omega, rfl, hlt, a1, a2⟩, fun x H3 y => ?_⟩
      obtain ⟨hH, k⟩ := yl x H3 y
      have x3 : Ext aS H2 H3 := by
        rcases hH with rfl | ⟨a, o, ha, rfl⟩
        · exact Ext.refl
        · exact Ext.upd ha
      have m3 : Amb T aS H3 S2 := by
        rcases hH with rfl | ⟨a, o, ha, rfl⟩
        · exact m2
        · exact m2.new ha
      have q2 : (match f d (wipeE r vs) with
          | none => R.bad
          | some r1 => (t r1 S2).bind fun k s1 => if k = true then (m r1 s1).bind fun x s2 => (compF f t m (wipeE r vs) (ds.drop (i + 1)) s2).bind fun xs s3 => .ok (x :: xs) s3 else compF f t m (wipeE r vs) (ds.drop (i + 1)) s1) = .ok rest Sf := q2
      cases qf : f d (wipeE r vs) with
      | none => rw [qf] at q2; cases q2
      | some r1 =>
        rw [qf] at q2
        simp only at q2
        refine ⟨d, wipeE r vs, aS, S2, k, (E2.ext x3 m3).wipe vs, r1, qf, fun σ' E' hlen hout => ⟨wipe_eq hlen hout hj, ?_⟩⟩
        have hD3 : H3 D = some (.lst acc) := x3 D _ hacc fun _ => nD
        refine comp_turn E' q2 (fun y d' H' S' x4 m4 k4 xs hr qx => ?_) fun H' S' x4 m4 qx => ?_
        · obtain ⟨Hm, x5, x6, nm, k4⟩ := k4
          have hD4 : H' D = some (.lst acc) := x4 D _ hD3 fun _ => nD
          have racc' : Reps T H' acc done := Reps.ext x4 (Reps.ext x3 racc)
          refine ⟨acc, hD4, ?_, ?_⟩
          · rw [racc.length]
            rw [hall, hr, List.length_append, List.length_cons] at hl
            omega
          · have xu : Ext aS H1 (upd H' D (.lst (acc ++ [y]))) := fun b o e c => by
              have hb : b ≠ D := ne_of_none e hD
              rw [upd_ne hb]
              exact (x2.trans (x3.trans x4)) b o e c
            have stb : Stb H' (upd H' D (.lst (acc ++ [y]))) := fun b o e c => by
              have hb : b ≠ D := by
                rintro rfl
                rw [hD4] at e; cases e
                rcases c with ⟨_, z⟩ | ⟨_, _, z⟩ <;> cases z
              rw [upd_ne hb]; exact e
            refine ⟨xu, acc ++ [y], done ++ [d'], xs, S', upd_same, Rps.append (Reps.stb stb racc') (.cons (Rep.stb stb k4) .nil), by rw [hall, hr]; simp, fun a ea => ?_, qx⟩
            obtain ⟨n1, us, h1, h2⟩ := m4 a ea
            exact ⟨n1, us, by rw [upd_ne]; exact h1; rintro rfl; exact nD ea, Reps.stb stb h2⟩
        · exact ⟨x2.trans (x3.trans x4), acc, done, rest, S', x4 D _ hD3 fun _ => nD, Reps.ext x4 (Reps.ext x3 racc), hall, m4, qx⟩
    · have hle : i = ds.length := by omega
      subst hle
      rw [List.drop_length] at q2
      have q2 : (R.ok [] S2 : R (List DL.D)) = .ok rest Sf := q2
      cases q2
      rw [List.append_nil] at hall
      subst hall
      exact .inl ⟨o.2, p (.ref D) H2 (x1.trans x2) m2 ⟨[D], ⟨D, acc, rfl, rfl, nD, hacc, racc⟩, fun b hb => by
        have e : b = D := by simpa using hb
        subst e
        exact x1.un hD m1.ne⟩⟩
theorem de_lc {elt tg iter : Expr} {ifs : List Expr} {scope : Scope} {own : List (Str × Nat)} {pos : Pos} {st : Bool} {it : Ml} {js : List Nat} {f : D → En → Option En} {t : Mt} {m : M} (hN : X.N.Nodup) (hi : DI X T W st tg iter it) (ok : BlkOk X.N X.env.scope scope own)
    (hg : ∀ (s : Shared) (H : Hp) (C : Addr) (cl : List (Str × Addr)) (fp : List Addr), DTg (X.blk s H scope (compEnvC scope cl C X.env) fp) T js tg f) (ht : ∀ (s : Shared) (H : Hp) (C : Addr) (cl : List (Str × Addr)) (fp : List Addr), DTs (X.blk s H scope (compEnvC scope cl C X.env) fp) T ifs t)
    (he : ∀ (s : Shared) (H : Hp) (C : Addr) (cl : List (Str × Addr)) (fp : List Addr), DE (X.blk s H scope (compEnvC scope cl C X.env) fp) T W0 .val elt m) (hj : ∀ j ∈ js, j ∈ own.map (·.2) := by decide) (hc : X.calm = true := by rfl) (hs : ∀ x, foldedSetIterable iter X.env x = pure x := by intro _; rfl) :
    DE X T W .f1 (.ListComp elt [⟨tg, iter, ifs, 0⟩] scope pos) (dComp it (own.map (·.2)) f t m) :=
  PE.imp (pe_lc hc hN hi ok hg ht he hs) (tLc_of hj)
variable {fr : Bool}
/-- x = [..] on one line, x a plain local: one's own, or frozen -/
theorem ds_setLc (i : Nat) {y : Str} {py spos : Pos} {elt tg iter : Expr} {ifs : List Expr} {scope : Scope} {own : List (Str × Nat)} {pos : Pos} {st : Bool} {it : Ml} {js : List Nat} {f : D → En → Option En} {t : Mt} {m : M} (hN : X.N.Nodup) (hi : DI X T W st tg iter it) (ok : BlkOk X.N X.env.scope scope own)
    (hg : ∀ (s : Shared) (H : Hp) (C : Addr) (cl : List (Str × Addr)) (fp : List Addr), DTg (X.blk s H scope (compEnvC scope cl C X.env) fp) T js tg f) (ht : ∀ (s : Shared) (H : Hp) (C : Addr) (cl : List (Str × Addr)) (fp : List Addr), DTs (X.blk s H scope (compEnvC scope cl C X.env) fp) T ifs t)
    (he : ∀ (s : Shared) (H : Hp) (C : Addr) (cl : List (Str × Addr)) (fp : List Addr), DE (X.blk s H scope (compEnvC scope cl C X.env) fp) T W0 .val elt m) (hsw : swapsWith (.ListComp elt [⟨tg, iter, ifs, 0⟩] scope pos) (some (.Name y py)) spos.line X.env = pure true) (hy : X.N[i]? = some y := by rfl) (hyl : X.env.scope.names.lookup y = some .local := by rfl) (hj : ∀ j ∈ js, j ∈ own.map (·.2) := by decide) (hc : X.calm = true := by rfl) (hs : ∀ x, foldedSetIterable iter X.env x = pure x := by intro _; rfl) :
    DS X T W fr (.Assign [.Name y py] (.ListComp elt [⟨tg, iter, ifs, 0⟩] scope pos) spos) (sSetO i (dComp it (own.map (·.2)) f t m)) :=
  fun N c => PS.imp (ps_setLc hc hN hy hyl hsw hi ok hg ht he hs) fun E σ H q => tLc_of hj _ _ _ (tE_of c q fun r aS S S' d v H' e x e' nh km p => by
    obtain ⟨F, k, n⟩ := km
    by_cases hjl : i < r.length
    · rw [if_pos hjl] at p; exact p _ H' aS (e.setNew x e'.amb (e := .o1 d) k n (k.apart e'.amb) hjl) nh
    · rw [if_neg hjl] at p; exact p.elim)
/-- behind a statement a slot's own list becomes a value -/
def sThenF (j : Nat) (m : MS) : MS := fun r s => match m r s with
  | .nx r2 s2 => (match r2[j]? with
    | some (some (.o1 d)) => .nx (r2.set j (some (.val d))) s2
    | _ => .bad)
  | o => o
theorem ds_thenF (j : Nat) {st : Stmt} {m : MS} (h : DS X T W fr st m) : DS X T W fr st (sThenF j m) := by
  intro N c
  refine ⟨fun pins s σ H E I ⟨r, aS, S, er, nh, p⟩ => ?_⟩
  refine wpAny_mono ((h N c).run pins s σ H { E with nx := fun σ' H' => ∀ s', Inv X pins σ' H' s' → ∃ H2, Inv X pins σ' H2 s' ∧ E.nx σ' H2 } I ⟨r, aS, S, er, nh, ?_⟩) (fun fl s1 sp => ?_) fun _ _ z => z
  · unfold sThenF at p
    cases q : m r S with
    | nx r2 s2 =>
      rw [q] at p
      simp only at p
      intro σ' H' aS' e' n' s' I'
      split at p
      · rename_i d qj
        obtain ⟨H2, I2, st2, e2⟩ := ER.frz I' e' (.inl qj)
        exact ⟨H2, I2, p σ' H2 aS' e2 (c _ _ st2 n')⟩
      · exact p.elim
    | ret d s2 => rw [q] at p; exact p
    | brk r2 s2 => rw [q] at p; exact p
    | cont r2 s2 => rw [q] at p; exact p
    | exc ce r2 s2 => rw [q] at p; exact p
    | bad => rw [q] at p; exact p
  · cases fl with
    | next =>
      obtain ⟨σ', H', I', q⟩ := sp
      obtain ⟨H2, I2, q2⟩ := q s1 I'
      exact ⟨σ', H2, I2, q2⟩
    | brk => exact sp
    | cont => exact sp
    | ret u => exact sp
end
end DL

/-! DL9: operators, comparisons, subscripts, by values. -/
namespace DL
open PySem PySem.Spec PyProof.Rows L2

/-- an operation on two values, as they are read -/
def OpX (X : Cx) (T : Fx) (op : Value → Value → Sem Value) (f : D → D → Option D) (m1 m2 md : Md) : Prop :=
  ∀ (pins : List (Addr × Obj)) (s : Shared) (σ : L2.St) (H : Hp) (aS : Option Addr) (S : Sg) (x y : V) (u w : Value) (a b d : D) (Q : VK), Inv X pins σ H s → Amb T aS H S → RelV x u → RelV y w → RdOk T aS H x a m1 → RdOk T aS H y b m2 → f a b = some d →
    (∀ v H', Ext aS H H' → (∀ a, aS = some a → H' a = H a) → MdOk T aS H H' v d md → Q v H') → wpAny (model X.prog X.w) X.A (op u w) (EP X pins σ Q) X.xe s
/-- .. as a reading -/
def rX (T : Fx) (f : D → D → Option D) (m1 m2 md : Md) : R2 := fun x y H Q => ∃ aS S a b d, Amb T aS H S ∧ RdOk T aS H x a m1 ∧ RdOk T aS H y b m2 ∧ f a b = some d ∧
  ∀ v H', Ext aS H H' → (∀ a, aS = some a → H' a = H a) → MdOk T aS H H' v d md → Q v H'
theorem rX_d {T : Fx} {f : D → D → Option D} {m1 m2 md : Md} : OpD T (rX T f m1 m2 md) f m1 m2 md := fun aS H S x y a b d Q m r1 r2 e k => ⟨aS, S, a, b, d, m, r1, r2, e, k⟩
section
variable {X : Cx} {T : Fx} {W : WX}
theorem OpX.r {op : Value → Value → Sem Value} {f : D → D → Option D} {m1 m2 md : Md} (h : OpX X T op f m1 m2 md) : OpR X op (rX T f m1 m2 md) :=
  fun pins s σ H x y v u Q I rx ry ⟨aS, S, a, b, d, m, r1, r2, e, k⟩ => h pins s σ H aS S x y v u a b d Q I m rx ry r1 r2 e k
theorem de_bin {op : Operator} {a b : Expr} {ma mb : M} {f : D → D → Option D} {m1 m2 md : Md} {pos : Pos} (h : OpX X T (binaryOp op) f m1 m2 md) (ha : DE X T W m1 a ma) (hb : DE X T W m2 b mb) (h1 : m1.rd = true := by rfl) (h2 : m2.rd = true := by rfl) : DE X T W md (.BinOp a op b pos) (dOp f ma mb) :=
  de_op h.r rX_d ha hb h1 h2
theorem de_cmpx {op : CmpOp} {a b : Expr} {ma mb : M} {f : D → D → Option D} {m1 m2 md : Md} {pos : Pos} (h : OpX X T (compareOp op) f m1 m2 md) (ha : DE X T W m1 a ma) (hb : DE X T W m2 b mb) (hm : behindInMarks op b = false := by first | exact nomark _ | rfl) (h1 : m1.rd = true := by rfl) (h2 : m2.rd = true := by rfl) : DE X T W md (.Compare a [op] [b] pos) (dOp f ma mb) :=
  de_cmp h.r rX_d ha hb hm h1 h2
theorem dt_cmpx {op : CmpOp} {a b : Expr} {ma mb : M} {f : D → D → Option D} {m1 m2 : Md} {pos : Pos} (h : OpX X T (compareOp op) f m1 m2 .val) (ha : DE X T W m1 a ma) (hb : DE X T W m2 b mb) (hm : behindInMarks op b = false := by first | exact nomark _ | rfl) (h1 : m1.rd = true := by rfl) (h2 : m2.rd = true := by rfl) : DT X T W (.Compare a [op] [b] pos) (mB (dOp f ma mb)) :=
  dt_cmp h.r rX_d ha hb hm h1 h2
theorem de_chainx {op op' : CmpOp} {a b c : Expr} {f g : D → D → Option D} {ma mb mc : M} {pos : Pos} (h : OpX X T (compareOp op) f .bor .bor .val) (h' : OpX X T (compareOp op') g .bor .bor .val) (ha : DE X T W .bor a ma) (hb : DE X T W .bor b mb) (hc : DE X T W .bor c mc)
    (hm : lastMarks [op, op'] [b, c] = false := by with_unfolding_all rfl) : DE X T W .val (.Compare a [op, op'] [b, c] pos) (dChain f g ma mb mc) := de_chain h.r h'.r rX_d rX_d ha hb hc hm
theorem dt_chainx {op op' : CmpOp} {a b c : Expr} {f g : D → D → Option D} {ma mb mc : M} {pos : Pos} (h : OpX X T (compareOp op) f .bor .bor .val) (h' : OpX X T (compareOp op') g .bor .bor .val) (ha : DE X T W .bor a ma) (hb : DE X T W .bor b mb) (hc : DE X T W .bor c mc)
    (hm : lastMarks [op, op'] [b, c] = false := by with_unfolding_all rfl) : DT X T W (.Compare a [op, op'] [b, c] pos) (mB (dChain f g ma mb mc)) := dt_chain h.r h'.r rX_d rX_d ha hb hc hm

/-! ### ints -/
def iB (g : Int → Int → D) : D → D → Option D
  | .i a, .i b => some (g a b)
  | _, _ => none
theorem bor_int {aS : Option Addr} {H : Hp} {S : Sg} {x : V} {i : Int} {md : Md} (m : Amb T aS H S) (h : RdOk T aS H x (.i i) md) : x = .int i := by
  have h := h.bor m
  cases h; rfl
theorem bor_str {aS : Option Addr} {H : Hp} {S : Sg} {x : V} {z : Str} {md : Md} (m : Amb T aS H S) (h : RdOk T aS H x (.s z) md) : x = .str z := by
  have h := h.bor m
  cases h; rfl
theorem opx_int {op : Value → Value → Sem Value} {g : Int → Int → V} {f : Int → Int → D} (h : OpR X op (rI0 g)) (e : ∀ i j H, Rep T H (g i j) (f i j)) : OpX X T op (iB f) .bor .bor .val := by
  intro pins s σ H aS S x y u w a b d Q I m rx ry r1 r2 q k
  cases a with
  | i a =>
    cases b with
    | i b =>
      cases q
      exact h pins s σ H x y u w Q I rx ry ⟨a, b, bor_int m r1, bor_int m r2, k _ H Ext.refl (fun _ _ => rfl) (e a b H)⟩
    | _ => cases q
  | _ => cases q
def fLt : D → D → Option D := iB fun a b => .b (decide (a < b))
def fLe : D → D → Option D := iB fun a b => .b (decide (a ≤ b))
def fGt : D → D → Option D := iB fun a b => .b (decide (b < a))
def fGe : D → D → Option D := iB fun a b => .b (decide (b ≤ a))
def fSub : D → D → Option D := iB fun a b => .i (a - b)
theorem ox_lt : OpX X T (compareOp .Lt) fLt .bor .bor .val := opx_int op_lt fun _ _ _ => .b _
theorem ox_le : OpX X T (compareOp .LtE) fLe .bor .bor .val := opx_int op_le fun _ _ _ => .b _
theorem ox_gt : OpX X T (compareOp .Gt) fGt .bor .bor .val := opx_int op_gt fun _ _ _ => .b _
theorem ox_ge : OpX X T (compareOp .GtE) fGe .bor .bor .val := opx_int op_ge fun _ _ _ => .b _
theorem ox_sub : OpX X T (binaryOp .Sub) fSub .bor .bor .val := opx_int op_sub fun _ _ _ => .i _
def iBC (c : Int → Int → Bool) (g : Int → Int → D) : D → D → Option D
  | .i a, .i b => if c a b = true then some (g a b) else none
  | _, _ => none
theorem opx_intC {op : Value → Value → Sem Value} {C : Int → Int → Prop} {c : Int → Int → Bool} {g : Int → Int → V} {f : Int → Int → D} (h : OpR X op (rI C g)) (hc : ∀ i j, c i j = true → C i j) (e : ∀ i j H, Rep T H (g i j) (f i j)) : OpX X T op (iBC c f) .bor .bor .val := by
  intro pins s σ H aS S x y u w a b d Q I m rx ry r1 r2 q k
  cases a with
  | i a =>
    cases b with
    | i b =>
      unfold iBC at q
      simp only at q
      split at q
      · rename_i hcc
        cases q
        exact h pins s σ H x y u w Q I rx ry ⟨a, b, bor_int m r1, bor_int m r2, hc a b hcc, k _ H Ext.refl (fun _ _ => rfl) (e a b H)⟩
      · cases q
    | _ => cases q
  | _ => cases q
def fMod : D → D → Option D := iBC (fun _ j => decide (0 < j)) fun a b => .i (a % b)
def fDiv : D → D → Option D := iBC (fun _ j => decide (0 < j) && decide (j < 1073741824)) fun a b => .i (a / b)
def fPow : D → D → Option D := iBC (fun i j => decide (0 ≤ j) && decide (j ≤ 1000000) && decide (i.natAbs < 2 ^ 64)) fun a b => .i (a ^ b.toNat)
theorem ox_mod : OpX X T (binaryOp .Mod) fMod .bor .bor .val := opx_intC op_mod (fun i j h => of_decide_eq_true h) fun _ _ _ => .i _
theorem ox_div : OpX X T (binaryOp .FloorDiv) fDiv .bor .bor .val := opx_intC op_fdiv (fun i j h => by
  rw [Bool.and_eq_true, decide_eq_true_eq, decide_eq_true_eq] at h; exact h) fun _ _ _ => .i _
theorem ox_pow : OpX X T (binaryOp .Pow) fPow .bor .bor .val := opx_intC op_pow (fun i j h => by
  rw [Bool.and_eq_true, Bool.and_eq_true, decide_eq_true_eq, decide_eq_true_eq, decide_eq_true_eq] at h; exact ⟨h.1.1, h.1.2, h.2⟩) fun _ _ _ => .i _

/-! ### new things -/
theorem keepUpd {aS : Option Addr} {H : Hp} {S : Sg} (m : Amb T aS H S) {p : Addr} {o : HO} (hp : H p = none) : ∀ a, aS = some a → (upd H p o) a = H a := fun a e => by
  rw [upd_ne]; rintro rfl; exact m.ne _ e hp
theorem ow1_new {aS : Option Addr} {H : Hp} {S : Sg} (m : Amb T aS H S) {p : Addr} {vs : List V} {ds : List D} (hp : H p = none) (r : Reps T H vs ds) : MdOk T aS H (upd H p (.lst vs)) (.ref p) (.l ds) .f1 :=
  ⟨[p], ⟨p, vs, rfl, rfl, m.newNe hp, upd_same, Reps.ext (Ext.upd (aS := aS) hp) r⟩, fun b hb => by
    have e : b = p := by simpa using hb
    subst e; exact hp⟩
theorem tup_new {aS : Option Addr} {H : Hp} {p : Addr} {vs : List V} {ds : List D} (hp : H p = none) (r : Reps T H vs ds) : Rep T (upd H p (.tup vs)) (.ref p) (.t ds) :=
  .t (.inl (.inl upd_same)) (Reps.ext (Ext.upd (aS := aS) hp) r)
theorem f1_of {aS : Option Addr} {H H' : Hp} {v : V} {d : D} (h : Rep T H' v d) (hd : match d with | .l _ => False | .m _ _ => False | _ => True) : MdOk T aS H H' v d .f1 := by
  refine ⟨[], ?_, fun b hb => absurd hb (by simp)⟩
  cases d with
  | l _ => exact hd.elim
  | m _ _ => exact hd.elim
  | _ => exact ⟨rfl, h⟩
theorem b1_tup {aS : Option Addr} {H : Hp} {x : V} {ds : List D} (h : RdOk T aS H x (.t ds) .b1) : ∃ a vs, x = .ref a ∧ SqT T.K H a vs ∧ Reps T H vs ds := by
  have h' : Rep T H x (.t ds) := h
  cases h' with | t h1 r => exact ⟨_, _, rfl, h1, r⟩
theorem b1_lst {aS : Option Addr} {H : Hp} {x : V} {ds : List D} (h : RdOk T aS H x (.l ds) .b1) : ∃ a vs, x = .ref a ∧ Rd H a (.lst vs) ∧ Reps T H vs ds := by
  obtain ⟨a, vs, e, h, r⟩ := h
  exact ⟨a, vs, e, h.1, r⟩
/-- a tracked list's object -/
theorem rdL {pins : List (Addr × Obj)} {σ : L2.St} {H : Hp} {s : Shared} {a : Addr} {vs : List V} (I : Inv X pins σ H s) (h : Rd H a (.lst vs)) : ∃ (its : List Value) (n : Nat), Vals vs its ∧ vs.length ≤ sizeLine ∧ s.heap.get? a = some { cls := .type "list", data := .seq its.toArray n } := by
  obtain ⟨z, its, n, r, e⟩ := h.ok I.hok
  exact ⟨its, n, r, z, e⟩

/-! ### a + b -/
def fAdd : D → D → Option D
  | .i a, .i b => some (.i (a + b))
  | .s a, .s b => if a.length + b.length ≤ sizeLine then some (.s (a ++ b)) else none
  | .t a, .t b => if a.length + b.length ≤ sizeLine then some (.t (a ++ b)) else none
  | .l a, .l b => if a.length + b.length ≤ sizeLine then some (.l (a ++ b)) else none
  | _, _ => none
theorem ox_add (hK : X.K = T.K := by rfl) : OpX X T (binaryOp .Add) fAdd .b1 .b1 .f1 := by
  intro pins s σ H aS S x y u w a b d Q I m rx ry r1 r2 q k
  cases a with
  | i a =>
    cases b with
    | i b =>
      cases q
      exact op_add pins s σ H x y u w Q I rx ry ⟨a, b, bor_int m r1, bor_int m r2, k _ H Ext.refl (fun _ _ => rfl) (f1_of (.i _) trivial)⟩
    | _ => cases q
  | s a =>
    cases b with
    | s b =>
      have q : (if a.length + b.length ≤ sizeLine then some (D.s (a ++ b)) else none) = some d := q
      split at q
      · rename_i hl
        cases q
        exact op_add_str pins s σ H x y u w Q I rx ry ⟨a, b, bor_str m r1, bor_str m r2, hl, k _ H Ext.refl (fun _ _ => rfl) (f1_of (.s _) trivial)⟩
      · cases q
    | _ => cases q
  | t a =>
    cases b with
    | t b =>
      have q : (if a.length + b.length ≤ sizeLine then some (D.t (a ++ b)) else none) = some d := q
      split at q
      · rename_i hl
        cases q
        obtain ⟨p1, xs, rfl, h1, q1⟩ := b1_tup r1
        obtain ⟨p2, ys, rfl, h2, q2⟩ := b1_tup r2
        refine op_catA pins s σ H _ _ u w Q I rx ry ⟨p1, p2, xs, ys, rfl, rfl, by rw [hK]; exact h1, by rw [hK]; exact h2, by rw [q1.length, q2.length]; exact hl, fun e => ?_, fun _ e => ?_, fun _ _ p hp => ?_⟩
        · subst e; cases q1
          exact k _ H Ext.refl (fun _ _ => rfl) (f1_of (.t h2 q2) trivial)
        · subst e; cases q2
          rw [List.append_nil] at k
          exact k _ H Ext.refl (fun _ _ => rfl) (f1_of (.t h1 q1) trivial)
        · exact k _ _ (Ext.upd hp) (keepUpd m hp) (f1_of (tup_new (aS := aS) hp (Rps.append q1 q2)) trivial)
      · cases q
    | _ => cases q
  | l a =>
    cases b with
    | l b =>
      have q : (if a.length + b.length ≤ sizeLine then some (D.l (a ++ b)) else none) = some d := q
      split at q
      · rename_i hl
        cases q
        obtain ⟨p1, xs, rfl, h1, q1⟩ := b1_lst r1
        obtain ⟨p2, ys, rfl, h2, q2⟩ := b1_lst r2
        cases rx; cases ry
        obtain ⟨i1, n1, v1, z1, e1⟩ := rdL I h1
        obtain ⟨i2, n2, v2, z2, e2⟩ := rdL I h2
        have l1 := v1.length; have l2 := v2.length; have l3 := q1.length; have l4 := q2.length
        refine PySem.P.add_list e1 e2 ?_ (by rw [List.size_toArray, List.size_toArray]; omega)
        rw [show i1.toArray ++ i2.toArray = (i1 ++ i2).toArray by simp]
        exact ⟨.ref _, _, I.lnew (t' := s.toks) (v1.append v2) (by rw [List.length_append]; omega), rfl, k _ _ (Ext.upd I.fresh) (keepUpd m I.fresh) (ow1_new m I.fresh (Rps.append q1 q2))⟩
      · cases q
    | _ => cases q
  | _ => cases q

/-! ### data -/
mutual
theorem reads_of {pins : List (Addr × Obj)} {σ : L2.St} {H : Hp} {s : Shared} {aS : Option Addr} (I : Inv X pins σ H s) (hK : X.K = T.K) : ∀ (d : D) (v : V) (u : Value), Bor T aS H v d → (toPy d).plain = true → RelV v u → ∃ as, Reads s.heap u (toPy d) as
  | .n, _, _, h, _, r => by cases h; cases r; exact ⟨_, Reads.none⟩
  | .b x, _, _, h, _, r => by cases h; cases r; exact ⟨_, Reads.bool x⟩
  | .i i, _, _, h, _, r => by cases h; obtain ⟨t, rfl⟩ := r; exact ⟨_, Reads.int i t⟩
  | .s x, _, _, h, _, r => by cases h; obtain ⟨t, rfl⟩ := r; exact ⟨_, Reads.str x t⟩
  | .t ds, _, _, h, p, r => by
    cases h with
    | t hs ha =>
      cases r
      obtain ⟨its, rv, ⟨o, ho, hc, n, hd⟩, _⟩ := I.tuple (by rw [hK]; exact hs)
      obtain ⟨as, hr⟩ := reads_ofs I hK ds _ its ha p rv
      exact ⟨_, Reads.tuple ho hc hd hr⟩
  | .l ds, _, _, h, p, r => by
    cases h with
    | l hs ha =>
      cases r
      obtain ⟨its, n, rv, z, e⟩ := rdL I hs.1
      obtain ⟨as, hr⟩ := reads_ofs I hK ds _ its ha p rv
      exact ⟨_, Reads.list e rfl rfl hr⟩
  | .k ds, _, _, h, p, r => by
    cases h with
    | k hs ha =>
      cases r
      have hs : SqL X.K H _ _ := hs.elim (fun ⟨o, z⟩ => .inl (.inr ⟨o, z⟩)) (fun z => .inr (by rw [hK]; exact z))
      obtain ⟨its, rv, ⟨o, n, ho, hc, _, hd⟩, _⟩ := I.list hs
      obtain ⟨as, hr⟩ := reads_ofs I hK ds _ its ha p rv
      exact ⟨_, Reads.list ho hc hd hr⟩
  | .m _ _, _, _, h, p, r => by cases p
  | .x _, _, _, h, p, r => by cases p
theorem reads_ofs {pins : List (Addr × Obj)} {σ : L2.St} {H : Hp} {s : Shared} {aS : Option Addr} (I : Inv X pins σ H s) (hK : X.K = T.K) : ∀ (ds : List D) (vs : List V) (us : List Value), Bors T aS H vs ds → PyData.plainAll (toPys ds) = true → Vals vs us → ∃ as, ReadsAll s.heap us (toPys ds) as
  | [], _, _, h, _, r => by cases h; cases r; exact ⟨_, ReadsAll.nil⟩
  | d :: ds, _, _, h, p, r => by
    cases h with
    | cons h1 h2 =>
      cases r with
      | cons r1 r2 =>
        have p : ((toPy d).plain && PyData.plainAll (toPys ds)) = true := p
        rw [Bool.and_eq_true] at p
        obtain ⟨as, q1⟩ := reads_of I hK d _ _ h1 p.1 r1
        obtain ⟨bs, q2⟩ := reads_ofs I hK ds _ _ h2 p.2 r2
        exact ⟨_, ReadsAll.cons q1 q2⟩
end
/-- no dict, no error within; not too deep -/
def ok (d : D) : Bool := (toPy d).plain && decide ((toPy d).depth ≤ 100)
def isTup : D → Bool
  | .m _ _ => true
  | .x _ => true
  | _ => false
def fEq (a b : D) : Option D := if (ok a && (toPy b).plain) = true then some (.b (eqv a b)) else none
def fNe (a b : D) : Option D := if (ok a && (toPy b).plain) = true then some (.b (!eqv a b)) else none
theorem units100 {k : Nat} {A : Around} (hr : Room k A) : A.units + 101 < cLine := by have := hr.un; omega
theorem ok_depth {k : Nat} {A : Around} (hr : Room k A) {a : D} {n : Nat} (h : (toPy a).depth ≤ 100) : A.units + min (toPy a).depth n < cLine := by
  have h1 := units100 hr
  have h2 : min (toPy a).depth n ≤ (toPy a).depth := Nat.min_le_left _ _
  omega
theorem ox_eq {k : Nat} (hr : Room k X.A) (hK : X.K = T.K := by rfl) : OpX X T (compareOp .Eq) fEq .bor .bor .val := by
  intro pins s σ H aS S x y u w a b d Q I m rx ry r1 r2 q kk
  unfold fEq at q
  split at q
  · rename_i h
    cases q
    unfold ok at h
    rw [Bool.and_eq_true, Bool.and_eq_true, decide_eq_true_eq] at h
    obtain ⟨as, h1⟩ := reads_of I hK a x u r1 h.1.1 rx
    obtain ⟨bs, h2⟩ := reads_of I hK b y w r2 h.2 ry
    exact SeqAt.eq_plain h1 h2 h.1.1 h.2 (ok_depth hr h.1.2) ⟨.bl _, H, I, rfl, kk _ H Ext.refl (fun _ _ => rfl) (.b _)⟩
  · cases q
theorem ox_ne {k : Nat} (hr : Room k X.A) (hK : X.K = T.K := by rfl) : OpX X T (compareOp .NotEq) fNe .bor .bor .val := by
  intro pins s σ H aS S x y u w a b d Q I m rx ry r1 r2 q kk
  unfold fNe at q
  split at q
  · rename_i h
    cases q
    unfold ok at h
    rw [Bool.and_eq_true, Bool.and_eq_true, decide_eq_true_eq] at h
    obtain ⟨as, h1⟩ := reads_of I hK a x u r1 h.1.1 rx
    obtain ⟨bs, h2⟩ := reads_of I hK b y w r2 h.2 ry
    exact SeqAt.ne_plain h1 h2 h.1.1 h.2 (ok_depth hr h.1.2) ⟨.bl _, H, I, rfl, kk _ H Ext.refl (fun _ _ => rfl) (.b _)⟩
  · cases q
/-- x in c: a tuple, a list; a text in a text -/
def occ (x z : Str) : Bool := !(Builtin.Str.occurrences z x 0 z.length 1).isEmpty
def fIn (a b : D) : Option D := match b with
  | .t ds => if (ok a && ok b) = true then some (.b (ds.any fun z => eqv z a)) else none
  | .l ds => if (ok a && ok b) = true then some (.b (ds.any fun z => eqv z a)) else none
  | .s z => match a with
    | .s x => some (.b (occ x z))
    | _ => none
  | _ => none
def fNotIn (a b : D) : Option D := match fIn a b with
  | some (.b k) => some (.b (!k))
  | _ => none
theorem any_toPys (d : D) : ∀ ds : List D, ((toPys ds).any fun y => PyData.eqv y (toPy d)) = ds.any fun z => eqv z d
  | [] => rfl
  | e :: ds => by
    show (PyData.eqv (toPy e) (toPy d) || (toPys ds).any _) = _
    rw [any_toPys d ds]; rfl
theorem depthAll_le {ds : List D} (h : (toPy (.t ds)).depth ≤ 100) : PyData.depthAll (toPys ds) ≤ 99 := by
  have : (toPy (.t ds)).depth = PyData.depthAll (toPys ds) + 1 := by simp only [toPy, PyData.depth]
  omega
theorem room_in {k : Nat} {A : Around} (hr : Room k A) {n m : Nat} (h : n ≤ 99) : A.units + 1 + min n m < cLine := by
  have h1 := units100 hr
  have h2 : min n m ≤ n := Nat.min_le_left _ _
  omega
theorem ox_in {k : Nat} (hr : Room k X.A) (hK : X.K = T.K := by rfl) : OpX X T (compareOp .In) fIn .bor .bor .val := by
  intro pins s σ H aS S x y u w a b d Q I m rx ry r1 r2 q kk
  have fin : ∀ k, Q (.bl k) H → EP X pins σ Q (.bool k) s := fun k q => ⟨.bl k, H, I, rfl, q⟩
  cases b with
  | t ds =>
    have q : (if (ok a && ok (.t ds)) = true then some (D.b (ds.any fun z => eqv z a)) else none) = some d := q
    split at q
    · rename_i h
      cases q
      unfold ok at h
      rw [Bool.and_eq_true, Bool.and_eq_true, Bool.and_eq_true, decide_eq_true_eq, decide_eq_true_eq] at h
      obtain ⟨as, h1⟩ := reads_of I hK a x u r1 h.1.1 rx
      obtain ⟨bs, h2⟩ := reads_of I hK _ y w r2 h.2.1 ry
      exact SeqAt.in_tuple_data h2 h1 h.2.1 h.1.1 (room_in hr (depthAll_le h.2.2)) (fin _ (by rw [any_toPys]; exact kk _ H Ext.refl (fun _ _ => rfl) (.b _)))
    · cases q
  | l ds =>
    have q : (if (ok a && ok (.l ds)) = true then some (D.b (ds.any fun z => eqv z a)) else none) = some d := q
    split at q
    · rename_i h
      cases q
      unfold ok at h
      rw [Bool.and_eq_true, Bool.and_eq_true, Bool.and_eq_true, decide_eq_true_eq, decide_eq_true_eq] at h
      obtain ⟨as, h1⟩ := reads_of I hK a x u r1 h.1.1 rx
      obtain ⟨bs, h2⟩ := reads_of I hK _ y w r2 h.2.1 ry
      exact SeqAt.in_list_data h2 h1 h.2.1 h.1.1 (room_in hr (depthAll_le (ds := ds) h.2.2)) (fin _ (by rw [any_toPys]; exact kk _ H Ext.refl (fun _ _ => rfl) (.b _)))
    · cases q
  | s z =>
    cases a with
    | s v =>
      cases q
      exact op_in_str pins s σ H x y u w Q I rx ry ⟨v, z, bor_str m r1, bor_str m r2, kk _ H Ext.refl (fun _ _ => rfl) (.b _)⟩
    | _ => cases q
  | _ => cases q
theorem ox_notin {k : Nat} (hr : Room k X.A) (hK : X.K = T.K := by rfl) : OpX X T (compareOp .NotIn) fNotIn .bor .bor .val := by
  intro pins s σ H aS S x y u w a b d Q I m rx ry r1 r2 q kk
  have fin : ∀ k, Q (.bl k) H → EP X pins σ Q (.bool k) s := fun k q => ⟨.bl k, H, I, rfl, q⟩
  cases b with
  | t ds =>
    have q : (match (if (ok a && ok (.t ds)) = true then some (D.b (ds.any fun z => eqv z a)) else none) with | some (.b k) => some (D.b (!k)) | _ => none) = some d := q
    split at q
    · rename_i k' h'
      split at h'
      · rename_i h
        cases h'; cases q
        unfold ok at h
        rw [Bool.and_eq_true, Bool.and_eq_true, Bool.and_eq_true, decide_eq_true_eq, decide_eq_true_eq] at h
        obtain ⟨as, h1⟩ := reads_of I hK a x u r1 h.1.1 rx
        obtain ⟨bs, h2⟩ := reads_of I hK _ y w r2 h.2.1 ry
        exact SeqAt.notIn_tuple_data h2 h1 h.2.1 h.1.1 (room_in hr (depthAll_le h.2.2)) (fin _ (by rw [any_toPys]; exact kk _ H Ext.refl (fun _ _ => rfl) (.b _)))
      · cases h'
    · cases q
  | l ds =>
    have q : (match (if (ok a && ok (.l ds)) = true then some (D.b (ds.any fun z => eqv z a)) else none) with | some (.b k) => some (D.b (!k)) | _ => none) = some d := q
    split at q
    · rename_i k' h'
      split at h'
      · rename_i h
        cases h'; cases q
        unfold ok at h
        rw [Bool.and_eq_true, Bool.and_eq_true, Bool.and_eq_true, decide_eq_true_eq, decide_eq_true_eq] at h
        obtain ⟨as, h1⟩ := reads_of I hK a x u r1 h.1.1 rx
        obtain ⟨bs, h2⟩ := reads_of I hK _ y w r2 h.2.1 ry
        exact SeqAt.notIn_list_data h2 h1 h.2.1 h.1.1 (room_in hr (depthAll_le (ds := ds) h.2.2)) (fin _ (by rw [any_toPys]; exact kk _ H Ext.refl (fun _ _ => rfl) (.b _)))
      · cases h'
    · cases q
  | s z =>
    cases a with
    | s v =>
      cases q
      exact L2.op_notIn_str pins s σ H x y u w Q I rx ry ⟨v, z, bor_str m r1, bor_str m r2, kk _ H Ext.refl (fun _ _ => rfl) (.b _)⟩
    | _ => cases q
  | _ => cases q
end
end DL

/-! DL10: *, unary -, is None, subscripts, slices, calls of built-ins. -/
namespace DL
open PySem PySem.Spec PyProof.Rows L2
section
variable {X : Cx} {T : Fx} {W : WX}

/-! ### a * b -/
def repStr (x : Str) (n : Nat) : Str := ⟨(List.replicate n x.cps.toList).flatten.toArray⟩
def small (n : Int) : Bool := decide (-1000 ≤ n) && decide (n ≤ 1000)
theorem small_bd {n : Int} (h : small n = true) : -1000 ≤ n ∧ n ≤ 1000 := by
  unfold small at h
  rw [Bool.and_eq_true, decide_eq_true_eq, decide_eq_true_eq] at h
  exact h
def fMul : D → D → Option D
  | .i a, .i b => if (decide (a.natAbs < 2 ^ 64) || decide (b.natAbs < 2 ^ 64)) = true then some (.i (a * b)) else none
  | .s a, .i n => if (small n && decide (a.length ≤ 1000)) = true then some (.s (repStr a n.toNat)) else none
  | .l a, .i n => if (small n && decide (a.length ≤ 1000)) = true then some (.l (List.replicate n.toNat a).flatten) else none
  | .t a, .i n => if (small n && decide (2 ≤ n) && decide (a.length ≤ 1000) && !a.isEmpty) = true then some (.t (List.replicate n.toNat a).flatten) else none
  | _, _ => none
theorem Reps.rep {H : Hp} {vs : List V} {ds : List D} (r : Reps T H vs ds) : ∀ n : Nat, Reps T H (List.replicate n vs).flatten (List.replicate n ds).flatten
  | 0 => .nil
  | n + 1 => by
    rw [List.replicate_succ, List.replicate_succ, List.flatten_cons, List.flatten_cons]
    exact Rps.append r (Reps.rep r n)
theorem foldl_cps (x : Str) (n : Nat) : (List.replicate n x.cps).foldl (· ++ ·) #[] = (List.replicate n x.cps.toList).flatten.toArray := by
  have go : ∀ (n : Nat) (acc : Array Nat), (List.replicate n x.cps).foldl (· ++ ·) acc = acc ++ (List.replicate n x.cps.toList).flatten.toArray := fun n => by
    induction n with
    | zero => intro acc; simp
    | succ n ih => intro acc; rw [List.replicate_succ, List.foldl_cons, ih, List.replicate_succ, List.flatten_cons, Array.append_assoc]; congr 1; apply Array.ext'; simp
  rw [go]; simp
theorem ox_mul (hK : X.K = T.K := by rfl) : OpX X T (binaryOp .Mult) fMul .b1 .bor .f1 := by
  intro pins s σ H aS S x y u w a b d Q I m rx ry r1 r2 q k
  cases b with
  | i n =>
    cases a with
    | i a =>
      have q : (if (decide (a.natAbs < 2 ^ 64) || decide (n.natAbs < 2 ^ 64)) = true then some (D.i (a * n)) else none) = some d := q
      split at q
      · rename_i hc
        cases q
        rw [Bool.or_eq_true, decide_eq_true_eq, decide_eq_true_eq] at hc
        have e : (2 : Int) ^ 64 = ((2 ^ 64 : Nat) : Int) := by norm_cast
        have hc : CMul a n := by
          rcases hc with hc | hc
          · exact .inl ⟨by rw [e]; omega, by rw [e]; omega⟩
          · exact .inr ⟨by rw [e]; omega, by rw [e]; omega⟩
        exact op_mul pins s σ H x y u w Q I rx ry ⟨a, n, bor_int m r1, bor_int m r2, hc, k _ H Ext.refl (fun _ _ => rfl) (f1_of (.i _) trivial)⟩
      · cases q
    | s a =>
      have q : (if (small n && decide (a.length ≤ 1000)) = true then some (D.s (repStr a n.toNat)) else none) = some d := q
      split at q
      · rename_i hc
        cases q
        rw [Bool.and_eq_true, decide_eq_true_eq] at hc
        obtain ⟨b1, b2⟩ := small_bd hc.1
        rw [bor_str m r1] at rx
        rw [bor_int m r2] at ry
        obtain ⟨t, rfl⟩ := rx
        obtain ⟨t', rfl⟩ := ry
        have hlen : (repStr a n.toNat).length ≤ 1000000 := by
          have : (repStr a n.toNat).length = n.toNat * a.length := by
            show (List.replicate n.toNat a.cps.toList).flatten.toArray.size = n.toNat * a.cps.size
            rw [List.size_toArray]; simp
          rw [this]
          have h1 : n.toNat ≤ 1000 := by omega
          calc n.toNat * a.length ≤ 1000 * 1000 := Nat.mul_le_mul h1 hc.2
            _ = 1000000 := rfl
        have hsl : (1000000 : Nat) ≤ sizeLine := by rw [sizeLine_eq]; omega
        have hmul : a.length * n.toNat ≤ 1000000 := by
          have h1 : n.toNat ≤ 1000 := by omega
          calc a.length * n.toNat ≤ 1000 * 1000 := Nat.mul_le_mul hc.2 h1
            _ = 1000000 := rfl
        refine PySem.P.mul_str ?_ (fun h1 h2 => ?_) (fun h1 h2 => ?_) ?_
        · have e1 : decide (n < -(2 ^ 63 : Int)) = false := decide_eq_false (by omega)
          have e2 : decide (n ≥ 2 ^ 63) = false := decide_eq_false (by omega)
          rw [e1, e2, Bool.or_false]
        · have : (2 ^ 63 - 1) / 1000 ≤ ((2 ^ 63 - 1) : Int) / n := by
            apply Int.le_ediv_of_mul_le (by omega)
            calc (2 ^ 63 - 1) / 1000 * n ≤ (2 ^ 63 - 1) / 1000 * 1000 := Int.mul_le_mul_of_nonneg_left b2 (by decide)
              _ ≤ 2 ^ 63 - 1 := by decide
          have h3 : ((2 ^ 63 - 1) / 1000 : Int) > 1000 := by decide
          omega
        · exact decide_eq_false (by omega)
        · have fin : ∀ z : Str, z = repStr a n.toNat → z.length ≤ sizeLine → (Made.str z).post (EP X pins σ Q) s := fun z hz hl => ⟨hl, .str z, H, I.tok _, ⟨_, rfl⟩, by rw [hz]; exact k _ H Ext.refl (fun _ _ => rfl) (f1_of (.s _) trivial)⟩
          by_cases h1 : n < 1
          · rw [if_pos h1]
            refine fin _ ?_ ?_
            · have : n.toNat = 0 := by omega
              rw [this]; rfl
            · show (0 : Nat) ≤ sizeLine; omega
          · rw [if_neg h1]
            by_cases h2 : (n == 1 || a.length == 0) = true
            · rw [if_pos h2]
              refine ⟨.str a, H, I, ⟨t, rfl⟩, ?_⟩
              have : repStr a n.toNat = a := by
                rw [Bool.or_eq_true, beq_iff_eq, beq_iff_eq] at h2
                rcases h2 with h2 | h2
                · subst h2
                  show (⟨(List.replicate 1 a.cps.toList).flatten.toArray⟩ : Str) = a
                  simp
                · have e : a.cps = #[] := Array.eq_empty_of_size_eq_zero h2
                  obtain ⟨c⟩ := a
                  simp only at e
                  subst e
                  unfold repStr
                  simp
              rw [this] at k
              exact k _ H Ext.refl (fun _ _ => rfl) (f1_of (.s _) trivial)
            · rw [if_neg h2]
              refine fin _ (by rw [foldl_cps]; rfl) ?_
              rw [foldl_cps]
              exact Nat.le_trans hlen hsl
      · cases q
    | l a =>
      have q : (if (small n && decide (a.length ≤ 1000)) = true then some (D.l (List.replicate n.toNat a).flatten) else none) = some d := q
      split at q
      · rename_i hc
        cases q
        rw [Bool.and_eq_true, decide_eq_true_eq] at hc
        obtain ⟨b1, b2⟩ := small_bd hc.1
        obtain ⟨p1, xs, rfl, h1, q1⟩ := b1_lst r1
        rw [bor_int m r2] at ry
        cases rx
        obtain ⟨t, rfl⟩ := ry
        obtain ⟨its, n1, r, hl, e⟩ := rdL I h1
        have hle := r.length
        have hz : xs.length * n.toNat ≤ 1000000 := by
          have h2 := q1.length
          calc xs.length * n.toNat ≤ 1000 * 1000 := Nat.mul_le_mul (by omega) (by omega)
            _ = 1000000 := rfl
        have hsl : (1000000 : Nat) ≤ sizeLine := by rw [sizeLine_eq]; omega
        have hlen : its.toArray.size * n.toNat ≤ sizeLine := by rw [List.size_toArray, ← hle]; omega
        have hcap : ¬ its.toArray.size * n.toNat > (2 ^ 63 - 1) / 8 := by
          have : (sizeLine : Nat) ≤ (2 ^ 63 - 1) / 8 := by decide
          omega
        have hfit : ¬ (!Builtin.List.listFitsIndex n) = true := by
          rw [fitsIndex_both (by omega) (by omega)]
          exact Bool.false_ne_true
        have hlong : ¬ Builtin.List.listTooLong (its.toArray.size * n.toNat) = true := by
          rw [notLongL hlen]
          exact Bool.false_ne_true
        have hnew : List.foldl (fun x1 x2 => x1 ++ x2) #[] (List.replicate (if its.toArray.isEmpty = true then 0 else n.toNat) its.toArray) = (List.replicate n.toNat its).flatten.toArray := by
          rw [show ∀ k : Nat, List.foldl (fun x1 x2 => x1 ++ x2) #[] (List.replicate k its.toArray) = (List.replicate k its).flatten.toArray from fun k => by
            have := foldl_rep its k []
            rw [List.nil_append] at this
            exact this]
          cases its with
          | nil => simp
          | cons a r' => rw [if_neg (by simp)]
        refine wpAny_binaryOp_repeat_ref (T := "list") (U := "int") (by decide) ⟨_, e, rfl⟩ (fun s' => typeIs_int s' n t) noFill_list_mul F.fills_int_mul F.slot_int_rmul repeat_list F.slot_int_index.lookup
          (call_meets F.slot_int_rmul (typeIs_int s n t) F.entry_int_rmul (F.args_int_rmul_2 _ _) (int___rmul___int_list n t p1 its.toArray n1)
            ⟨e, rfl, ⟨_, e, rfl⟩, call_meets F.slot_list_mul ⟨_, e, rfl⟩ F.entry_list_mul (F.args_list_mul_2 _ _) (AutoListH.list___mul___list_int_3 p1 its.toArray n1 n t hfit hcap hlong) ⟨e, ?_⟩⟩)
        rw [hnew]
        refine ⟨.ref _, _, I.lnew (t' := s.toks) (r.rep n.toNat) (by rw [PyProof.Rows.lm_len_rep_flat, Nat.mul_comm]; omega), rfl, k _ _ (Ext.upd I.fresh) (keepUpd m I.fresh) (ow1_new m I.fresh (Reps.rep q1 _))⟩
      · cases q
    | t a =>
      have q : (if (small n && decide (2 ≤ n) && decide (a.length ≤ 1000) && !a.isEmpty) = true then some (D.t (List.replicate n.toNat a).flatten) else none) = some d := q
      split at q
      · rename_i hc
        cases q
        rw [Bool.and_eq_true, Bool.and_eq_true, Bool.and_eq_true, decide_eq_true_eq, decide_eq_true_eq] at hc
        obtain ⟨⟨⟨c1, c2⟩, c3⟩, c4⟩ := hc
        obtain ⟨b1, b2⟩ := small_bd c1
        obtain ⟨p1, xs, rfl, h1, q1⟩ := b1_tup r1
        have hl := q1.length
        refine op_repT pins s σ H _ _ u w Q I rx ry ⟨p1, n, xs, rfl, bor_int m r2, by rw [hK]; exact h1, ?_, c2, b2, by omega, fun p hp => ?_⟩
        · rintro rfl
          cases q1
          simp at c4
        · exact k _ _ (Ext.upd hp) (keepUpd m hp) (f1_of (tup_new (aS := aS) hp (Reps.rep q1 _)) trivial)
      · cases q
    | _ => cases q
  | _ =>
    cases a <;> cases q

/-! ### - a -/
def dNeg (m : M) : M := fun r s => (m r s).bind fun d s1 => match d with
  | .i a => .ok (.i (-a)) s1
  | _ => .bad
theorem de_neg {a : Expr} {ma : M} {pos : Pos} (ha : DE X T W .val a ma) : DE X T W .val (.UnaryOp .USub a pos) (dNeg ma) := by
  refine PE.imp (pe_un un_neg ha) fun σ H Q ⟨r, aS, S, E, p⟩ => ⟨r, aS, S, E, ?_⟩
  unfold dNeg at p
  cases q : ma r S with
  | bad => rw [q] at p; exact p
  | exc c S1 => rw [q] at p; exact p
  | ok d S1 =>
    rw [q] at p
    simp only [R.bind_ok] at p
    intro v H1 x1 m1 k1
    have k1 : Rep T H1 v d := k1
    cases k1 with
    | i n => exact ⟨n, rfl, p _ H1 x1 m1 (.i _)⟩
    | _ => exact p.elim
/-! ### is None -/
def isNone : D → Bool
  | .n => true
  | _ => false
def dIsN (m : M) : M := fun r s => (m r s).bind fun d s1 => .ok (.b (isNone d)) s1
def dNotN (m : M) : M := fun r s => (m r s).bind fun d s1 => .ok (.b (!isNone d)) s1
theorem isNone_ok {aS : Option Addr} {H : Hp} {v : V} {d : D} (h : Bor T aS H v d) : decide (v = .non) = isNone d := by
  cases h <;> rfl
theorem tE_isN {ma : M} : ∀ σ H Q, tE T W .val (dIsN ma) σ H Q → tIsN (tE T W .bor ma) σ H Q := by
  intro σ H Q ⟨r, aS, S, E, p⟩
  refine ⟨r, aS, S, E, ?_⟩
  unfold dIsN at p
  cases q : ma r S with
  | bad => rw [q] at p; exact p
  | exc c S1 => rw [q] at p; exact p
  | ok d S1 =>
    rw [q] at p
    intro v H1 x1 m1 k1
    rw [isNone_ok k1]
    exact p _ H1 x1 m1 (.b _)
theorem tE_notN {ma : M} : ∀ σ H Q, tE T W .val (dNotN ma) σ H Q → tNotN (tE T W .bor ma) σ H Q := by
  intro σ H Q ⟨r, aS, S, E, p⟩
  refine ⟨r, aS, S, E, ?_⟩
  unfold dNotN at p
  cases q : ma r S with
  | bad => rw [q] at p; exact p
  | exc c S1 => rw [q] at p; exact p
  | ok d S1 =>
    rw [q] at p
    intro v H1 x1 m1 k1
    rw [isNone_ok k1]
    exact p _ H1 x1 m1 (.b _)
theorem de_isN {a : Expr} {ma : M} {j pos' pos} (ha : DE X T W .bor a ma) : DE X T W .val (.Compare a [.Is] [.Constant .none j pos'] pos) (dIsN ma) := PE.imp (pe_cmp (pc_isN ha)) tE_isN
theorem de_notN {a : Expr} {ma : M} {j pos' pos} (ha : DE X T W .bor a ma) : DE X T W .val (.Compare a [.IsNot] [.Constant .none j pos'] pos) (dNotN ma) := PE.imp (pe_cmp (pc_notN ha)) tE_notN
theorem dt_isN {a : Expr} {ma : M} {j pos' pos} (ha : DE X T W .bor a ma) : DT X T W (.Compare a [.Is] [.Constant .none j pos'] pos) (mB (dIsN ma)) := PT.imp (pt_cmp (pc_isN ha)) fun σ H Q h => tE_isN _ _ _ (tT_b _ _ _ h)
theorem dt_notN {a : Expr} {ma : M} {j pos' pos} (ha : DE X T W .bor a ma) : DT X T W (.Compare a [.IsNot] [.Constant .none j pos'] pos) (mB (dNotN ma)) := PT.imp (pt_cmp (pc_notN ha)) fun σ H Q h => tE_notN _ _ _ (tT_b _ _ _ h)

/-! ### a[i] -/
def fIx : D → D → Option D
  | .t ds, .i n => atI ds n
  | .l ds, .i n => atI ds n
  | .k ds, .i n => atI ds n
  | .s z, .i n => if z.length ≤ sizeLine then (atI z.cps.toList n).map fun c => .s ⟨#[c]⟩ else none
  | _, _ => none
theorem Rps.atI {T' L Kl : Addr → List V → Prop} {Dc : Addr → List V → List V → List D → Prop} {Ex : Addr → Nat → Prop} {vs : List V} {ds : List D} {i : Int} {d : D} (r : Rps T' L Kl Dc Ex vs ds) (h : L2.atI ds i = some d) : ∃ v, L2.atI vs i = some v ∧ Rp T' L Kl Dc Ex v d := by
  unfold L2.atI at h ⊢
  rw [r.length]
  cases e : ixN ds.length i with
  | none => rw [e] at h; cases h
  | some j => rw [e] at h; exact r.get h
def rIxD (K : PySem.W.Frag) : R2 := fun x y H Q => rIxL K x y H Q ∨ rIxT K x y H Q ∨ rIxS x y H Q
theorem ix_d : IxR X (rIxD X.K) := ix_list.or (ix_tup.or ix_str)
theorem sqL_k {H : Hp} {a : Addr} {vs : List V} (hK : X.K = T.K) (h : FzK T.K H a vs) : SqL X.K H a vs := h.elim (fun ⟨o, z⟩ => .inl (.inr ⟨o, z⟩)) (fun z => .inr (by rw [hK]; exact z))
theorem ixd_b1 (hK : X.K = T.K) : OpD T (rIxD X.K) fIx .b1 .bor .val := by
  intro aS H S x y a b d Q m r1 r2 q k
  cases b with
  | i n =>
    have ey := bor_int m r2
    have fin : ∀ v, Rep T H v d → Q v H := fun v r => k v H Ext.refl (fun _ _ => rfl) r
    cases a with
    | t ds =>
      obtain ⟨p, vs, rfl, h, r⟩ := b1_tup r1
      obtain ⟨v, h1, h2⟩ := Rps.atI r q
      exact .inr (.inl ⟨p, vs, n, v, rfl, ey, by rw [hK]; exact h, h1, fin v h2⟩)
    | l ds =>
      obtain ⟨p, vs, rfl, h, r⟩ := b1_lst r1
      obtain ⟨v, h1, h2⟩ := Rps.atI r q
      exact .inl ⟨p, vs, n, v, rfl, ey, SqLof h, h1, fin v h2⟩
    | k ds =>
      have r1 : Rep T H x (.k ds) := r1
      cases r1 with
      | k h r =>
        obtain ⟨v, h1, h2⟩ := Rps.atI r q
        exact .inl ⟨_, _, n, v, rfl, ey, sqL_k hK h, h1, fin v h2⟩
    | s z =>
      have q : (if z.length ≤ sizeLine then (L2.atI z.cps.toList n).map fun c => D.s ⟨#[c]⟩ else none) = some d := q
      split at q
      · rename_i hz
        cases e : L2.atI z.cps.toList n with
        | none => rw [e] at q; cases q
        | some c =>
          rw [e] at q; cases q
          exact .inr (.inr ⟨z, n, c, bor_str m r1, ey, hz, e, fin _ (.s _)⟩)
      · cases q
    | _ => cases q
  | _ => cases a <;> cases q
theorem ixd_bor (hK : X.K = T.K) : OpD T (rIxD X.K) fIx .bor .bor .bor := by
  intro aS H S x y a b d Q m r1 r2 q k
  cases b with
  | i n =>
    have ey := bor_int m r2
    have fin : ∀ v, Bor T aS H v d → Q v H := fun v r => k v H Ext.refl (fun _ _ => rfl) r
    cases a with
    | t ds =>
      have r1 : Bor T aS H x (.t ds) := r1
      cases r1 with
      | t h r =>
        obtain ⟨v, h1, h2⟩ := Rps.atI r q
        exact .inr (.inl ⟨_, _, n, v, rfl, ey, by rw [hK]; exact h, h1, fin v h2⟩)
    | l ds =>
      have r1 : Bor T aS H x (.l ds) := r1
      cases r1 with
      | l h r =>
        obtain ⟨v, h1, h2⟩ := Rps.atI r q
        exact .inl ⟨_, _, n, v, rfl, ey, SqLof h.1, h1, fin v h2⟩
    | k ds =>
      have r1 : Bor T aS H x (.k ds) := r1
      cases r1 with
      | k h r =>
        obtain ⟨v, h1, h2⟩ := Rps.atI r q
        exact .inl ⟨_, _, n, v, rfl, ey, sqL_k hK h, h1, fin v h2⟩
    | s z =>
      have q : (if z.length ≤ sizeLine then (L2.atI z.cps.toList n).map fun c => D.s ⟨#[c]⟩ else none) = some d := q
      split at q
      · rename_i hz
        cases e : L2.atI z.cps.toList n with
        | none => rw [e] at q; cases q
        | some c =>
          rw [e] at q; cases q
          exact .inr (.inr ⟨z, n, c, bor_str m r1, ey, hz, e, fin _ (.s _)⟩)
      · cases q
    | _ => cases q
  | _ => cases a <;> cases q
theorem de_sub {a b : Expr} {ma mb : M} {pos : Pos} (ha : DE X T W .b1 a ma) (hb : DE X T W .bor b mb) (hK : X.K = T.K := by rfl) (hs : PlainIx b := by intro _ _; rfl) : DE X T W .val (.Subscript a b pos) (dOp fIx ma mb) := de_ix ix_d (ixd_b1 hK) ha hb hs
theorem de_subB {a b : Expr} {ma mb : M} {pos : Pos} (ha : DE X T W .bor a ma) (hb : DE X T W .bor b mb) (hK : X.K = T.K := by rfl) (hs : PlainIx b := by intro _ _; rfl) : DE X T W .bor (.Subscript a b pos) (dOp fIx ma mb) := de_ix ix_d (ixd_bor hK) ha hb hs

/-! ### a[lo:hi] -/
abbrev Mo := En → Sg → R (Option Int)
def PostO (T : Fx) (W : WX) (aS : Option Addr) (H : Hp) (σ : L2.St) (Q : Option Int → Hp → Prop) : R (Option Int) → Prop
  | .ok b S' => ∀ H', Ext aS H H' → Amb T aS H' S' → Q b H'
  | .exc c S' => ∀ H', Ext aS H H' → Amb T aS H' S' → W (.ref (T.cl c)) none σ H'
  | .bad => False
def tO (T : Fx) (W : WX) (m : Mo) : TO := fun σ H Q => ∃ r aS S, ER T aS H σ r S ∧ PostO T W aS H σ Q (m r S)
def DO (X : Cx) (T : Fx) (W : WX) (o : Option Expr) (m : Mo) : Prop := PO X o (tO T W m)
theorem PO.imp {o : Option Expr} {t t' : TO} (h : PO X o t) (i : ∀ σ H Q, t' σ H Q → t σ H Q) : PO X o t' := ⟨fun pins s σ H Q I q => h.run pins s σ H Q I (i σ H Q q)⟩
def oNo : Mo := fun _ s => .ok none s
def oYes (m : M) : Mo := fun r s => (m r s).bind fun d s1 => match d with
  | .i n => .ok (some n) s1
  | _ => .bad
theorem do_no : DO X T W none oNo := PO.imp po_none fun σ H Q ⟨r, aS, S, E, p⟩ => p H Ext.refl E.amb
theorem do_yes {e : Expr} {m : M} (h : DE X T W .val e m) : DO X T W (some e) (oYes m) := by
  refine PO.imp (po_some h) fun σ H Q ⟨r, aS, S, E, p⟩ => ⟨r, aS, S, E, ?_⟩
  unfold oYes at p
  cases q : m r S with
  | bad => rw [q] at p; exact p
  | exc c S1 => rw [q] at p; exact p
  | ok d S1 =>
    rw [q] at p
    simp only [R.bind_ok] at p
    intro v H1 x1 m1 k1
    have k1 : Rep T H1 v d := k1
    cases k1 with
    | i n => exact ⟨n, rfl, p H1 x1 m1⟩
    | _ => exact p.elim
def cut (xs : List D) (lo hi : Option Int) : List D := (xs.drop (HT.sIx xs.length 0 lo)).take (HT.sIx xs.length xs.length hi - HT.sIx xs.length 0 lo)
def fSl (d : D) (lo hi : Option Int) : Option D := match d with
  | .t ds => some (.t (cut ds lo hi))
  | .l ds => some (.l (cut ds lo hi))
  | .s z => if z.length ≤ sizeLine then some (.s (cutS z lo hi)) else none
  | _ => none
def dSl (m : M) (lo hi : Mo) : M := fun r s => (m r s).bind fun d s1 => (lo r s1).bind fun l s2 => (hi r s2).bind fun h s3 => match fSl d l h with
  | some d => .ok d s3
  | none => .bad
theorem cut_reps {H : Hp} {vs : List V} {ds : List D} (r : Reps T H vs ds) (lo hi : Option Int) : Reps T H (cutV vs lo hi) (cut ds lo hi) := by
  unfold cutV cut
  rw [r.length]
  exact Rps.take _ (Rps.drop _ r)
theorem cut_whole {ds : List D} {lo hi : Option Int} (h : HT.sIx ds.length 0 lo = 0 ∧ HT.sIx ds.length ds.length hi = ds.length) : cut ds lo hi = ds := by
  unfold cut
  rw [h.1, h.2]; simp
def rSlD (K : PySem.W.Frag) : V → Option Int → Option Int → Hp → VK → Prop := fun x lo hi H Q => rSlL K x lo hi H Q ∨ rSlA K x lo hi H Q ∨ rSlS x lo hi H Q
theorem sl_d : SlR X (rSlD X.K) := sl_list.or (sl_tupA.or sl_str)
theorem de_sl {a : Expr} {lo hi : Option Expr} {m : M} {ml mh : Mo} {p2 pos : Pos} (ha : DE X T W .b1 a m) (hl : DO X T W lo ml) (hh : DO X T W hi mh) (hK : X.K = T.K := by rfl) : DE X T W .f1 (.Subscript a (.Slice lo hi none p2) pos) (dSl m ml mh) := by
  refine PE.imp (pe_slice sl_d ha hl hh) fun σ H Q ⟨r, aS, S, E, p⟩ => ⟨r, aS, S, E, ?_⟩
  unfold dSl at p
  cases q : m r S with
  | bad => rw [q] at p; exact p
  | exc c S1 => rw [q] at p; exact p
  | ok d S1 =>
    rw [q] at p
    simp only [R.bind_ok] at p
    intro v H1 x1 m1 k1
    refine ⟨r, aS, S1, E.ext x1 m1, ?_⟩
    cases q2 : ml r S1 with
    | bad => rw [q2] at p; exact p
    | exc c S2 => rw [q2] at p; exact fun H2 x2 m2 => p H2 (x1.trans x2) m2
    | ok l S2 =>
      rw [q2] at p
      simp only [R.bind_ok] at p
      intro H2 x2 m2
      refine ⟨r, aS, S2, E.ext (x1.trans x2) m2, ?_⟩
      cases q3 : mh r S2 with
      | bad => rw [q3] at p; exact p
      | exc c S3 => rw [q3] at p; exact fun H3 x3 m3 => p H3 ((x1.trans x2).trans x3) m3
      | ok u S3 =>
        rw [q3] at p
        simp only [R.bind_ok] at p
        intro H3 x3 m3
        have k3 : B1 T aS H3 v d := B1.ext (x2.trans x3) k1
        have X3 := (x1.trans x2).trans x3
        have back : ∀ {v d}, MdOk T aS H3 H3 v d .f1 → MdOk T aS H H3 v d .f1 := fun h => h.back X3 m3.ne
        cases d with
        | t ds =>
          obtain ⟨a, vs, rfl, h, rr⟩ := b1_tup (aS := aS) k3
          have hl := rr.length
          refine .inr (.inl ⟨a, vs, rfl, by rw [hK]; exact h, fun hw => ?_, fun _ b hb => ?_⟩)
          · rw [hl] at hw
            refine p _ H3 X3 m3 ?_
            rw [cut_whole hw]
            exact f1_of (.t h rr) trivial
          · exact p _ _ (X3.trans (Ext.upd hb)) (m3.new hb) (f1_of (tup_new (aS := aS) hb (cut_reps rr l u)) trivial)
        | l ds =>
          obtain ⟨a, vs, rfl, h, rr⟩ := b1_lst (aS := aS) k3
          refine .inl ⟨a, vs, rfl, SqLof h, fun b hb => ?_⟩
          refine p _ _ (X3.trans (Ext.upd hb)) (m3.new hb) ?_
          have := ow1_new (T := T) (aS := aS) m3 hb (cut_reps rr l u)
          obtain ⟨F, h1, h2⟩ := this
          exact ⟨F, h1, fun b hb => X3.un (h2 b hb) m3.ne⟩
        | s z =>
          have ev : v = .str z := bor_str m3 (md := .b1) k3
          subst ev
          have p : Post T W aS H σ .f1 Q (match (if z.length ≤ sizeLine then some (D.s (cutS z l u)) else none) with | some d => .ok d S3 | none => .bad) := p
          by_cases hz : z.length ≤ sizeLine
          · rw [if_pos hz] at p
            exact .inr (.inr ⟨z, rfl, hz, p _ H3 X3 m3 (f1_of (.s _) trivial)⟩)
          · rw [if_neg hz] at p; exact p.elim
        | _ => exact p.elim

/-! ### calls of built-ins -/
def CallX (X : Cx) (T : Fx) (fv : Value) (f : List D → Option D) (m1 md : Md) : Prop :=
  ∀ (pins : List (Addr × Obj)) (s : Shared) (σ : L2.St) (H : Hp) (aS : Option Addr) (S : Sg) (xs : List V) (us : List Value) (ds : List D) (d : D) (Q : VK), Inv X pins σ H s → Amb T aS H S → Vals xs us → RdOks T aS H m1 xs ds → f ds = some d →
    (∀ v H', Ext aS H H' → (∀ a, aS = some a → H' a = H a) → MdOk T aS H H' v d md → Q v H') → wpAny (model X.prog X.w) X.A (call fv us) (EP X pins σ Q) X.xe s
def rCX (T : Fx) (f : List D → Option D) (m1 md : Md) : List V → Hp → VK → Prop := fun xs H Q => ∃ aS S ds d, Amb T aS H S ∧ RdOks T aS H m1 xs ds ∧ f ds = some d ∧
  ∀ v H', Ext aS H H' → (∀ a, aS = some a → H' a = H a) → MdOk T aS H H' v d md → Q v H'
theorem CallX.r {fv : Value} {f : List D → Option D} {m1 md : Md} (h : CallX X T fv f m1 md) : CallR X fv (rCX T f m1 md) :=
  fun pins s σ H xs us Q I r ⟨aS, S, ds, d, m, rd, e, k⟩ => h pins s σ H aS S xs us ds d Q I m r rd e k
theorem rCX_d {f : List D → Option D} {m1 md : Md} : CallD T (rCX T f m1 md) f m1 md := fun aS H S xs ds d Q m rd e k => ⟨aS, S, ds, d, m, rd, e, k⟩
theorem de_call {id : String} {f : List D → Option D} {m1 md : Md} {x : Str} {p pos : Pos} {e : Expr} {es : List Expr} {ms : Ml} (hc : CallX X T (.builtin id) f m1 md) (hm : X.mg x = none) (hv : bootBuiltins x = some (.builtin id)) (ha : DA X T W m1 (e :: es) ms) (hg : Gl X x := by rfl) (hn : x ≠ "__name__" := by decide) (hdb : (x == ("__debug__" : Str)) = false := by decide)
    (he : starEach (e :: es) X.env = (false, eval e X.env) :: starEach es X.env := by rfl) (hpl : (backTo pos (starEach es X.env)).any (·.1) = false := by rfl) : DE X T W md (.Call (.Name x p) (e :: es) [] pos) (dCall f ms) :=
  de_callB hc.r rCX_d hg hm hv ha hn hdb he hpl
theorem de_callT {id : String} {f : List D → Option D} {m1 md : Md} {x : Str} {p pos : Pos} {e : Expr} {es : List Expr} {ms : Ml} (hc : CallX X T (.type id) f m1 md) (hm : X.mg x = none) (hv : bootBuiltins x = some (.type id)) (ha : DA X T W m1 (e :: es) ms) (hg : Gl X x := by rfl) (hn : x ≠ "__name__" := by decide) (hdb : (x == ("__debug__" : Str)) = false := by decide)
    (he : starEach (e :: es) X.env = (false, eval e X.env) :: starEach es X.env := by rfl) (hpl : (backTo pos (starEach es X.env)).any (·.1) = false := by rfl) : DE X T W md (.Call (.Name x p) (e :: es) [] pos) (dCall f ms) :=
  de_callTy hc.r rCX_d hg hm hv ha hn hdb he hpl
theorem rd1 {aS : Option Addr} {H : Hp} {m1 : Md} {xs : List V} {d : D} (h : RdOks T aS H m1 xs [d]) : ∃ x, xs = [x] ∧ RdOk T aS H x d m1 := by
  cases xs with
  | nil => exact h.elim
  | cons x xs => cases xs with
    | nil => exact ⟨x, rfl, h.1⟩
    | cons _ _ => exact h.2.elim
theorem rd2 {aS : Option Addr} {H : Hp} {m1 : Md} {xs : List V} {d e : D} (h : RdOks T aS H m1 xs [d, e]) : ∃ x y, xs = [x, y] ∧ RdOk T aS H x d m1 ∧ RdOk T aS H y e m1 := by
  cases xs with
  | nil => exact h.elim
  | cons x xs =>
    obtain ⟨y, rfl, h2⟩ := rd1 h.2
    exact ⟨x, y, rfl, h.1, h2⟩
/-- len -/
def fLen : List D → Option D
  | [.t ds] => some (.i ds.length)
  | [.l ds] => some (.i ds.length)
  | [.k ds] => some (.i ds.length)
  | [.s z] => if z.length ≤ sizeLine then some (.i z.length) else none
  | _ => none
theorem cx_len (hK : X.K = T.K := by rfl) : CallX X T (.builtin "len") fLen .bor .val := by
  intro pins s σ H aS S xs us ds d Q I m rx rd q k
  rcases ds with _ | ⟨a, _ | ⟨b, ds⟩⟩
  · cases q
  · obtain ⟨x, rfl, r1⟩ := rd1 rd
    have fin : ∀ (n : Int), d = .i n → Q (.int n) H := fun n e => by subst e; exact k _ H Ext.refl (fun _ _ => rfl) (.i _)
    have r1 : Bor T aS H x a := r1
    cases r1 with
    | t h r => cases q; exact call_len_seq pins s σ H _ us Q I rx ⟨_, _, rfl, .inr (by rw [hK]; exact h), fin _ (by rw [r.length])⟩
    | l h r => cases q; exact call_len_seq pins s σ H _ us Q I rx ⟨_, _, rfl, .inl (SqLof h.1), fin _ (by rw [r.length])⟩
    | k h r => cases q; exact call_len_seq pins s σ H _ us Q I rx ⟨_, _, rfl, .inl (sqL_k hK h), fin _ (by rw [r.length])⟩
    | s z =>
      have q : (if z.length ≤ sizeLine then some (D.i z.length) else none) = some d := q
      split at q
      · rename_i hz
        cases q
        exact call_len_str pins s σ H _ us Q I rx ⟨z, rfl, hz, fin _ rfl⟩
      · cases q
    | _ => cases q
  · cases a <;> cases q
/-- tuple(x) -/
def fTuple : List D → Option D
  | [.t ds] => some (.t ds)
  | [.l ds] => some (.t ds)
  | [.k ds] => some (.t ds)
  | _ => none
theorem cx_tuple (hK : X.K = T.K := by rfl) : CallX X T (.type "tuple") fTuple .b1 .val := by
  intro pins s σ H aS S xs us ds d Q I m rx rd q k
  rcases ds with _ | ⟨a, _ | ⟨b, ds⟩⟩
  · cases q
  · obtain ⟨x, rfl, r1⟩ := rd1 rd
    cases a with
    | t es =>
      cases q
      obtain ⟨p, vs, rfl, h, r⟩ := b1_tup r1
      exact call_tuple_of pins s σ H _ us Q I rx ⟨p, vs, rfl, .inr ⟨by rw [hK]; exact h, k _ H Ext.refl (fun _ _ => rfl) (.t h r)⟩⟩
    | l es =>
      cases q
      obtain ⟨p, vs, rfl, h, r⟩ := b1_lst r1
      exact call_tuple_of pins s σ H _ us Q I rx ⟨p, vs, rfl, .inl ⟨SqLof h, fun l hl => k _ _ (Ext.upd hl) (keepUpd m hl) (tup_new (aS := aS) hl r)⟩⟩
    | k es =>
      cases q
      have r1 : Rep T H x (.k es) := r1
      cases r1 with
      | k h r => exact call_tuple_of pins s σ H _ us Q I rx ⟨_, _, rfl, .inl ⟨sqL_k hK h, fun l hl => k _ _ (Ext.upd hl) (keepUpd m hl) (tup_new (aS := aS) hl r)⟩⟩
    | _ => cases q
  · cases a <;> cases q
/-- list(x) -/
def fList : List D → Option D
  | [.t ds] => some (.l ds)
  | [.l ds] => some (.l ds)
  | [.k ds] => some (.l ds)
  | _ => none
theorem cx_list (hK : X.K = T.K := by rfl) : CallX X T (.type "list") fList .b1 .f1 := by
  intro pins s σ H aS S xs us ds d Q I m rx rd q k
  rcases ds with _ | ⟨a, _ | ⟨b, ds⟩⟩
  · cases q
  · obtain ⟨x, rfl, r1⟩ := rd1 rd
    cases a with
    | t es =>
      cases q
      obtain ⟨p, vs, rfl, h, r⟩ := b1_tup r1
      exact call_list_of pins s σ H _ us Q I rx ⟨p, vs, rfl, .inr (by rw [hK]; exact h), fun l hl => k _ _ (Ext.upd hl) (keepUpd m hl) (ow1_new m hl r)⟩
    | l es =>
      cases q
      obtain ⟨p, vs, rfl, h, r⟩ := b1_lst r1
      exact call_list_of pins s σ H _ us Q I rx ⟨p, vs, rfl, .inl (SqLof h), fun l hl => k _ _ (Ext.upd hl) (keepUpd m hl) (ow1_new m hl r)⟩
    | k es =>
      cases q
      have r1 : Rep T H x (.k es) := r1
      cases r1 with
      | k h r => exact call_list_of pins s σ H _ us Q I rx ⟨_, _, rfl, .inl (sqL_k hK h), fun l hl => k _ _ (Ext.upd hl) (keepUpd m hl) (ow1_new m hl r)⟩
    | _ => cases q
  · cases a <;> cases q
/-- sum of ints -/
def intsOf : List D → Option (List Int)
  | [] => some []
  | .i n :: ds => (intsOf ds).map (n :: ·)
  | _ => none
theorem intsOf_vals {aS : Option Addr} {H : Hp} : ∀ {ds : List D} {vs : List V} {ns : List Int}, Bors T aS H vs ds → intsOf ds = some ns → vs = ns.map V.int
  | [], _, _, r, e => by cases r; cases e; rfl
  | d :: ds, _, ns, r, e => by
    cases r with
    | cons r1 r2 =>
      cases d with
      | i n =>
        have e : (intsOf ds).map (n :: ·) = some ns := e
        cases q : intsOf ds with
        | none => rw [q] at e; cases e
        | some ms =>
          rw [q] at e; cases e
          cases r1
          rw [intsOf_vals r2 q]; rfl
      | _ => cases e
def fSum : List D → Option D
  | [.l ds] => (intsOf ds).map fun ns => .i ns.sum
  | [.k ds] => (intsOf ds).map fun ns => .i ns.sum
  | _ => none
theorem cx_sum (hc : X.calm = true := by rfl) (hK : X.K = T.K := by rfl) : CallX X T (.builtin "sum") fSum .bor .val := by
  intro pins s σ H aS S xs us ds d Q I m rx rd q k
  rcases ds with _ | ⟨a, _ | ⟨b, ds⟩⟩
  · cases q
  · obtain ⟨x, rfl, r1⟩ := rd1 rd
    have fin : ∀ (n : Int), d = .i n → Q (.int n) H := fun n e => by subst e; exact k _ H Ext.refl (fun _ _ => rfl) (.i _)
    have r1 : Bor T aS H x a := r1
    cases r1 with
    | @l p vs es h r =>
      have q : (intsOf es).map (fun ns => D.i ns.sum) = some d := q
      cases e : intsOf es with
      | none => rw [e] at q; cases q
      | some ns =>
        rw [e] at q; cases q
        have hv := intsOf_vals r e
        subst hv
        exact cr_sum hc pins s σ H _ us Q I rx ⟨_, ns, rfl, SqLof h.1, fin _ rfl⟩
    | @k p vs es h r =>
      have q : (intsOf es).map (fun ns => D.i ns.sum) = some d := q
      cases e : intsOf es with
      | none => rw [e] at q; cases q
      | some ns =>
        rw [e] at q; cases q
        have hv := intsOf_vals r e
        subst hv
        exact cr_sum hc pins s σ H _ us Q I rx ⟨_, ns, rfl, sqL_k hK h, fin _ rfl⟩
    | _ => cases q
  · cases a <;> cases q
/-- max(a, b), min(a, b) -/
def fMax2 : List D → Option D
  | [.i a, .i b] => some (.i (if b > a then b else a))
  | _ => none
def fMin2 : List D → Option D
  | [.i a, .i b] => some (.i (if b < a then b else a))
  | _ => none
theorem two_ints {f : List D → Option D} {g : Int → Int → Int} {ds : List D} {d : D} (hf : ∀ ds d, f ds = some d → ∃ a b, ds = [.i a, .i b] ∧ d = .i (g a b)) (q : f ds = some d) : ∃ a b, ds = [.i a, .i b] ∧ d = .i (g a b) := hf ds d q
theorem fMax2_inv {ds : List D} {d : D} (q : fMax2 ds = some d) : ∃ a b, ds = [.i a, .i b] ∧ d = .i (if b > a then b else a) := by
  unfold fMax2 at q
  split at q
  · cases q; exact ⟨_, _, rfl, rfl⟩
  · cases q
theorem fMin2_inv {ds : List D} {d : D} (q : fMin2 ds = some d) : ∃ a b, ds = [.i a, .i b] ∧ d = .i (if b < a then b else a) := by
  unfold fMin2 at q
  split at q
  · cases q; exact ⟨_, _, rfl, rfl⟩
  · cases q
theorem cx_max2 (hc : X.calm = true := by rfl) : CallX X T (.builtin "max") fMax2 .bor .val := by
  intro pins s σ H aS S xs us ds d Q I m rx rd q k
  obtain ⟨a, b, rfl, rfl⟩ := fMax2_inv q
  obtain ⟨x, y, rfl, r1, r2⟩ := rd2 rd
  exact call_max2 hc pins s σ H _ us Q I rx ⟨a, b, by rw [bor_int m r1, bor_int m r2], k _ H Ext.refl (fun _ _ => rfl) (.i _)⟩
theorem cx_min2 (hc : X.calm = true := by rfl) : CallX X T (.builtin "min") fMin2 .bor .val := by
  intro pins s σ H aS S xs us ds d Q I m rx rd q k
  obtain ⟨a, b, rfl, rfl⟩ := fMin2_inv q
  obtain ⟨x, y, rfl, r1, r2⟩ := rd2 rd
  exact call_min2 hc pins s σ H _ us Q I rx ⟨a, b, by rw [bor_int m r1, bor_int m r2], k _ H Ext.refl (fun _ _ => rfl) (.i _)⟩
/-- int(x) -/
def fInt : List D → Option D
  | [.i a] => some (.i a)
  | [.b k] => some (.i (if k then 1 else 0))
  | _ => none
theorem cx_int : CallX X T (.type "int") fInt .bor .val := by
  intro pins s σ H aS S xs us ds d Q I m rx rd q k
  rcases ds with _ | ⟨a, _ | ⟨b, ds⟩⟩
  · cases q
  · obtain ⟨x, rfl, r1⟩ := rd1 rd
    have r1 : Bor T aS H x a := r1
    cases r1 with
    | i n => cases q; exact call_int1 pins s σ H _ us Q I rx (.inl ⟨n, rfl, k _ H Ext.refl (fun _ _ => rfl) (.i _)⟩)
    | b n => cases q; exact call_int1 pins s σ H _ us Q I rx (.inr ⟨n, rfl, k _ H Ext.refl (fun _ _ => rfl) (.i _)⟩)
    | _ => cases q
  · cases a <;> cases q
end
end DL

/-! DL11: methods, the drawing state, changes of one's own lists, more returns and stores. -/
namespace DL
open PySem PySem.Spec PyProof.Rows L2
section
variable {X : Cx} {T : Fx} {W : WX}

/-! ### methods of texts and lists -/
def tyD : D → Option String
  | .s _ => some "str"
  | .l _ => some "list"
  | .k _ => some "list"
  | .m _ _ => some "dict"
  | _ => none
theorem tyD_is {pins : List (Addr × Obj)} {σ : L2.St} {H : Hp} {s : Shared} {aS : Option Addr} {t : String} {x : V} {v : Value} {d : D} (hK : X.K = T.K) (I : Inv X pins σ H s) (r : RelV x v) (b : Bor T aS H x d) (e : tyD d = some t) :
    s.TypeIs v t ∧ ∀ a, v = .ref a → ∃ ob, s.heap.get? a = some ob ∧ ob.dict = none := by
  cases b with
  | s z => cases e; obtain ⟨t, rfl⟩ := r; exact ⟨typeIs_str s z t, fun _ e => nomatch e⟩
  | l h _ =>
    cases e; cases r
    obtain ⟨its, n, rv, z, e⟩ := rdL I h.1
    exact ⟨⟨_, e, rfl⟩, fun a q => by cases q; exact ⟨_, e, rfl⟩⟩
  | k h _ =>
    cases e; cases r
    obtain ⟨its, rv, ⟨o, n, ho, hc, hd, _⟩, _⟩ := I.list (sqL_k hK h)
    exact ⟨⟨o, ho, hc⟩, fun a q => by cases q; exact ⟨_, ho, hd⟩⟩
  | m h _ _ =>
    cases e; cases r
    rcases h with ⟨_, o, h, ex, _⟩ | ⟨_, o, h, ex, _⟩
    · obtain ⟨e1, o', e2⟩ := I.hok _ _ h
      have e1 : s.heap.get? _ = some o := e1
      exact ⟨⟨o, e1, ex.1⟩, fun a q => by cases q; exact ⟨_, e1, ex.2.1⟩⟩
    · obtain ⟨e1, _, _⟩ := I.hok _ _ h
      have e1 : s.heap.get? _ = some o := e1
      exact ⟨⟨o, e1, ex.1⟩, fun a q => by cases q; exact ⟨_, e1, ex.2.1⟩⟩
  | _ => cases e
/-- a method by values -/
def MethX (X : Cx) (T : Fx) (id : String) (f : D → List D → Option D) (m0 m1 md : Md) : Prop :=
  ∀ (pins : List (Addr × Obj)) (s : Shared) (σ : L2.St) (H : Hp) (aS : Option Addr) (S : Sg) (x : V) (xs : List V) (v : Value) (us : List Value) (o : D) (ds : List D) (d : D) (Q : VK), Inv X pins σ H s → Amb T aS H S → RelV x v → Vals xs us → RdOk T aS H x o m0 → RdOks T aS H m1 xs ds → f o ds = some d →
    (∀ v H', Ext aS H H' → (∀ a, aS = some a → H' a = H a) → MdOk T aS H H' v d md → Q v H') → wpAny (model X.prog X.w) X.A (call (.builtin id) (v :: us)) (EP X pins σ Q) X.xe s
def dMeth (f : D → List D → Option D) (m : M) (ms : Ml) (t : String) : M := fun r s => (m r s).bind fun o s1 => if tyD o = some t then (ms r s1).bind fun ds s2 => (match f o ds with
  | some d => .ok d s2
  | none => .bad) else .bad
theorem de_meth {o e : Expr} {es : List Expr} {name : Str} {apos cpos : Pos} {t id : String} {f : D → List D → Option D} {m0 m1 md : Md} {m : M} {ms : Ml} (pa : PlainAttrs t) (slot : Slot t name id) (hty : typeOf (.builtin id) = pure (.type "method_descriptor")) (hm : MethX X T id f m0 m1 md) (ho : DE X T W m0 o m) (ha : DA X T W m1 (e :: es) ms)
    (h0 : m0.rd = true := by rfl) (hK : X.K = T.K := by rfl) (hbase : attributeBase o name X.env (eval o X.env) = eval o X.env := by rfl)
    (hfew : ((backTo cpos (starEach (e :: es) X.env)).all (fun x => !x.1) && (backToKw cpos (keywordEach [] X.env)).all (fun x => x.1.isSome)
      && decide ((e :: es).length + ([] : List Keyword).length + (if ([] : List Keyword).isEmpty then 0 else 1) < 30)) = true := by rfl)
    (hline : (apos.endLine == cpos.line) = true := by rfl) (hs : starEach (e :: es) X.env = (false, eval e X.env) :: starEach es X.env := by rfl) (hplain : (backTo cpos (starEach es X.env)).any (·.1) = false := by rfl) :
    DE X T W md (.Call (.Attribute o name apos) (e :: es) [] cpos) (dMeth f m ms t) := by
  refine ⟨fun pins s σ H Q I ⟨r, aS, S, E, p⟩ => ?_⟩
  refine wpAny_Call_method_late hbase hfew hline rfl (thn (ho.run pins s σ H (fun x H1 => ∃ d S1, Ext aS H H1 ∧ Amb T aS H1 S1 ∧ RdOk T aS H1 x d m0 ∧ tyD d = some t ∧ Post T W aS H σ md Q ((ms r S1).bind fun ds s2 => match f d ds with
    | some d => .ok d s2
    | none => .bad)) I ⟨r, aS, S, E, ?_⟩) fun v s1 ⟨x, H1, I1, r1, d, S1, x1, m1', k1, ty, p⟩ => ?_)
  · unfold dMeth at p
    cases q : m r S with
    | bad => rw [q] at p; exact p
    | exc c S1 => rw [q] at p; exact p
    | ok d S1 =>
      rw [q] at p
      simp only [R.bind_ok] at p
      intro v H1 x1 m1' k1
      split at p
      · rename_i ty; exact ⟨d, S1, x1, m1', k1.rd h0, ty, p⟩
      · exact p.elim
  · obtain ⟨h1, h2⟩ := tyD_is hK I1 r1 (k1.bor m1') ty
    refine ⟨t, id, pa, slot, hty, h1, h2, ?_⟩
    have hA := ha.run cpos pins s1 σ H1 (fun xs H2 => ∃ ds S2, Ext aS H1 H2 ∧ Amb T aS H2 S2 ∧ RdOks T aS H2 m1 xs ds ∧ Post T W aS H σ md Q (match f d ds with
      | some d => .ok d S2
      | none => .bad)) I1 ⟨r, aS, S1, E.ext x1 m1', (by
      cases q2 : ms r S1 with
      | bad => rw [q2] at p; exact p
      | exc c S2 => rw [q2] at p; exact fun H2 x2 m2 => p H2 (x1.trans x2) m2
      | ok ds S2 => rw [q2] at p; exact fun vs H2 x2 m2 k2 => ⟨ds, S2, x2, m2, k2, p⟩)⟩
    rw [hs] at hA ⊢
    refine Calls.callWith_builtin (by show (false || (backTo cpos (starEach es X.env)).any (·.1)) = false; rw [hplain] <;> rfl) (Calls.evalArgs_plain ?_)
    refine thn hA fun us s2 ⟨vs, H2, I2, r2, ds, S2, x2, m2, k2, p⟩ => ?_
    cases qf : f d ds with
    | none => rw [qf] at p; exact p.elim
    | some d' =>
      rw [qf] at p
      refine hm pins s2 σ H2 aS S2 x vs v us d ds d' Q I2 m2 r1 r2 (k1.ext x2) k2 qf fun w H3 x3 e3 k3 => ?_
      exact p w H3 ((x1.trans x2).trans x3) (m2.keep x3 e3) (k3.back (x1.trans x2) m2.ne)
theorem de_meth0 {o : Expr} {name : Str} {apos cpos : Pos} {t id : String} {f : D → List D → Option D} {m0 m1 md : Md} {m : M} (pa : PlainAttrs t) (slot : Slot t name id) (hty : typeOf (.builtin id) = pure (.type "method_descriptor")) (hm : MethX X T id f m0 m1 md) (ho : DE X T W m0 o m)
    (h0 : m0.rd = true := by rfl) (hK : X.K = T.K := by rfl) (hbase : attributeBase o name X.env (eval o X.env) = eval o X.env := by rfl) (hline : (apos.endLine == cpos.line) = true := by rfl) :
    DE X T W md (.Call (.Attribute o name apos) [] [] cpos) (dMeth f m dNil t) := by
  refine ⟨fun pins s σ H Q I ⟨r, aS, S, E, p⟩ => ?_⟩
  refine wpAny_Call_method0_late hbase hline (thn (ho.run pins s σ H (fun x H1 => ∃ d S1, Ext aS H H1 ∧ Amb T aS H1 S1 ∧ RdOk T aS H1 x d m0 ∧ tyD d = some t ∧ Post T W aS H σ md Q (match f d [] with
    | some d => .ok d S1
    | none => .bad)) I ⟨r, aS, S, E, ?_⟩) fun v s1 ⟨x, H1, I1, r1, d, S1, x1, m1', k1, ty, p⟩ => ?_)
  · unfold dMeth at p
    cases q : m r S with
    | bad => rw [q] at p; exact p
    | exc c S1 => rw [q] at p; exact p
    | ok d S1 =>
      rw [q] at p
      simp only [R.bind_ok, dNil] at p
      intro v H1 x1 m1' k1
      split at p
      · rename_i ty; exact ⟨d, S1, x1, m1', k1.rd h0, ty, p⟩
      · exact p.elim
  · obtain ⟨h1, h2⟩ := tyD_is hK I1 r1 (k1.bor m1') ty
    refine ⟨t, id, pa, slot, hty, h1, h2, Calls.callWith_builtin rfl (PySem.evalArgs_none ?_)⟩
    cases qf : f d [] with
    | none => rw [qf] at p; exact p.elim
    | some d' =>
      rw [qf] at p
      refine hm pins s1 σ H1 aS S1 x [] v [] d [] d' Q I1 m1' r1 .nil k1 trivial qf fun w H3 x3 e3 k3 => ?_
      exact p w H3 (x1.trans x3) (m1'.keep x3 e3) (k3.back x1 m1'.ne)
/-- x.split(y) -/
def fSplit (o : D) (ds : List D) : Option D := match o, ds with
  | .s a, [.s b] => if (!(b.length == 0) && decide (a.length + 2 ≤ sizeLine)) = true then some (.l ((Txt.split a b).map D.s)) else none
  | _, _ => none
theorem reps_strs {H : Hp} : ∀ ys : List Str, Reps T H (ys.map V.str) (ys.map D.s)
  | [] => .nil
  | y :: ys => .cons (.s y) (reps_strs ys)
theorem mx_split : MethX X T "str.split" fSplit .bor .bor .f1 := by
  intro pins s σ H aS S x xs v us o ds d Q I m rx rs r1 r2 q k
  unfold fSplit at q
  split at q
  · rename_i a b
    split at q
    · rename_i hc
      cases q
      obtain ⟨y, rfl, r3⟩ := rd1 r2
      rw [Bool.and_eq_true, Bool.not_eq_true', decide_eq_true_eq] at hc
      exact mt_split pins s σ H x _ v us Q I rx rs ⟨a, b, bor_str m r1, by rw [bor_str m r3], hc.1, hc.2, fun p hp => k _ _ (Ext.upd hp) (keepUpd m hp) (ow1_new m hp (reps_strs _))⟩
    · cases q
  · cases q
/-- x.join(list) -/
def strsOf : List D → Option (List Str)
  | [] => some []
  | .s z :: ds => (strsOf ds).map (z :: ·)
  | _ => none
theorem strsOf_vals {aS : Option Addr} {H : Hp} : ∀ {ds : List D} {vs : List V} {ns : List Str}, Bors T aS H vs ds → strsOf ds = some ns → vs = ns.map V.str
  | [], _, _, r, e => by cases r; cases e; rfl
  | d :: ds, _, ns, r, e => by
    cases r with
    | cons r1 r2 =>
      cases d with
      | s n =>
        have e : (strsOf ds).map (n :: ·) = some ns := e
        cases q : strsOf ds with
        | none => rw [q] at e; cases e
        | some ms =>
          rw [q] at e; cases e
          cases r1
          rw [strsOf_vals r2 q]; rfl
      | _ => cases e
def fJoin (o : D) (ds : List D) : Option D := match o, ds with
  | .s a, [.l es] => match strsOf es with
    | some ys => if (ys.map (·.length)).sum + ys.length * a.length ≤ 16777216 then some (.s (Txt.join a ys)) else none
    | none => none
  | _, _ => none
theorem mx_join : MethX X T "str.join" fJoin .bor .bor .val := by
  intro pins s σ H aS S x xs v us o ds d Q I m rx rs r1 r2 q k
  unfold fJoin at q
  split at q
  · rename_i a es
    split at q
    · rename_i ys e
      split at q
      · rename_i hc
        cases q
        obtain ⟨y, rfl, r3⟩ := rd1 r2
        have r3 : Bor T aS H y (.l es) := r3
        cases r3 with
        | l h rr =>
          have hv := strsOf_vals rr e
          subst hv
          exact mt_join pins s σ H x _ v us Q I rx rs ⟨a, _, ys, bor_str m r1, rfl, .inl (SqLof h.1), hc, k _ H Ext.refl (fun _ _ => rfl) (.s _)⟩
      · cases q
    · cases q
  · cases q
/-- x.upper() -/
def fUpper (o : D) (ds : List D) : Option D := match o, ds with
  | .s a, [] => if a.length ≤ 5592405 then some (.s (Txt.upper a)) else none
  | _, _ => none
theorem mx_upper : MethX X T "str.upper" fUpper .bor .bor .val := by
  intro pins s σ H aS S x xs v us o ds d Q I m rx rs r1 r2 q k
  unfold fUpper at q
  split at q
  · rename_i a
    split at q
    · rename_i hc
      cases q
      cases xs with
      | cons _ _ => exact r2.elim
      | nil => exact mt_upper pins s σ H x _ v us Q I rx rs ⟨a, bor_str m r1, rfl, hc, k _ H Ext.refl (fun _ _ => rfl) (.s _)⟩
    · cases q
  · cases q

/-! ### the drawing state read and written -/
def dStIx (j i : Nat) : M := fun r s => match r[j]? with
  | some (some .st) => (match s[i]? with
    | some d => .ok d s
    | none => .bad)
  | _ => .bad
theorem de_stIx (j i : Nat) {x : Str} {p p2 pos : Pos} {u : Nat} {jj} (hi : (i : Int) = u) (hN : X.N[j]? = some x := by rfl) (hv : Vis X.env.scope x := by first | exact Or.inl rfl | exact Or.inr (Or.inl rfl) | exact Or.inr (Or.inr rfl)) (hd : (x == ("__debug__" : Str)) = false := by decide)
    (hcd : (x == ("__classdict__" : Str)) = false := by decide) : DE X T W .val (.Subscript (.Name x p) (.Constant (.int (u : Nat)) jj p2) pos) (dStIx j i) := by
  have hi : u = i := by omega
  subst hi
  refine PE.imp (pe_ix ix_list (pe_var hN hv hd hcd) pe_int (by intro _ _; rfl)) fun σ H Q ⟨r, aS, S, E, p⟩ => ?_
  unfold dStIx at p
  split at p
  · rename_i q
    split at p
    · rename_i d qd
      obtain ⟨a, h1, h2⟩ := E.getSt q
      obtain ⟨_, vs, h3, h4⟩ := E.amb a h2
      obtain ⟨v, h5, h6⟩ := h4.get qd
      exact ⟨.ref a, h1, a, vs, (u : Nat), v, rfl, rfl, .inl (.inl h3), atI_nat h5, p v H Ext.refl E.amb h6⟩
    · exact p.elim
  · exact p.elim
/-- one's own is changed at the places F j -/
theorem ER.wr {aS : Option Addr} {H H2 : Hp} {σ : L2.St} {r : En} {S : Sg} {F : Nat → List Addr} {G : List Addr} {j : Nat} {v : V} {e0 e : Sl} (g : ERF T aS H σ r S F) (hj : r[j]? = some (some e0)) (out : ∀ b o, H b = some o → b ∉ F j → H2 b = some o) (stb : Stb H H2)
    (hv : σ[j]? = some (some v)) (k : SlOk T aS H2 v e G) (hG : ∀ b ∈ G, b ∈ F j ∨ H b = none) : ER T aS H2 σ (r.set j (some e)) S := by
  have hjl : j < r.length := (List.getElem?_eq_some_iff.mp hj).1
  have fr : ∀ b, H b = none → T.H0 b = none ∧ aS ≠ some b ∧ ∀ k, b ∉ F k := fun b hb => by
    obtain ⟨h1, h2⟩ := g.fresh (G := [b]) (fun c hc => by rw [List.mem_singleton.mp hc]; exact hb) b (by simp)
    exact ⟨h1, fun z => g.amb.ne b z hb, h2⟩
  refine ⟨fun i => if i = j then G else F i, fun a ea => ?_, by rw [List.length_set]; exact g.len, fun i z hz => ?_, fun i hz => ?_, fun i l b hil hb => ?_, fun i b hb => ?_, fun b o q c => ?_, g.st⟩
  · obtain ⟨n, vs, h1, h2⟩ := g.amb a ea
    exact ⟨n, vs, out a _ h1 fun z => (g.new j a z).2 ea, Reps.stb stb h2⟩
  · by_cases hi : i = j
    · subst hi
      rw [List.getElem?_set_self hjl] at hz
      cases hz
      exact ⟨v, hv, by rw [if_pos rfl]; exact k⟩
    · rw [List.getElem?_set_ne (Ne.symm hi)] at hz
      obtain ⟨u, h3, h4⟩ := g.sl i z hz
      refine ⟨u, h3, ?_⟩
      rw [if_neg hi]
      have ap : ∀ b ∈ F i, ∀ o, H b = some o → H2 b = some o := fun b hb o q => out b o q (g.dj i j b hi hb)
      have one : ∀ {v d G}, Ow1 T aS H v d G → (∀ b ∈ G, b ∈ F i) → Ow1 T aS H2 v d G := fun {v d G} h hG => by
        cases d with
        | l ds => obtain ⟨a, vs, e1, rfl, n, h, r⟩ := h; exact ⟨a, vs, e1, rfl, n, ap a (hG a (by simp)) _ h, Reps.stb stb r⟩
        | m dk dv => obtain ⟨a, ks, vs, e1, rfl, ⟨na, o, h, q⟩, r, q2⟩ := h; exact ⟨a, ks, vs, e1, rfl, ⟨na, o, ap a (hG a (by simp)) _ h, q⟩, Reps.stb stb r, Reps.stb stb q2⟩
        | n => exact ⟨h.1, Rep.stb stb h.2⟩
        | b _ => exact ⟨h.1, Rep.stb stb h.2⟩
        | i _ => exact ⟨h.1, Rep.stb stb h.2⟩
        | s _ => exact ⟨h.1, Rep.stb stb h.2⟩
        | t _ => exact ⟨h.1, Rep.stb stb h.2⟩
        | x _ => exact ⟨h.1, Rep.stb stb h.2⟩
        | k _ => exact ⟨h.1, Rep.stb stb h.2⟩
      have many : ∀ {vs ds G}, Ow1s T aS H vs ds G → (∀ b ∈ G, b ∈ F i) → Ow1s T aS H2 vs ds G := fun {vs ds G} h => by
        induction h with
        | nil => exact fun _ => .nil
        | cons h _ k ih => exact fun n => .cons (one h fun b hb => n b (List.mem_append_left _ hb)) (ih fun b hb => n b (List.mem_append_right _ hb)) k
      cases z with
      | val d => exact ⟨h4.1, Rep.stb stb h4.2⟩
      | o1 d => exact one h4 fun b hb => hb
      | st => exact h4
      | o2 d =>
        cases d with
        | l ds => obtain ⟨a, vs, G, e1, e2, e3, n, h, r⟩ := h4; exact ⟨a, vs, G, e1, e2, e3, n, ap a (by rw [e2]; simp) _ h, many r fun b hb => by rw [e2]; exact List.mem_cons_of_mem _ hb⟩
        | m dk dv => obtain ⟨a, ks, vs, G, e1, e2, e3, ⟨na, o, h, q⟩, r, hs⟩ := h4; exact ⟨a, ks, vs, G, e1, e2, e3, ⟨na, o, ap a (by rw [e2]; simp) _ h, q⟩, Reps.stb stb r, many hs fun b hb => by rw [e2]; exact List.mem_cons_of_mem _ hb⟩
        | n => exact ⟨h4.1, Rep.stb stb h4.2⟩
        | b _ => exact ⟨h4.1, Rep.stb stb h4.2⟩
        | i _ => exact ⟨h4.1, Rep.stb stb h4.2⟩
        | s _ => exact ⟨h4.1, Rep.stb stb h4.2⟩
        | t _ => exact ⟨h4.1, Rep.stb stb h4.2⟩
        | x _ => exact ⟨h4.1, Rep.stb stb h4.2⟩
        | k _ => exact ⟨h4.1, Rep.stb stb h4.2⟩
  · by_cases hi : i = j
    · subst hi
      rw [List.getElem?_set_self hjl] at hz
      exact absurd rfl (hz _)
    · rw [List.getElem?_set_ne (Ne.symm hi)] at hz
      show (if i = j then G else F i) = []
      rw [if_neg hi]
      exact g.no i hz
  · show b ∉ (if l = j then G else F l)
    have hb : b ∈ (if i = j then G else F i) := hb
    by_cases h1 : i = j
    · rw [if_pos h1] at hb
      rw [if_neg (by rintro rfl; exact hil h1)]
      rcases hG b hb with q | q
      · exact g.dj j l b (by rintro rfl; exact hil h1) q
      · exact (fr b q).2.2 l
    · rw [if_neg h1] at hb
      by_cases h2 : l = j
      · rw [if_pos h2]
        intro z
        rcases hG b z with q | q
        · exact g.dj j i b (Ne.symm h1) q hb
        · exact (fr b q).2.2 i hb
      · rw [if_neg h2]; exact g.dj i l b hil hb
  · have hb : b ∈ (if i = j then G else F i) := hb
    by_cases h1 : i = j
    · rw [if_pos h1] at hb
      rcases hG b hb with q | q
      · exact g.new j b q
      · exact ⟨(fr b q).1, (fr b q).2.1⟩
    · rw [if_neg h1] at hb; exact g.new i b hb
  · exact out b o (g.ext b o q c) fun z => by rw [(g.new j b z).1] at q; cases q
/-- the drawing state is changed -/
theorem ER.wrSt {aS : Option Addr} {H : Hp} {σ : L2.St} {r : En} {S S' : Sg} {a : Addr} {vs : List V} (E : ER T aS H σ r S) (ha : aS = some a) (h0 : ∃ us, H a = some (.lst us)) (k : Reps T H vs S') : ER T aS (upd H a (.lst vs)) σ r S' ∧ Stb H (upd H a (.lst vs)) := by
  obtain ⟨F, g⟩ := E
  obtain ⟨us, h0⟩ := h0
  have stb : Stb H (upd H a (.lst vs)) := fun b o e c => by
    have hb : b ≠ a := by
      rintro rfl
      rw [h0] at e; cases e
      rcases c with ⟨_, z⟩ | ⟨_, _, z⟩ <;> cases z
    rw [upd_ne hb]; exact e
  have x : Ext aS H (upd H a (.lst vs)) := fun b o e c => by
    have hb : b ≠ a := by
      rintro rfl
      rw [h0] at e; cases e
      exact c ⟨_, rfl⟩ ha
    rw [upd_ne hb]; exact e
  refine ⟨⟨F, fun b eb => ?_, g.len, fun j z q => let ⟨v, h1, h2⟩ := g.sl j z q; ⟨v, h1, h2.ext x⟩, g.no, g.dj, g.new, ext0_of g.ext g.st x, g.st⟩, stb⟩
  have : b = a := by rw [ha] at eb; exact (Option.some.inj eb).symm
  subst this
  exact ⟨(g.amb b eb).1, vs, upd_same, Reps.stb stb k⟩
variable {fr : Bool}
/-- state[i] = e -/
def sStSet (j i : Nat) (m : M) : MS := sE m fun d r s => match r[j]? with
  | some (some .st) => if i < s.length then .nx r (s.set i d) else .bad
  | _ => .bad
theorem ds_stSet (j i : Nat) {x : Str} {e : Expr} {m : M} {p p2 p3 pos : Pos} {u : Nat} {jj} (hi : (i : Int) = u) (h : DE X T W .val e m) (hN : X.N[j]? = some x := by rfl) (hv : Vis X.env.scope x := by first | exact Or.inl rfl | exact Or.inr (Or.inl rfl) | exact Or.inr (Or.inr rfl)) (hd : (x == ("__debug__" : Str)) = false := by decide)
    (hcd : (x == ("__classdict__" : Str)) = false := by decide)
    (hs : swapsWithSole [.Subscript (.Name x p) (.Constant (.int (u : Nat)) jj p2) p3] e pos.line X.env = pure false := by rfl) (hw : swappedStores [.Subscript (.Name x p) (.Constant (.int (u : Nat)) jj p2) p3] e X.env = pure none := by rfl)
    (h1 : (assignEach [.Subscript (.Name x p) (.Constant (.int (u : Nat)) jj p2) p3] X.env).map (·.2) = [assign (.Subscript (.Name x p) (.Constant (.int (u : Nat)) jj p2) p3) X.env] := by rfl) :
    DS X T W fr (.Assign [.Subscript (.Name x p) (.Constant (.int (u : Nat)) jj p2) p3] e pos) (sStSet j i m) := by
  have hi : u = i := by omega
  subst hi
  intro N c
  refine PS.imp (ps_asg h (pg_sub (pe_var hN hv hd hcd) pe_int set_list) hs hw h1) fun E σ H q => tE_of c q fun r aS S S' d v H' e x e' nh km p => ?_
  split at p
  · rename_i q
    split at p
    · rename_i hl
      obtain ⟨a, h1, h2⟩ := e'.getSt q
      obtain ⟨n, vs, h3, h4⟩ := e'.amb a h2
      have hlv : u < vs.length := by rw [h4.length]; exact hl
      obtain ⟨E2, stb⟩ := ER.wrSt e' h2 ⟨_, h3⟩ (vs := vs.set u v) (Rps.set km u h4)
      refine ⟨.ref a, h1, a, vs, (u : Nat), u, rfl, rfl, h3, ?_, p _ _ aS E2 (c _ _ stb nh)⟩
      unfold ixN
      rw [if_pos (by omega), if_pos (by omega)]; simp
    · exact p.elim
  · exact p.elim

/-! ### changes of one's own list -/
/-- the slot's own list at hand, ahead -/
def ownL (j : Nat) (f : List D → MS) : MS := fun r s => match r[j]? with
  | some (some (.o1 (.l ds))) => f ds r s
  | _ => .bad
def sApp (j : Nat) (m : M) : MS := ownL j fun ds => sE m fun d r s => if ds.length < sizeLine then .nx (r.set j (some (.o1 (.l (ds ++ [d]))))) s else .bad
theorem ownL_of {N : Hp → Prop} {fr : Bool} {E : Ends} {σ : L2.St} {H : Hp} {j : Nat} {f : List D → MS} (h : tS T N W fr (ownL j f) E σ H) : ∃ ds r aS S, ER T aS H σ r S ∧ r[j]? = some (some (.o1 (.l ds))) ∧ N H ∧ PostS T N W fr E (f ds r S) := by
  obtain ⟨r, aS, S, e, n, p⟩ := h
  unfold ownL at p
  split at p
  · rename_i ds q; exact ⟨ds, r, aS, S, e, q, n, p⟩
  · exact p.elim
theorem stb_upd {H : Hp} {a : Addr} {o u : HO} (h : H a = some o) (n : (∀ xs, o ≠ .tup xs) ∧ ∀ b x, o ≠ .frz b x) : Stb H (upd H a u) := fun b w e c => by
  have hb : b ≠ a := by
    rintro rfl
    rw [h] at e; cases e
    rcases c with ⟨_, z⟩ | ⟨_, _, z⟩
    · exact n.1 _ z
    · exact n.2 _ _ z
  rw [upd_ne hb]; exact e
theorem stb_lst {H : Hp} {a : Addr} {xs : List V} {u : HO} (h : H a = some (.lst xs)) : Stb H (upd H a u) := stb_upd h ⟨fun _ z => (by cases z), fun _ _ z => (by cases z)⟩
/-- the slot's list at hand -/
theorem ERF.own {aS : Option Addr} {H : Hp} {σ : L2.St} {r : En} {S : Sg} {F : Nat → List Addr} {j : Nat} {ds : List D} (g : ERF T aS H σ r S F) (q : r[j]? = some (some (.o1 (.l ds)))) : ∃ a vs, σ[j]? = some (some (.ref a)) ∧ F j = [a] ∧ aS ≠ some a ∧ H a = some (.lst vs) ∧ Reps T H vs ds := by
  obtain ⟨v, h1, h2⟩ := g.sl j _ q
  obtain ⟨a, vs, rfl, e2, n, h, r⟩ := h2
  exact ⟨a, vs, h1, e2, n, h, r⟩
theorem ER.wrL {aS : Option Addr} {H : Hp} {σ : L2.St} {r : En} {S : Sg} {F : Nat → List Addr} {j : Nat} {ds es : List D} {a : Addr} {vs ws : List V} (g : ERF T aS H σ r S F) (q : r[j]? = some (some (.o1 (.l ds)))) (h1 : σ[j]? = some (some (.ref a))) (h2 : F j = [a]) (h3 : aS ≠ some a) (h4 : H a = some (.lst vs)) (k : Reps T H ws es) :
    ER T aS (upd H a (.lst ws)) σ (r.set j (some (.o1 (.l es)))) S :=
  ER.wr g q (fun b o e n => by rw [upd_ne (by rintro rfl; exact n (by rw [h2]; simp))]; exact e) (stb_lst h4) h1 (e := .o1 (.l es)) (G := [a]) ⟨a, ws, rfl, rfl, h3, upd_same, Reps.stb (stb_lst h4) k⟩ fun b hb => .inl (by rw [h2]; exact hb)
theorem ds_app (j : Nat) {x : Str} {e : Expr} {m : M} {p apos cpos pos : Pos} (h : DE X T W .val e m) (hN : X.N[j]? = some x := by rfl) (hv : Vis X.env.scope x := by first | exact Or.inl rfl | exact Or.inr (Or.inl rfl) | exact Or.inr (Or.inr rfl)) (hd : (x == ("__debug__" : Str)) = false := by decide)
    (hcd : (x == ("__classdict__" : Str)) = false := by decide) (hs : swapsWith (.Call (.Attribute (.Name x p) "append" apos) [e] [] cpos) none pos.line X.env = pure false := by rfl)
    (hbase : attributeBase (.Name x p) "append" X.env (eval (.Name x p) X.env) = eval (.Name x p) X.env := by rfl)
    (hfew : ((backTo cpos (starEach [e] X.env)).all (fun x => !x.1) && (backToKw cpos (keywordEach [] X.env)).all (fun x => x.1.isSome)
      && decide ([e].length + ([] : List Keyword).length + (if ([] : List Keyword).isEmpty then 0 else 1) < 30)) = true := by rfl)
    (hline : (apos.endLine == cpos.line) = true := by rfl) (hst : starEach [e] X.env = [(false, eval e X.env)] := by rfl) : DS X T W fr (.Expr (.Call (.Attribute (.Name x p) "append" apos) [e] [] cpos) pos) (sApp j m) := by
  intro N c
  refine PS.imp (ps_expr (pe_bm PySem.F.plainAttrs_list PySem.F.slot_list_append PySem.F.type_list_append mt_append (pe_var hN hv hd hcd) (pa_cons h pa_nil (hs := hst)) hbase hfew hline hst rfl) hs) fun E σ H q => ?_
  obtain ⟨ds, r, aS, S, e, qj, nh, p⟩ := ownL_of q
  obtain ⟨F, g⟩ := id e
  obtain ⟨a, vs, h1, h2, h3, h4, h5⟩ := g.own qj
  refine ⟨.ref a, h1, .inl ⟨rfl, vs, .inl (.inl h4)⟩, r, aS, S, e, ?_⟩
  unfold sE at p
  cases q : m r S with
  | bad => rw [q] at p; exact p
  | exc ce S1 => rw [q] at p; exact fun H' x a => p σ H' aS (e.ext x a) (c _ _ x.stb nh)
  | ok d S1 =>
    rw [q] at p
    intro v H1 x1 m1 k1
    have k1 : Rep T H1 v d := k1
    have p : PostS T N W fr E (if ds.length < sizeLine then .nx (r.set j (some (.o1 (.l (ds ++ [d]))))) S1 else .bad) := p
    split at p
    · rename_i hl
      obtain ⟨F1, g1⟩ := e.ext x1 m1
      obtain ⟨a', vs', h1', h2', h3', h4', h5'⟩ := g1.own qj
      have : V.ref a' = V.ref a := by rw [h1] at h1'; exact (Option.some.inj (Option.some.inj h1')).symm
      cases this
      exact ⟨a, vs', v, rfl, rfl, h4', by rw [h5'.length]; exact hl, p _ _ aS (ER.wrL g1 qj h1' h2' h3' h4' (Rps.append h5' (.cons k1 .nil))) (c _ _ (x1.stb.trans (stb_lst h4')) nh)⟩
    · exact p.elim
/-- xs.extend(e), xs.insert(i, e), e.pop() are like it -/
def sExt (j : Nat) (m : M) : MS := ownL j fun ds => sE m fun d r s => match d with
  | .l es => if ds.length + es.length ≤ sizeLine then .nx (r.set j (some (.o1 (.l (ds ++ es))))) s else .bad
  | _ => .bad
theorem ds_ext (j : Nat) {x : Str} {e : Expr} {m : M} {p apos cpos pos : Pos} (h : DE X T W .f1 e m) (hN : X.N[j]? = some x := by rfl) (hv : Vis X.env.scope x := by first | exact Or.inl rfl | exact Or.inr (Or.inl rfl) | exact Or.inr (Or.inr rfl)) (hd : (x == ("__debug__" : Str)) = false := by decide)
    (hcd : (x == ("__classdict__" : Str)) = false := by decide) (hs : swapsWith (.Call (.Attribute (.Name x p) "extend" apos) [e] [] cpos) none pos.line X.env = pure false := by rfl)
    (hbase : attributeBase (.Name x p) "extend" X.env (eval (.Name x p) X.env) = eval (.Name x p) X.env := by rfl)
    (hfew : ((backTo cpos (starEach [e] X.env)).all (fun x => !x.1) && (backToKw cpos (keywordEach [] X.env)).all (fun x => x.1.isSome)
      && decide ([e].length + ([] : List Keyword).length + (if ([] : List Keyword).isEmpty then 0 else 1) < 30)) = true := by rfl)
    (hline : (apos.endLine == cpos.line) = true := by rfl) (hst : starEach [e] X.env = [(false, eval e X.env)] := by rfl) : DS X T W fr (.Expr (.Call (.Attribute (.Name x p) "extend" apos) [e] [] cpos) pos) (sExt j m) := by
  intro N c
  refine PS.imp (ps_expr (pe_bm PySem.F.plainAttrs_list PySem.F.slot_list_extend PySem.F.type_list_extend mt_extend (pe_var hN hv hd hcd) (pa_cons h pa_nil (hs := hst)) hbase hfew hline hst rfl) hs) fun E σ H q => ?_
  obtain ⟨ds, r, aS, S, e, qj, nh, p⟩ := ownL_of q
  obtain ⟨F, g⟩ := id e
  obtain ⟨a, vs, h1, h2, h3, h4, h5⟩ := g.own qj
  refine ⟨.ref a, h1, .inl ⟨rfl, vs, .inl (.inl h4)⟩, r, aS, S, e, ?_⟩
  unfold sE at p
  cases q : m r S with
  | bad => rw [q] at p; exact p
  | exc ce S1 => rw [q] at p; exact fun H' x a => p σ H' aS (e.ext x a) (c _ _ x.stb nh)
  | ok d S1 =>
    rw [q] at p
    rintro v H1 x1 m1 ⟨G, k1, k2⟩
    cases d with
    | l es =>
      have p : PostS T N W fr E (if ds.length + es.length ≤ sizeLine then .nx (r.set j (some (.o1 (.l (ds ++ es))))) S1 else .bad) := p
      split at p
      · rename_i hl
        obtain ⟨b, ws, rfl, rfl, n1, hb, rb⟩ := k1
        obtain ⟨F1, g1⟩ := e.ext x1 m1
        obtain ⟨a', vs', h1', h2', h3', h4', h5'⟩ := g1.own qj
        have : V.ref a' = V.ref a := by rw [h1] at h1'; exact (Option.some.inj (Option.some.inj h1')).symm
        cases this
        exact ⟨a, b, vs', ws, rfl, rfl, h4', hb, by rw [h5'.length, rb.length]; exact hl, p _ _ aS (ER.wrL g1 qj h1' h2' h3' h4' (Rps.append h5' rb)) (c _ _ (x1.stb.trans (stb_lst h4')) nh)⟩
      · exact p.elim
    | _ => exact p.elim
/-- xs[i] = e, xs one's own list -/
def sSetIx (j : Nat) (m mi : M) : MS := sE m fun d r s => ownL j (fun ds => sE mi fun i r s => match i with
  | .i n => (match ixN ds.length n with
    | some k => .nx (r.set j (some (.o1 (.l (ds.set k d))))) s
    | none => .bad)
  | _ => .bad) r s
theorem ds_setIx (j : Nat) {x : Str} {e ei : Expr} {m mi : M} {p p3 pos : Pos} (h : DE X T W .val e m) (hi : DE X T W .val ei mi) (hN : X.N[j]? = some x := by rfl) (hv : Vis X.env.scope x := by first | exact Or.inl rfl | exact Or.inr (Or.inl rfl) | exact Or.inr (Or.inr rfl)) (hd : (x == ("__debug__" : Str)) = false := by decide)
    (hcd : (x == ("__classdict__" : Str)) = false := by decide)
    (hs : swapsWithSole [.Subscript (.Name x p) ei p3] e pos.line X.env = pure false := by rfl) (hw : swappedStores [.Subscript (.Name x p) ei p3] e X.env = pure none := by rfl)
    (h1 : (assignEach [.Subscript (.Name x p) ei p3] X.env).map (·.2) = [assign (.Subscript (.Name x p) ei p3) X.env] := by rfl)
    (ha : ∀ v, assign (.Subscript (.Name x p) ei p3) X.env v = (do
      let ov ← holding [v] (eval (.Name x p) X.env)
      let iv ← holding [v, ov] (eval ei X.env)
      standAt p3
      holding [v, ov, iv] (setItem ov iv v)
      release [v, ov, iv] []) := by intro _; rfl) :
    DS X T W fr (.Assign [.Subscript (.Name x p) ei p3] e pos) (sSetIx j m mi) := by
  intro N c
  refine PS.imp (ps_asg h (pg_sub (pe_var hN hv hd hcd) hi set_list ha) hs hw h1) fun E σ H q => tE_of c q fun r aS S S' d v H' e x e' nh km p => ?_
  unfold ownL at p
  split at p
  · rename_i ds qj
    obtain ⟨F, g⟩ := id e'
    obtain ⟨a, vs, h1, h2, h3, h4, h5⟩ := g.own qj
    refine ⟨.ref a, h1, r, aS, S', e', ?_⟩
    unfold sE at p
    dsimp only at p
    cases q2 : mi r S' with
    | bad => rw [q2] at p; exact p
    | exc ce S1 => rw [q2] at p; exact fun H' x a => p σ H' aS (e'.ext x a) (c _ _ x.stb nh)
    | ok di S1 =>
      rw [q2] at p
      intro w H1 x1 m1 k1
      have k1 : Rep T H1 w di := k1
      cases k1 with
      | i n =>
        simp only at p
        split at p
        · rename_i k hk
          obtain ⟨F1, g1⟩ := e'.ext x1 m1
          obtain ⟨a', vs', h1', h2', h3', h4', h5'⟩ := g1.own qj
          have : V.ref a' = V.ref a := by rw [h1] at h1'; exact (Option.some.inj (Option.some.inj h1')).symm
          cases this
          exact ⟨a, vs', n, k, rfl, rfl, h4', by rw [h5'.length]; exact hk, p _ _ aS (ER.wrL g1 qj h1' h2' h3' h4' (Rps.set (Rep.ext x1 km) k h5')) (c _ _ (x1.stb.trans (stb_lst h4')) nh)⟩
        · exact p.elim
      | _ => exact p.elim
  · exact p.elim
/-- x = xs.pop() -/
def sPop (j i : Nat) : MS := ownL j fun ds r s => match ds.getLast? with
  | some d => if i < r.length then .nx ((r.set j (some (.o1 (.l ds.dropLast)))).set i (some (.val d))) s else .bad
  | none => .bad

/-! ### more returns -/
/-- return x, x one's own new list: it goes over -/
def sRetO (j : Nat) : MS := fun r s => match r[j]? with
  | some (some (.o1 d)) => .ret d s
  | _ => .bad
theorem ds_retO (j : Nat) {x : Str} {p pos : Pos} (hN : X.N[j]? = some x := by rfl) (hv : Vis X.env.scope x := by first | exact Or.inl rfl | exact Or.inr (Or.inl rfl) | exact Or.inr (Or.inr rfl)) (hd : (x == ("__debug__" : Str)) = false := by decide)
    (hcd : (x == ("__classdict__" : Str)) = false := by decide) : DS X T W true (.Return (some (.Name x p)) pos) (sRetO j) :=
  fun N c => PS.imp (ps_ret (pe_var hN hv hd hcd)) fun E σ H q => by
    obtain ⟨r, aS, S, e, nh, p⟩ := q
    unfold sRetO at p
    split at p
    · rename_i d qj
      obtain ⟨F, g⟩ := id e
      obtain ⟨v, h1, h2⟩ := g.sl j _ qj
      have h2 : Ow1 T aS H v d (F j) := h2
      refine ⟨v, h1, p v H ⟨e.ext0, ?_, F j, ?_, fun b hb => (g.new j b hb).1⟩⟩
      · rcases e.st with q | ⟨q, _⟩
        · rw [← q]; exact e.amb
        · rw [q]; exact Amb.no
      · rcases e.st with q | ⟨q, _⟩
        · rw [← q]; exact h2
        · cases d with
          | l ds => obtain ⟨a, vs, e1, e2, _, h, r⟩ := h2; exact ⟨a, vs, e1, e2, by rw [q]; simp, h, r⟩
          | m dk dv => exact h2
          | n => exact h2
          | b _ => exact h2
          | i _ => exact h2
          | s _ => exact h2
          | t _ => exact h2
          | x _ => exact h2
          | k _ => exact h2
    · exact p.elim
/-- x, y = a, b: local names -/
def sPar (i j : Nat) (ma mb : M) : MS := fun r s => match (ma r s).bind fun a s1 => (mb r s1).bind fun b s2 => .ok (a, b) s2 with
  | .ok (a, b) s => if i < r.length ∧ j < r.length then .nx ((r.set i (some (.val a))).set j (some (.val b))) s else .bad
  | .exc c s => .exc c r s
  | .bad => .bad
theorem ds_par (i j : Nat) {x y : Str} {a b : Expr} {ma mb : M} {px py pt pos : Pos} {kt k2 pt2} (hN : X.N.Nodup) (ha : DE X T W .val a ma) (hb : DE X T W .val b mb) (hi : X.N[i]? = some x := by rfl) (hj : X.N[j]? = some y := by rfl) (hij : i ≠ j := by decide)
    (hx : X.env.scope.names.lookup x = some .local := by rfl) (hy : X.env.scope.names.lookup y = some .local := by rfl) (hc : X.calm = true := by rfl)
    (hw : swappedStores [.Tuple [.Name x px, .Name y py] kt pt] (.Tuple [a, b] k2 pt2) X.env = pure (some [x, y]) := by rfl)
    (hs : swapsWithSole [.Tuple [.Name x px, .Name y py] kt pt] (.Tuple [a, b] k2 pt2) pos.line X.env = pure false := by rfl)
    (s1 : starEach [a, b] X.env = (false, eval a X.env) :: starEach [b] X.env := by rfl) (s2 : starEach [b] X.env = [(false, eval b X.env)] := by rfl) :
    DS X T W fr (.Assign [.Tuple [.Name x px, .Name y py] kt pt] (.Tuple [a, b] k2 pt2) pos) (sPar i j ma mb) := by
  intro N c
  refine PS.imp (ps_par hc hN hi hj hij hx hy (pa_cons ha (pa_cons hb pa_nil (hs := s2)) (hs := s1)) hw hs) fun E σ H ⟨r, aS, S, e, nh, p⟩ => ?_
  unfold sPar at p
  refine ⟨r, aS, S, e, ?_⟩
  cases q : ma r S with
  | bad => rw [q] at p; exact p
  | exc ce S1 => rw [q] at p; exact fun H' x a => p σ H' aS (e.ext x a) (c _ _ x.stb nh)
  | ok d S1 =>
    rw [q] at p
    simp only [R.bind_ok] at p
    intro v H1 x1 m1 k1
    refine ⟨r, aS, S1, e.ext x1 m1, ?_⟩
    cases q2 : mb r S1 with
    | bad => rw [q2] at p; exact p
    | exc ce S2 => rw [q2] at p; exact fun H2 x2 m2 => p σ H2 aS (e.ext (x1.trans x2) m2) (c _ _ (x1.trans x2).stb nh)
    | ok d2 S2 =>
      rw [q2] at p
      simp only [R.bind_ok] at p
      intro w H2 x2 m2 k2
      split at p
      · rename_i hl
        have e2 := e.ext (x1.trans x2) m2
        exact ⟨v, w, rfl, p _ H2 aS ((e2.setVal (Rep.ext x2 k1) hl.1).setVal k2 (by rw [List.length_set]; exact hl.2)) (c _ _ (x1.trans x2).stb nh)⟩
      · exact p.elim
end
end DL

/-! DL12: isinstance; errors raised and caught. -/
namespace DL
open PySem PySem.Spec PyProof.Rows L2

/-- a class: a built-in type, or one of the own error classes by number -/
inductive Kc where
  | ty (n : String)
  | own (c : Nat)
def kcv (T : Fx) : Kc → Value
  | .ty n => .type n
  | .own c => .ref (T.cl c)
def tyOf (T : Fx) : D → Value
  | .n => .type "NoneType"
  | .b _ => .type "bool"
  | .i _ => .type "int"
  | .s _ => .type "str"
  | .t _ => .type "tuple"
  | .l _ => .type "list"
  | .k _ => .type "list"
  | .m _ _ => .type "dict"
  | .x c => .ref (T.cl c)
def isBool : D → Bool
  | .b _ => true
  | _ => false
def isInt : D → Bool
  | .i _ => true
  | .b _ => true
  | _ => false
def isStr : D → Bool
  | .s _ => true
  | _ => false
def isTuple : D → Bool
  | .t _ => true
  | _ => false
def isList : D → Bool
  | .l _ => true
  | .k _ => true
  | _ => false
def isErr : D → Option Nat
  | .x c => some c
  | _ => none
/-- isinstance with one class: what is known -/
def isi1 (d : D) (k : Kc) : Option Bool := match isErr d, k with
  | some c, .own e => if c < 9 ∧ e < 9 then some (c == e || e == 0) else none
  | some c, .ty "ValueError" => if c < 9 then some true else none
  | some _, .ty _ => none
  | none, .own e => if e < 9 then some false else none
  | none, .ty "int" => some (isInt d)
  | none, .ty "bool" => some (isBool d)
  | none, .ty "str" => some (isStr d)
  | none, .ty "tuple" => some (isTuple d)
  | none, .ty "list" => some (isList d)
  | none, .ty "ValueError" => some false
  | none, .ty _ => none
def isiA (d : D) : List Kc → Option Bool
  | [] => some false
  | k :: ks => match isi1 d k with
    | some true => some true
    | some false => isiA d ks
    | none => none
/-- what must hold of the own error classes -/
structure IsiF (T : Fx) : Prop where
  own : ∀ c e, c < 9 → e < 9 → PySem.W.kitOne T.K (.ref (T.cl c)) (.ref (T.cl e)) = some (c == e || e == 0)
  val : ∀ c, c < 9 → PySem.W.kitOne T.K (.ref (T.cl c)) (.type "ValueError") = some true
  blt : ∀ n ∈ ["NoneType", "bool", "int", "str", "tuple", "list", "dict"], ∀ c, c < 9 → PySem.W.kitOne T.K (.type n) (.ref (T.cl c)) = some false
  exc : ∀ c, c < 9 → ExcC T.K (T.cl c)
theorem isi1_ok {T : Fx} (F : IsiF T) {d : D} {k : Kc} {b : Bool} (h : isi1 d k = some b) : PySem.W.kitOne T.K (tyOf T d) (kcv T k) = some b := by
  unfold isi1 at h
  cases d with
  | x c =>
    simp only [isErr] at h
    split at h
    · rename_i q1; cases q1
      split at h
      · rename_i hc; cases h; exact F.own _ _ hc.1 hc.2
      · cases h
    · rename_i q1; cases q1
      split at h
      · rename_i hc; cases h; exact F.val _ hc
      · cases h
    · cases h
    all_goals (rename_i q1; cases q1)
  | _ =>
    simp only [isErr] at h
    split at h
    · rename_i q1; cases q1
    · rename_i q1; cases q1
    · rename_i q1; cases q1
    · split at h
      · rename_i hc; cases h
        exact F.blt _ (by simp [tyOf]) _ hc
      · cases h
    all_goals first
      | (cases h; done)
      | (cases h
         first
           | (show PySem.W.kitOne T.K (.type _) (.type _) = some true; exact kit_ty (by decide +kernel))
           | (show PySem.W.kitOne T.K (.type _) (.type _) = some false; exact kit_ty (by decide +kernel)))
theorem isiA_ok {T : Fx} (F : IsiF T) {d : D} : ∀ {ks : List Kc} {b : Bool}, isiA d ks = some b → PySem.W.kitAny T.K (tyOf T d) (ks.map (kcv T)) = some b
  | [], _, h => h
  | k :: ks, b, h => by
    unfold isiA at h
    simp only [List.map_cons, PySem.W.kitAny]
    split at h
    · rename_i q; rw [isi1_ok F q]; exact h
    · rename_i q; rw [isi1_ok F q]; exact isiA_ok F h
    · cases h
section
variable {X : Cx} {T : Fx} {W : WX}
theorem kit_d {pins : List (Addr × Obj)} {σ : L2.St} {H : Hp} {s : Shared} {aS : Option Addr} {x : V} {u : Value} {d : D} (F : IsiF T) (hK : X.K = T.K) (I : Inv X pins σ H s) (rx : RelV x u) (k : Bor T aS H x d) (hd : ∀ c, d = .x c → c < 9) :
    ∃ P : Heap → Prop, PySem.W.KitX X.K u (tyOf T d) P ∧ P s.heap ∧ u ≠ .builtin "__main__.__loader__#opaque" := by
  cases k with
  | n => cases (show u = Value.none from rx); exact ⟨_, PySem.W.kitx_none, True.intro, fun z => nomatch z⟩
  | b y => cases (show u = Value.bool y from rx); exact ⟨_, PySem.W.kitx_bool, True.intro, fun z => nomatch z⟩
  | i i => obtain ⟨t, q⟩ := (show ∃ t, u = Value.int i t from rx); cases q; exact ⟨_, PySem.W.kitx_int, True.intro, fun z => nomatch z⟩
  | s y => obtain ⟨t, q⟩ := (show ∃ t, u = Value.str y t from rx); cases q; exact ⟨_, PySem.W.kitx_str, True.intro, fun z => nomatch z⟩
  | t h _ =>
    cases rx
    obtain ⟨its, _, ⟨o, ho, hc, _⟩, _⟩ := I.tuple (by rw [hK]; exact h)
    exact ⟨_, PySem.W.kitx_tuple, ⟨o, ho, hc⟩, fun z => nomatch z⟩
  | l h _ =>
    cases rx
    obtain ⟨its, n, rv, z, e⟩ := rdL I h.1
    exact ⟨_, PySem.W.kitx_list, ⟨_, e, rfl⟩, fun z => nomatch z⟩
  | k h _ =>
    cases rx
    obtain ⟨its, rv, ⟨o, n, ho, hc, _, _⟩, _⟩ := I.list (sqL_k hK h)
    exact ⟨_, PySem.W.kitx_list, ⟨_, ho, hc⟩, fun z => nomatch z⟩
  | m h _ _ =>
    cases rx
    rcases h with ⟨_, o, h, ex, _⟩ | ⟨_, o, h, ex, _⟩
    · obtain ⟨e1, o', e2⟩ := I.hok _ _ h
      exact ⟨_, PySem.W.kitx_dict, ⟨o, e1, ex.1⟩, fun z => nomatch z⟩
    · obtain ⟨e1, _, _⟩ := I.hok _ _ h
      exact ⟨_, PySem.W.kitx_dict, ⟨o, e1, ex.1⟩, fun z => nomatch z⟩
  | @x a c h =>
    cases rx
    obtain ⟨o, h, c1, c2, vs, c3⟩ := h
    obtain ⟨e1, _, _⟩ := I.hok _ _ h
    have e1 : s.heap.get? a = some o := e1
    have C := F.exc c (hd c rfl)
    have J : PySem.W.InstAt s.heap a o (T.cl c) none := by
      obtain ⟨oc, od, oda, osl⟩ := o
      dsimp only at c1 c2 c3
      subst c1 c2 c3
      exact ⟨e1, rfl, rfl, trivial⟩
    rw [hK]
    exact ⟨_, PySem.W.handS_kitx_exc C.hg C.hk C.hs C.hd C.ha C.hn C.ht C.hm, J, fun z => nomatch z⟩
theorem isi1_lt {d : D} {k : Kc} {b : Bool} (h : isi1 d k = some b) : ∀ c, d = .x c → c < 9 := by
  rintro c rfl
  unfold isi1 at h
  simp only [isErr] at h
  split at h
  · rename_i q1; cases q1
    split at h
    · rename_i hc; exact hc.1
    · cases h
  · rename_i q1; cases q1
    split at h
    · rename_i hc; exact hc
    · cases h
  · cases h
  all_goals (rename_i q1; cases q1)
theorem isiA_lt {d : D} {k : Kc} {ks : List Kc} {b : Bool} (h : isiA d (k :: ks) = some b) : ∀ c, d = .x c → c < 9 := by
  unfold isiA at h
  split at h
  · rename_i q; exact isi1_lt q
  · rename_i q; exact isi1_lt q
  · cases h
/-- a class's name -/
def DK (X : Cx) (T : Fx) (e : Expr) (k : Kc) : Prop := ∃ v, PE X e (tC v) ∧ ClsV v (kcv T k)
theorem dk_ty (n : String) {x : Str} {pos : Pos} (hm : X.mg x = none) (hv : bootBuiltins x = some (.type n)) (hg : Gl X x := by rfl) (hn : x ≠ "__name__" := by decide) (hd : (x == ("__debug__" : Str)) = false := by decide) : DK X T (.Name x pos) (.ty n) :=
  ⟨.ty n, pe_bltn hg hm hv rfl hn hd, .ty n⟩
theorem dk_own (c : Nat) {x : Str} {pos : Pos} (hm : X.mg x = some (.ref (T.cl c))) (hg : Gl X x := by rfl) (hd : (x == ("__debug__" : Str)) = false := by decide) : DK X T (.Name x pos) (.own c) :=
  ⟨.ref (T.cl c), pe_glob hg hm rfl hd, .own _⟩
def DKs (X : Cx) (T : Fx) (es : List Expr) (ks : List Kc) : Prop := PA X es (fun σ H Q => ∀ vs, Paired ClsV vs (ks.map (kcv T)) → Q vs H)
theorem dks_nil : DKs X T [] [] := PA.imp pa_nil fun σ H Q h => h [] .nil
theorem dks_cons {e : Expr} {es : List Expr} {k : Kc} {ks : List Kc} (h : DK X T e k) (hs : DKs X T es ks) (hst : starEach (e :: es) X.env = (false, eval e X.env) :: starEach es X.env := by rfl) : DKs X T (e :: es) (k :: ks) := by
  obtain ⟨v, h1, h2⟩ := h
  exact PA.imp (pa_cons h1 hs hst) fun σ H Q p vs r => p (v :: vs) (.cons h2 r)
/-- isinstance(e, c), isinstance(e, (c, ..)) -/
def dIsi (m : M) (ks : List Kc) : M := fun r s => (m r s).bind fun d s1 => match isiA d ks with
  | some b => .ok (.b b) s1
  | none => .bad
def rIs1 (T : Fx) (k : Kc) : List V → Hp → VK → Prop := fun xs H Q => ∃ x v aS d b, xs = [x, v] ∧ ClsV v (kcv T k) ∧ Bor T aS H x d ∧ isi1 d k = some b ∧ Q (.bl b) H
theorem call_is1 (F : IsiF T) (hK : X.K = T.K) (k : Kc) : CallR X (.builtin "isinstance") (rIs1 T k) := by
  intro pins s σ H xs us Q I r h
  obtain ⟨x, v, aS, d, b, rfl, kc, k1, e, q⟩ := h
  obtain ⟨u1, u2, rfl, r1, r2⟩ := vals2 r
  have e2 := kc.eq r2
  subst e2
  obtain ⟨P, Z, p, hx⟩ := kit_d F hK I r1 k1 (isi1_lt e)
  have e' := isi1_ok F e
  rw [← hK] at e'
  exact PySem.W.kia_one Z I.kIn p e' hx fun tk => ⟨.bl b, H, I.tok tk, rfl, q⟩
def rIsN (T : Fx) (ks : List Kc) : List V → Hp → VK → Prop := fun xs H Q => ∃ x tp cs aS d b, xs = [x, .ref tp] ∧ H tp = some (.tup cs) ∧ Paired ClsV cs (ks.map (kcv T)) ∧ Bor T aS H x d ∧ (∀ c, d = .x c → c < 9) ∧ isiA d ks = some b ∧ Q (.bl b) H
theorem call_isN (F : IsiF T) (hK : X.K = T.K) (ks : List Kc) : CallR X (.builtin "isinstance") (rIsN T ks) := by
  intro pins s σ H xs us Q I r h
  obtain ⟨x, tp, cs, aS, d, b, rfl, hT, kc, k1, lt, e, q⟩ := h
  obtain ⟨u1, u2, rfl, r1, r2⟩ := vals2 r
  cases (show u2 = Value.ref tp from r2)
  obtain ⟨P, Z, p, hx⟩ := kit_d F hK I r1 k1 lt
  obtain ⟨_, its, rv, o, h1, h2, n, h3⟩ := (show ObjOk X.prog X.w H s.heap tp (.tup cs) from I.hok tp _ hT)
  have e3 := ClsV.all kc rv
  subst e3
  obtain ⟨oc, od, dt, sl⟩ := o
  simp only at h2 h3
  subst h2 h3
  have e' := isiA_ok F e
  rw [← hK] at e'
  exact PySem.W.kia_tup Z I.kIn p h1 e' hx fun tk => ⟨.bl b, H, I.tok tk, rfl, q⟩
theorem boot_isi : bootBuiltins "isinstance" = some (.builtin "isinstance") := by decide +kernel
theorem de_isi {e c : Expr} {m : M} {k : Kc} {p pos : Pos} (F : IsiF T) (hm : X.mg "isinstance" = none) (he : DE X T W .bor e m) (hc : DK X T c k) (hg : Gl X "isinstance" := by rfl) (hK : X.K = T.K := by rfl)
    (hs1 : starEach [e, c] X.env = (false, eval e X.env) :: starEach [c] X.env := by rfl) (hs2 : starEach [c] X.env = [(false, eval c X.env)] := by rfl) (hpl : (backTo pos (starEach [c] X.env)).any (·.1) = false := by rfl) :
    DE X T W .val (.Call (.Name "isinstance" p) [e, c] [] pos) (dIsi m [k]) := by
  obtain ⟨v, h1, h2⟩ := hc
  refine PE.imp (pe_callB (call_is1 F hK k) hg hm boot_isi (pa_cons he (pa_cons h1 pa_nil (hs := hs2)) (hs := hs1)) (by decide) (by decide) hs1 hpl) fun σ H Q ⟨r, aS, S, E, p⟩ => ⟨r, aS, S, E, ?_⟩
  unfold dIsi at p
  cases q : m r S with
  | bad => rw [q] at p; exact p
  | exc c S1 => rw [q] at p; exact p
  | ok d S1 =>
    rw [q] at p
    simp only [R.bind_ok] at p
    intro x H1 x1 m1 k1
    have p : Post T W aS H σ .val Q (match (match isi1 d k with | some true => some true | some false => some false | none => none) with | some b => .ok (.b b) S1 | none => .bad) := p
    cases qi : isi1 d k with
    | none => rw [qi] at p; exact p.elim
    | some b =>
      rw [qi] at p
      refine ⟨x, v, aS, d, b, rfl, h2, k1, qi, ?_⟩
      cases b <;> exact p _ H1 x1 m1 (.b _)
theorem de_isiT {e : Expr} {cs : List Expr} {m : M} {k : Kc} {ks : List Kc} {n : Nat} {p p2 pos : Pos} (F : IsiF T) (hm : X.mg "isinstance" = none) (he : DE X T W .bor e m) (hc : DKs X T cs (k :: ks)) (hl : decide ((k :: ks).length ≤ 30) = true := by rfl) (hg : Gl X "isinstance" := by rfl) (hK : X.K = T.K := by rfl)
    (hs1 : starEach [e, .Tuple cs n p2] X.env = (false, eval e X.env) :: starEach [.Tuple cs n p2] X.env := by rfl) (hs2 : starEach [.Tuple cs n p2] X.env = [(false, eval (.Tuple cs n p2) X.env)] := by rfl) (hpl : (backTo pos (starEach [.Tuple cs n p2] X.env)).any (·.1) = false := by rfl) :
    DE X T W .val (.Call (.Name "isinstance" p) [e, .Tuple cs n p2] [] pos) (dIsi m (k :: ks)) := by
  refine PE.imp (pe_callB (call_isN F hK (k :: ks)) hg hm boot_isi (pa_cons he (pa_cons (pe_tup hc) pa_nil (hs := hs2)) (hs := hs1)) (by decide) (by decide) hs1 hpl) fun σ H Q ⟨r, aS, S, E, p⟩ => ⟨r, aS, S, E, ?_⟩
  unfold dIsi at p
  cases q : m r S with
  | bad => rw [q] at p; exact p
  | exc c S1 => rw [q] at p; exact p
  | ok d S1 =>
    rw [q] at p
    simp only [R.bind_ok] at p
    intro x H1 x1 m1 k1
    intro vs hvs
    have hlen : vs.length ≤ 30 := by
      have : vs.length = ((k :: ks).map (kcv T)).length := by
        clear p hl
        generalize (k :: ks).map (kcv T) = us at hvs
        induction hvs with
        | nil => rfl
        | cons _ _ ih => simp [ih]
      rw [this, List.length_map]
      exact of_decide_eq_true hl
    refine ⟨by rw [sizeLine_eq]; omega, fun a ha => ?_⟩
    cases qi : isiA d (k :: ks) with
    | none => rw [qi] at p; exact p.elim
    | some b =>
      rw [qi] at p
      have k1 : Bor T aS H1 x d := k1
      exact ⟨x, a, vs, aS, d, b, rfl, upd_same, hvs, k1.ext (Ext.upd ha), isiA_lt qi, qi, p _ _ (x1.trans (Ext.upd ha)) (m1.new ha) (.b _)⟩
end
end DL

/-! DL13: raise, try. -/
namespace DL
open PySem PySem.Spec PyProof.Rows L2
/-- an object of an error takes its place among what never changes -/
theorem adopt {X : Cx} {pins : List (Addr × Obj)} {σ : L2.St} {H : Hp} {s : Shared} {a : Addr} {oe : Obj} {vs : Array Value} (I : Inv X pins σ H s) (he : s.heap.get? a = some oe) (hd : oe.data = .fields vs) (na : H a = none) (n0 : X.s_0.heap.get? a = none) (nL : a ≠ X.env.locals)
    (np : ∀ p ∈ X.pn ++ pins, p.1 ≠ a) : Inv X pins σ (upd H a (.frz oe (.own a))) s := by
  have ne : ∀ {b o}, H b = some o → b ≠ a := fun e => ne_of_none e na
  refine ⟨I.ok, I.os, I.bare, ⟨I.base.keep, I.base.slot, fun b o e n hb => ?_, I.base.there, fun b xs e => ?_, fun b o u e => ?_, fun b ps e => ?_⟩, I.loc, I.cell, ?_, fun x c e => ?_, fun p hp => ?_, fun b u e => ?_, I.len⟩
  · rw [upd_ne (by rintro rfl; rw [n0] at e; cases e)]; exact I.base.free b o e n hb
  · have q := I.base.tups b xs e; rw [upd_ne (ne q)]; exact q
  · have q := I.base.frzs b o u e; rw [upd_ne (ne q)]; exact q
  · obtain ⟨more, q⟩ := I.base.tbls b ps e
    exact ⟨more, by rw [upd_ne (ne q)]; exact q⟩
  · rw [upd_ne (Ne.symm nL)]; exact I.free
  · rw [upd_ne ?_]
    · exact I.freeC x c e
    · rintro rfl
      obtain ⟨v, z⟩ := I.cell x c e
      obtain ⟨o, e1, e2⟩ : ∃ o, s.heap.get? c = some o ∧ o.data = .cell v := by
        have z' := z
        unfold Heap.IsCell at z'
        first
          | exact ⟨_, z', rfl⟩
          | (obtain ⟨o, e1, e2⟩ := z'; exact ⟨o, e1, by first | exact e2 | exact e2.2 | exact e2.1⟩)
      rw [he] at e1; cases e1
      rw [hd] at e2; cases e2
  · obtain ⟨e, n, k⟩ := I.pin p hp
    exact ⟨e, by rw [upd_ne (np p hp)]; exact n, k⟩
  · by_cases hb : b = a
    · subst hb
      rw [upd_same] at e; cases e
      exact ⟨he, oe, he⟩
    · rw [upd_ne hb] at e
      exact (I.hok b u e).stay (fun c w _ q => q) (fun c q => by rw [upd_ne (ne q)]; exact q) fun c xs q => by rw [upd_ne (ne q)]; exact q
/-- what the clause wishes of an error: the caught one stands frozen at a -/
def wKeep (K : PySem.W.Frag) (c : Value) (i : Nat) (ts : Addr → TS) (Wout : WX) (E : Ends) : WX := fun cls d σ H =>
  ∃ b, PySem.W.exmOne K cls c = some b ∧ (b = true → ∀ a oe, H a = none → oe.cls = cls → oe.dict = d → (∃ vs, oe.data = .fields vs) →
    ts a { nx := fun σ' H' => E.nx (σ'.set i none) H', rt := E.rt, bk := fun σ' H' => E.bk (σ'.set i none) H', ct := fun σ' H' => E.ct (σ'.set i none) H' } (σ.set i (some (.ref a))) (upd H a (.frz oe (.own a)))) ∧ (b = false → Wout cls d σ H)
section
variable {X : Cx} {x n : Str} {c : Value} {i : Nat} {body suite : List Stmt} {b0 : Stmt} {np pos pos' : Pos} {tb : WX → TS} {ts : Addr → TS} {Wout : WX}
theorem ps_tryK (hs : X.stack = X.env :: X.outer) (hf : X.env.frame = some X.env.locals) (hex : X.ex = []) (hN : X.N.Nodup) (hi : X.N[i]? = some n) (hln : X.env.kindOf n = some .local) (hc : Names X x c) (tk : Takes X Wout)
    (hb : ∀ (W : WX) (pn : List (Addr × Obj)) (xe : Value → Shared → Prop), Takes (X.tr pn xe) W → PassesOwn (model X.prog X.w) X.A X.env xe → PSs (X.tr pn xe) body (tb W))
    (hsu : ∀ (a : Addr) (pn : List (Addr × Obj)), PSs (X.suite a pn) (b0 :: suite) (ts a)) :
    PS X (.Try body [.ExceptHandler (some (.Name x np)) (some n) (b0 :: suite) pos'] [] [] pos) (fun E σ H => tb (wKeep X.K c i ts Wout E) E σ H) := by
  constructor
  intro pins s σ H E I hyp
  have okX := I.ok
  have frX : X.A.frames = some (X.env :: X.outer) := by rw [okX.frames, hs]
  have locn : Loc X.env.scope n := .inl hln
  refine wpAny_Try_except (wpAny_mono ((hb (wKeep X.K c i ts Wout E) (X.pn ++ pins) (fun e s1 => wpAny (model X.prog X.w) X.A (noteFrame e X.env) (fun _ s2 => wpAny (model X.prog X.w) X.A (setFlight e none) (fun _ s3 =>
    wpAny (model X.prog X.w) X.A (handleBy e X.env [.ExceptHandler (some (.Name x np)) (some n) (b0 :: suite) pos']) (SP X pins E) X.xe s3) X.xe s2) X.xe s1) (fun u s' air => ?_) PassesOwn.looking).run [] s σ H E (I.toTry _) hyp) (fun fl s1 sp => ?_) fun _ _ z => z)
  · obtain ⟨a, B, sI, pins', σ', H', cls, d, rfl, It, inB, up0, sky0, na, sameOs, bare, b, match1, onYes, onNo⟩ := air
    have Ia : Inv X pins σ' H' sI := It.ofTry okX
    have sky1 : Sky B (X.env :: X.outer) a (Zc cls d) X.env.locals s'.heap := by rw [← hs]; exact sky0
    show wpAny (model X.prog X.w) X.A (noteFrame (.ref a) X.env) _ _ _
    refine Sky.land Zc.steady frX hf sky1 fun g3 fly3 up3 => ?_
    have Ib : Inv X pins σ' H' { s' with heap := g3 } := Ia.landed inB fly3.1 (up0.trans up3) sameOs bare
    obtain ⟨o3, v3, e3, z3, d3⟩ := fly3.there
    have offFrames : a ∉ frs (X.env :: X.outer) := fun hm => by
      obtain ⟨_, o', e', nofield⟩ := fly3.2.2.1.mem hm
      rw [e3] at e'; cases e'
      exact nofield _ d3
    have offB : B.get? a = none := fly3.2.1
    have offI : ∀ o, sI.heap.get? a ≠ some o := fun o e => by
      have := inB a o e (by rw [hs]; exact offFrames)
      rw [offB] at this; cases this
    have nL : a ≠ X.env.locals := fun z => offFrames (List.mem_filterMap.mpr ⟨X.env, List.mem_cons_self, by rw [hf, z]⟩)
    have nF : a ∉ X.fs := fun hm => by
      obtain ⟨e, he, q⟩ := List.mem_filterMap.mp hm
      exact offFrames (List.mem_filterMap.mpr ⟨e, List.mem_cons_of_mem _ he, q⟩)
    have n0 : X.s_0.heap.get? a = none := by
      cases q : X.s_0.heap.get? a with
      | none => rfl
      | some o =>
        obtain ⟨o', e'⟩ := Ia.base.there a o q (by rw [hex]; simp)
        exact absurd e' (offI o')
    have offPins : ∀ p ∈ X.pn ++ pins, p.1 ≠ a := fun p hp z => offI p.2 (by rw [← z]; exact (Ia.pin p hp).1)
    have Is := Ib.suite e3 d3 na nL nF
    refine wpAny_handleBy_cons (codeAny_handlers_test ?_) (by intro q; cases q)
    have typ : PySem.W.Looks (model X.prog X.w) g3 (typeOf (.ref a)) cls := fun A Q E s k q => wpAny_typeOf_ref (k _ _ e3) (by rw [z3.1]; exact q)
    have mtch := PySem.W.exm_one (M := model X.prog X.w) (Ib.kIn) typ match1
    have named : ∀ {Q : Value → Shared → Prop} {E : Value → Shared → Prop}, Q c { s' with heap := g3 } → wpAny (model X.prog X.w) (X.A.mark (some (.ref a))) (eval (.Name x np) X.env) Q E { s' with heap := g3 } := fun {Q E} q => by
      obtain ⟨hg, hdbg, hm | ⟨hm, hv, hnn⟩⟩ := hc
      · exact ld_glob (X := X.suite a ((a, o3) :: (X.pn ++ pins))) Is hg hm q hdbg
      · exact ld_blt (X := X.suite a ((a, o3) :: (X.pn ++ pins))) Is hg hm hv q hnn hdbg
    refine named (mtch.here ?_)
    cases b with
    | true =>
      refine codeAny_handlers_suite_as ?_
      refine HandSPX.lands_againZ fly3 fun g4 fly4 up4 => ?_
      have Ic : Inv X pins σ' H' { s' with heap := g4 } := Ia.landed inB fly4.1 ((up0.trans up3).trans up4) sameOs bare
      obtain ⟨o4, v4, e4, z4, d4⟩ := fly4.there
      have Ik := adopt Ic e4 d4 na n0 nL offPins
      have It4 : Inv (X.suite a (X.pn ++ pins)) [] σ' (upd H' a (.frz o4 (.own a))) { s' with heap := g4 } :=
        ⟨Ik.ok.suite _ _, Ik.os, Ik.bare, Ik.base, Ik.loc, Ik.cell, Ik.free, Ik.freeC, fun p hp => Ik.pin p (by rw [List.append_nil] at hp; exact hp), Ik.hok, Ik.len⟩
      refine store_ok (X := X.suite a (X.pn ++ pins)) (v := .ref a) It4 hN hi locn rfl (fun s5 I5 => ?_) (.inr hln)
      refine wpAny_mono ((hsu a (X.pn ++ pins)).run [] s5 _ _ _ I5 (onYes rfl a o4 na z4.1 z4.2 ⟨_, d4⟩)) (fun fl s6 sp => ?_) (fun _ _ z => False.elim z)
      have finish : ∀ {σ6 : L2.St} {H6 : Hp} {Q : Shared → Prop}, Inv (X.suite a (X.pn ++ pins)) [] σ6 H6 s6 → (∀ s7, Inv X pins (σ6.set i none) H6 s7 → Q s7) →
          wpAny (model X.prog X.w) X.A (do bindName X.env n .none; unbindBehindTheSuite X.env n pos') (fun _ s7 => Q s7) X.xe s6 := fun {σ6 H6 Q} I6 hq =>
        gone_ok (X := X) (pins := pins) ⟨okX, I6.os, I6.bare, I6.base, I6.loc, I6.cell, I6.free, I6.freeC, fun p hp => I6.pin p (List.mem_append_left _ hp), I6.hok, I6.len⟩ hN hi hln hq
      cases fl with
      | next => obtain ⟨σ6, H6, I6, q6⟩ := sp; exact finish I6 fun s7 I7 => ⟨_, _, I7, q6⟩
      | brk => obtain ⟨σ6, H6, I6, q6⟩ := sp; exact finish I6 fun s7 I7 => ⟨_, _, I7, q6⟩
      | cont => obtain ⟨σ6, H6, I6, q6⟩ := sp; exact finish I6 fun s7 I7 => ⟨_, _, I7, q6⟩
      | ret u => obtain ⟨v6, σ6, H6, I6, r6, q6⟩ := sp; exact finish I6 fun s7 I7 => ⟨_, _, _, I7, r6, q6⟩
    | false =>
      show wpAny _ X.A (handleBy (.ref a) X.env []) _ _ _
      refine wpAny_handleBy_nil ?_
      obtain ⟨_, _, _, o5, v5, T5, oT, ts5, e5, z5, d5, h5, _⟩ := id fly3
      unfold PySem.passOn
      refine wpAny_bind (wpAny_field e5 d5 h5 ?_)
      rw [if_neg (show ¬ ((Value.ref T5 == Value.none) = true) from by simp)]
      have goOn : wpAny (model X.prog X.w) X.A (setFlight (.ref a) X.env.frame) (fun _ s4 => wpAny (model X.prog X.w) X.A (throw (.ref a) : Sem Flow) (SP X pins E) X.xe s4) X.xe { s' with heap := g3 } := by
        rw [hf]
        refine HandSPX.setFlight_upZ fly3 fun g4 held up4 => wpAny_throw (tk _ _ ?_)
        exact ⟨a, B, sI, pins, σ', H', cls, d, rfl, Ia, inB, (up0.trans up3).trans up4, .inr (.inr (by rw [hs]; exact held)), na, sameOs, bare, onNo rfl⟩
      first
        | exact wpAny_bind (wpAny_pure (wpAny_bind goOn))
        | exact wpAny_bind goOn
  · cases fl with
    | next => obtain ⟨σ', H', It, q⟩ := sp; exact wpAny_execs_nil ⟨σ', H', It.ofTry okX, q⟩
    | brk => obtain ⟨σ', H', It, q⟩ := sp; exact ⟨σ', H', It.ofTry okX, q⟩
    | cont => obtain ⟨σ', H', It, q⟩ := sp; exact ⟨σ', H', It.ofTry okX, q⟩
    | ret u => obtain ⟨v, σ', H', It, r, q⟩ := sp; exact ⟨v, σ', H', It.ofTry okX, r, q⟩
end

section
variable {X : Cx} {T : Fx} {W : WX} {fr : Bool}
/-! ### raise -/
def sRaise (c : Nat) : MS := fun r s => .exc c r s
/-- what is known of the own error classes where they are raised and caught -/
structure ErrF (T : Fx) : Prop where
  made : ∀ c, c < 9 → PySem.W.excIn T.K (T.cl c) [.type "ValueError", .type "Exception", .type "BaseException", .type "object"] "ValueError.__new__" = true
  kept : ∀ c, c < 9 → PySem.W.keepIn T.K (.ref (T.cl c)) = true
  base : ∀ c, c < 9 → PySem.W.subIn T.K (.ref (T.cl c)) (.type "BaseException") = some true
  typ : ∀ c, c < 9 → PySem.W.typeIn T.K (.ref (T.cl c)) = some (.type "type")
  mtch : ∀ c e, c < 9 → e < 9 → PySem.W.exmOne T.K (.ref (T.cl c)) (.ref (T.cl e)) = some (c == e || e == 0)
theorem ds_raise (c : Nat) {x m : Str} {j : Nat} {p p2 pos pos' : Pos} (F : ErrF T) (tk : Takes X W) (gC : X.mg x = some (.ref (T.cl c))) (hc9 : c < 9 := by decide) (hc : X.calm = true := by rfl) (hK : X.K = T.K := by rfl) (hg : Gl X x := by rfl) (hdb : (x == ("__debug__" : Str)) = false := by decide) :
    DS X T W fr (.Raise (some (.Call (.Name x p) [.Constant (.str m) j p2] [] pos)) none pos') (sRaise c) :=
  fun N cN => PS.imp (ps_raise hc tk (pmk_own PySem.F.excBase_ValueError (by rw [hK]; exact F.made c hc9) gC (by rw [hK]; exact F.kept c hc9) (raises_own (by rw [hK]; exact F.base c hc9) (by rw [hK]; exact F.typ c hc9)) hg hdb)) fun E σ H ⟨r, aS, S, e, n, p⟩ => p σ H aS e n

/-! ### try -/
/-- the clause takes errors of class e -/
def taken (e c : Nat) : Bool := c == e || e == 0
def sTryAs (j e : Nat) (b s : MS) : MS := fun r sg => match b r sg with
  | .exc c r1 s1 => if c < 9 then (if taken e c = true then (if j < r1.length then (match s (r1.set j (some (.val (.x c)))) s1 with
      | .nx r2 s2 => .nx (r2.set j none) s2
      | .brk r2 s2 => .brk (r2.set j none) s2
      | .cont r2 s2 => .cont (r2.set j none) s2
      | .ret d s2 => .ret d s2
      | .exc _ _ _ => .bad
      | .bad => .bad) else .bad) else .exc c r1 s1) else .bad
  | o => o
def sTry (e : Nat) (b s : MS) : MS := fun r sg => match b r sg with
  | .exc c r1 s1 => if c < 9 then (if taken e c = true then (match s r1 s1 with
      | .exc _ _ _ => .bad
      | o => o) else .exc c r1 s1) else .bad
  | o => o
theorem ds_tryAs (j e : Nat) {x n : Str} {body suite : List Stmt} {b0 : Stmt} {np pos pos' : Pos} {mb ms : MS} (F : ErrF T) (tk : Takes X W) (hN : X.N.Nodup) (gC : X.mg x = some (.ref (T.cl e)))
    (hb : ∀ (W : WX) (pn : List (Addr × Obj)) (xe : Value → Shared → Prop), Takes (X.tr pn xe) W → PassesOwn (model X.prog X.w) X.A X.env xe → DSs (X.tr pn xe) T W fr body mb)
    (hsu : ∀ (a : Addr) (pn : List (Addr × Obj)), DSs (X.suite a pn) T W0 fr (b0 :: suite) ms)
    (he9 : e < 9 := by decide) (hi : X.N[j]? = some n := by rfl) (hln : X.env.kindOf n = some .local := by rfl) (hg : Gl X x := by rfl) (hdb : (x == ("__debug__" : Str)) = false := by decide)
    (hs : X.stack = X.env :: X.outer := by rfl) (hf : X.env.frame = some X.env.locals := by rfl) (hex : X.ex = [] := by rfl) (hK : X.K = T.K := by rfl) :
    DS X T W fr (.Try body [.ExceptHandler (some (.Name x np)) (some n) (b0 :: suite) pos'] [] [] pos) (sTryAs j e mb ms) := by
  intro N cN
  refine PS.imp (ps_tryK hs hf hex hN hi hln ⟨hg, hdb, .inl gC⟩ tk (fun W pn xe tk pp => hb W pn xe tk pp N cN) (fun a pn => hsu a pn N cN)) fun E σ H ⟨r, aS, S, er, nh, p⟩ => ⟨r, aS, S, er, nh, ?_⟩
  unfold sTryAs at p
  cases q : mb r S with
  | nx r2 s2 => rw [q] at p; exact p
  | ret d s2 => rw [q] at p; exact p
  | brk r2 s2 => rw [q] at p; exact p
  | cont r2 s2 => rw [q] at p; exact p
  | bad => rw [q] at p; exact p
  | exc c r1 s1 =>
    rw [q] at p
    simp only at p
    split at p
    · rename_i hc9
      intro σ' H' aS' e' n'
      refine ⟨taken e c, by rw [hK]; exact F.mtch c e hc9 he9, fun ht a oe na h1 h2 h3 => ?_, fun hf => ?_⟩
      · rw [if_pos ht] at p
        by_cases hj : j < r1.length
        · rw [if_pos hj] at p
          have x1 : Ext aS' H' (upd H' a (.frz oe (.own a))) := Ext.upd na
          have rep : Rep T (upd H' a (.frz oe (.own a))) (.ref a) (.x c) := .x ⟨oe, upd_same, h1, h2, h3⟩
          refine ⟨r1.set j (some (.val (.x c))), aS', s1, (e'.ext x1 (e'.amb.new na)).setVal rep hj, cN _ _ x1.stb n', ?_⟩
          cases q2 : ms (r1.set j (some (.val (.x c)))) s1 with
          | nx r2 s2 => rw [q2] at p; exact fun σ2 H2 aS2 e2 n2 => p _ H2 aS2 (e2.drop j none) n2
          | brk r2 s2 => rw [q2] at p; exact fun σ2 H2 aS2 e2 n2 => p _ H2 aS2 (e2.drop j none) n2
          | cont r2 s2 => rw [q2] at p; exact fun σ2 H2 aS2 e2 n2 => p _ H2 aS2 (e2.drop j none) n2
          | ret d s2 => rw [q2] at p; exact p
          | exc c2 r2 s2 => rw [q2] at p; exact p.elim
          | bad => rw [q2] at p; exact p.elim
        · rw [if_neg hj] at p; exact p.elim
      · rw [if_neg (by rw [hf]; exact Bool.false_ne_true)] at p
        exact p σ' H' aS' e' n'
    · exact p.elim
theorem ds_try (e : Nat) {x : Str} {body suite : List Stmt} {b0 : Stmt} {np pos pos' : Pos} {mb ms : MS} (F : ErrF T) (tk : Takes X W) (gC : X.mg x = some (.ref (T.cl e)))
    (hb : ∀ (W : WX) (pn : List (Addr × Obj)) (xe : Value → Shared → Prop), Takes (X.tr pn xe) W → PassesOwn (model X.prog X.w) X.A X.env xe → DSs (X.tr pn xe) T W fr body mb)
    (hsu : ∀ (a : Addr) (pn : List (Addr × Obj)), DSs (X.suite a pn) T W0 fr (b0 :: suite) ms)
    (he9 : e < 9 := by decide) (hg : Gl X x := by rfl) (hdb : (x == ("__debug__" : Str)) = false := by decide)
    (hs : X.stack = X.env :: X.outer := by rfl) (hf : X.env.frame = some X.env.locals := by rfl) (hK : X.K = T.K := by rfl) :
    DS X T W fr (.Try body [.ExceptHandler (some (.Name x np)) none (b0 :: suite) pos'] [] [] pos) (sTry e mb ms) := by
  intro N cN
  refine PS.imp (ps_try_only hs hf ⟨hg, hdb, .inl gC⟩ tk (fun W pn xe tk pp => hb W pn xe tk pp N cN) (fun a oe cls d pn _ _ => hsu a ((a, oe) :: pn) N cN)) fun E σ H ⟨r, aS, S, er, nh, p⟩ => ⟨r, aS, S, er, nh, ?_⟩
  unfold sTry at p
  cases q : mb r S with
  | nx r2 s2 => rw [q] at p; exact p
  | ret d s2 => rw [q] at p; exact p
  | brk r2 s2 => rw [q] at p; exact p
  | cont r2 s2 => rw [q] at p; exact p
  | bad => rw [q] at p; exact p
  | exc c r1 s1 =>
    rw [q] at p
    simp only at p
    split at p
    · rename_i hc9
      intro σ' H' aS' e' n'
      refine ⟨taken e c, by rw [hK]; exact F.mtch c e hc9 he9, fun ht a na => ?_, fun hf => ?_⟩
      · rw [if_pos ht] at p
        refine ⟨r1, aS', s1, e', n', ?_⟩
        cases q2 : ms r1 s1 with
        | exc c2 r2 s2 => rw [q2] at p; exact p.elim
        | nx r2 s2 => rw [q2] at p; exact p
        | brk r2 s2 => rw [q2] at p; exact p
        | cont r2 s2 => rw [q2] at p; exact p
        | ret d s2 => rw [q2] at p; exact p
        | bad => rw [q2] at p; exact p.elim
      · rw [if_neg (by rw [hf]; exact Bool.false_ne_true)] at p
        exact p σ' H' aS' e' n'
    · exact p.elim
end
end DL

/-! DL14: enumerate. -/
namespace DL
open PySem PySem.Spec PyProof.Rows L2
theorem enum_new1 {v : Value} {o : Obj} {P : Heap → Prop} (B : Begins v o P) :
    Meets (Builtin.«enumerate.__new__» ⟨[.type "enumerate", v], []⟩) (fun _ Z s => P s.heap ∧
      Z (.ok (.ret (.ref (s.heap.push o).objs.size))) { s with heap := (s.heap.push o).push { cls := .type "enumerate", data := .fields #[.none, .bool false, .ref s.heap.objs.size, rawInt 0, .none, .none] } }) :=
  .of_wp fun prog w A Z s h => by
    obtain ⟨hp, g, d, tk, os⟩ := s
    obtain ⟨h1, h⟩ := h
    have hsub := sub_enumerate
    have q1 : ∀ {A' : Around} {E : Value → Shared → Prop} {Q : Value → Shared → Prop}, Q (.ref hp.objs.size) ⟨hp.push o, g, d, tk, os⟩ → wpAny (model prog w) A' (pyIter v) Q E ⟨hp, g, d, tk, os⟩ := fun q => B.iter prog w _ _ ⟨hp, g, d, tk, os⟩ _ h1 q
    wp_walk using q1
    refine wpAny_stack_any fun st => wpAny_pure ?_
    split
    · rename_i c _ _ _ _ _
      cases (c == Value.type "enumerate")
      · wp_walk using q1; exact ⟨_, rfl, h⟩
      · wp_walk using q1; exact ⟨_, rfl, h⟩
    · wp_walk using q1; exact ⟨_, rfl, h⟩
theorem enum_call {prog : Program} {w : World} {A : Around} {E : Value → Shared → Prop} {s : Shared} {v : Value} {o : Obj} {P : Heap → Prop} {Q : Value → Shared → Prop} (B : Begins v o P) (h1 : P s.heap)
    (h : ∀ h', IsEnum h' (s.heap.objs.size + 1) s.heap.objs.size 0 .none → h'.get? s.heap.objs.size = some o → (∀ b o, s.heap.get? b = some o → h'.get? b = some o) → Q (.ref (s.heap.objs.size + 1)) { s with heap := h' }) :
    wpAny (model prog w) A (call (.type "enumerate") [v]) Q E s := by
  refine callType_new F.called_enumerate (by decide) (F.typeCall_enumerate_1 _) (F.newCall_enumerate_1 _) (fun obj => F.args_object_init_2 obj _) F.entry_enumerate_new (enum_new1 B) ⟨h1, ?_⟩
  have hz : (s.heap.push o).objs.size = s.heap.objs.size + 1 := Heap.size_push ..
  show _ ∧ _
  rw [hz]
  have he : IsEnum ((s.heap.push o).push { cls := .type "enumerate", data := .fields #[.none, .bool false, .ref s.heap.objs.size, rawInt 0, .none, .none] }) (s.heap.objs.size + 1) s.heap.objs.size 0 .none := by
    have q := Heap.get?_push_size (s.heap.push o) (o := { cls := .type "enumerate", data := .fields #[.none, .bool false, .ref s.heap.objs.size, rawInt 0, .none, .none] }) rfl
    rw [hz] at q; exact q
  exact ⟨⟨_, he, rfl⟩, h _ he (Heap.get?_push_of_some _ (Heap.get?_push_size _ B.free)) fun b o x => Heap.get?_push_of_some _ (Heap.get?_push_of_some _ x)⟩

/-- the tuple at a, each item in a new pair -/
def IteT (K : PySem.W.Frag) (a : Addr) : It :=
  ⟨fun i H => ∃ (xs : List V) (x : V), SqT K H a xs ∧ xs[i]? = some x, fun i H v H' => ∃ t x, v = .ref t ∧ H t = none ∧ H' = upd H t (.tup [.int (i : Nat), x]) ∧ ∀ xs, SqT K H a xs → xs[i]? = some x, fun i H => ∃ xs : List V, SqT K H a xs ∧ xs.length = i⟩
theorem turn_enumT {P : Program} {w : World} {K : PySem.W.Frag} {elts : List Expr} {kk : Nat} {tpos : Pos} (a e it : Addr) :
    Turn P w K (.Tuple elts kk tpos) (IteT K a) [e, it] e (fun i h => (∃ old, IsEnum h e it ((i : Nat) : Int) old) ∧ h.IsTupleIter it a i ∧ e ≠ it) where
  mem := by simp
  obj := fun i h st b hb => by
    obtain ⟨⟨old, he⟩, ⟨o, ho, hc, hd⟩, _⟩ := st
    have e' : b = e ∨ b = it := by simpa using hb
    rcases e' with rfl | rfl
    · exact ⟨_, he, fun v q => nomatch q⟩
    · exact ⟨o, ho, fun v q => by rw [hd] at q; cases q⟩
  keep := fun i h h' st k => by
    obtain ⟨⟨old, he⟩, ⟨o, ho, hc, hd⟩, hne⟩ := st
    exact ⟨⟨old, k e (by simp) _ he⟩, ⟨o, k it (by simp) _ ho, hc, hd⟩, hne⟩
  item := by
    intro X hP hw hK hc i pins s σ H E I hf st hg
    subst hP hw hK
    obtain ⟨⟨old, he⟩, hit, hne⟩ := st
    obtain ⟨xs, x, hq, hx⟩ := hg
    obtain ⟨its, rv, p, hz⟩ := I.tuple hq
    obtain ⟨u, hu, ru⟩ := rv.get hx
    have hel : e < s.heap.objs.size := Heap.lt_size he
    have hil : it < s.heap.objs.size := by obtain ⟨_, q, _⟩ := hit; exact Heap.lt_size q
    have nai : a ≠ it := by
      rintro rfl
      obtain ⟨o1, e1, c1, _⟩ := p
      obtain ⟨o2, e2, c2, _⟩ := hit
      rw [e1] at e2; cases e2
      rw [c1] at c2; exact absurd c2 (by decide)
    have nae : e ≠ a := by
      rintro rfl
      obtain ⟨o1, e1, c1, _⟩ := p
      rw [he] at e1; cases e1
      exact absurd (show Value.type "enumerate" = Value.type "tuple" from c1) (by decide)
    have hi : i < its.toArray.size := by
      have := (List.getElem?_eq_some_iff.mp hu).1
      simpa using this
    refine wpAny_pyNext_enum_itemC (Draws.tuple (A := X.A.in1) (show X.A.in1.handled = none from I.ok.hd hc) it a nai its.toArray) he ⟨hit, p⟩ hi hne (by simp [hne, nae]) fun x' h' tk hP ho hst hT hsz hk => ?_
    have ex : x' = u := by
      have : some x' = some u := by rw [← hu, ← hP]; simp
      exact Option.some.inj this
    subst ex
    refine ⟨_, rfl, wpAny_letOwnedTupleGo_enum (s := { s with heap := h', toks := tk + 1 }) ho fun h2 he2 sb => ?_⟩
    have hT2 : h2.get? s.heap.objs.size = some { cls := .type "tuple", data := .seq #[.int i tk, x'] } := (sb.2 _ (Nat.ne_of_gt hel)).trans hT
    have new : ObjOk X.prog X.w (upd H s.heap.objs.size (.tup [.int (i : Nat), x])) h2 s.heap.objs.size (.tup [.int (i : Nat), x]) :=
      ⟨by show 2 ≤ sizeLine; decide, [.int i tk, x'], .cons ⟨_, rfl⟩ (.cons ru .nil), ⟨_, hT2, rfl, _, rfl⟩⟩
    have I1 : Inv X pins σ (upd H s.heap.objs.size (.tup [.int (i : Nat), x])) { s with heap := h2, toks := tk + 1 } :=
      I.turnedNew (ch := [e, it]) (fun b ob hb q => (sb.2 b (fun z => hb (by simp [z]))).trans (hk b ob (fun z => hb (by simp [z])) (fun z => hb (by simp [z])) q)) hf (Nat.le_refl _) new
    refine ⟨.ref s.heap.objs.size, _, I1, rfl, ⟨_, x, rfl, I.hok.fresh (Nat.le_refl _), rfl, fun ys hy => by rw [I.tuple_inj hy hq]; exact hx⟩, ⟨⟨x', ?_⟩, ?_, hne⟩, fun b hb => ?_⟩
    · have e1 : ((i + 1 : Nat) : Int) = (i : Int) + 1 := by omega
      rw [e1]; exact he2
    · obtain ⟨⟨o, e1, c1, d1⟩, _⟩ := hst
      exact ⟨o, (sb.2 it (Ne.symm hne)).trans e1, c1, d1⟩
    · have hb' : b < s.heap.objs.size := by
        have e' : b = e ∨ b = it := by simpa using hb
        rcases e' with rfl | rfl
        · exact hel
        · exact hil
      rw [upd_ne (Nat.ne_of_lt hb')]
      exact (hf b hb).1
  done := by
    intro X hP hw hK hc i pins s σ H E I hf st hg
    subst hP hw hK
    obtain ⟨⟨old, he⟩, hit, hne⟩ := st
    obtain ⟨xs, hq, hx⟩ := hg
    obtain ⟨its, rv, p, hz⟩ := I.tuple hq
    obtain ⟨f0, f1, f2, f3, f4, f5⟩ := hf it (by simp)
    have hl := rv.length
    have nai : a ≠ it := by
      rintro rfl
      obtain ⟨o1, e1, c1, _⟩ := p
      obtain ⟨o2, e2, c2, _⟩ := hit
      rw [e1] at e2; cases e2
      rw [c1] at c2; exact absurd c2 (by decide)
    have hn : its.toArray.size = i := by rw [List.size_toArray]; omega
    refine wpAny_pyNext_enum_endD (Draws.tuple (A := X.A.in1) (show X.A.in1.handled = none from I.ok.hd hc) it a nai its.toArray) he ⟨by rw [hn]; exact hit, p⟩ fun h' eb => ⟨rfl, I.turned (t' := s.toks) (fun b o hb q => eb b o hb q) f0 f1 f3 f4 f5⟩
  self := fun A i s Q E st h => let ⟨⟨_, he⟩, _⟩ := st; wpAny_pyIter_enum he h
section
variable {X : Cx} {T : Fx} {W : WX}
def iEnumAny (K : PySem.W.Frag) (ta : TE) : TI := fun σ H Z => ta σ H fun v H1 => (∃ a xs, v = .ref a ∧ SqL K H1 a xs ∧ Z (Ite K a) H1) ∨ ∃ a xs, v = .ref a ∧ SqT K H1 a xs ∧ Z (IteT K a) H1
theorem pi_enumAny {e : Expr} {ta : TE} {p pos tpos : Pos} {elts : List Expr} {kk : Nat} (hg : Gl X "enumerate") (hm : X.mg "enumerate" = none) (ha : PE X e ta) (hs : starEach [e] X.env = [(false, eval e X.env)]) :
    PI X (.Tuple elts kk tpos) (.Call (.Name "enumerate" p) [e] [] pos) (iEnumAny X.K ta) := by
  refine ⟨fun pins s σ H Z I h => ?_⟩
  refine Call_ (ld_blt I hg hm boot_enumerate (PyProof.Rows.callWith_type1 (thn ((pa_cons ha pa_nil (hs := hs)).run pos pins s σ H (fun vs H1 => match vs with | [v] => (∃ a xs, v = .ref a ∧ SqL X.K H1 a xs ∧ Z (Ite X.K a) H1) ∨ (∃ a xs, v = .ref a ∧ SqT X.K H1 a xs ∧ Z (IteT X.K a) H1) | _ => False) I h) fun us s1 ⟨vs, H1, I1, r1, q1⟩ => ?_) hs rfl))
  · obtain ⟨v, rfl⟩ : ∃ v, vs = [v] := by
      rcases vs with _ | ⟨v, _ | ⟨_, _⟩⟩
      · exact q1.elim
      · exact ⟨v, rfl⟩
      · exact q1.elim
    obtain ⟨u, rfl, ru⟩ := Vals.one r1
    have fps : ∀ {h' : Heap}, (∀ b o, s1.heap.get? b = some o → h'.get? b = some o) → Inv X pins σ H1 { s1 with heap := h' } := fun hk => I1.kept (t' := s1.toks) hk
    have fpo : ∀ b ∈ [s1.heap.objs.size + 1, s1.heap.objs.size], FpOk X pins H1 b := fun b hb => by
      have hle : s1.heap.objs.size ≤ b := by
        rcases (by simpa using hb : b = s1.heap.objs.size + 1 ∨ b = s1.heap.objs.size) with z | z <;> omega
      exact I1.fpOk hle (I1.hok.fresh hle)
    rcases q1 with ⟨a, xs, rfl, hq, q⟩ | ⟨a, xs, rfl, hq, q⟩
    · cases ru
      obtain ⟨its, rv, p', hz⟩ := I1.list hq
      refine enum_call (begins_list a its.toArray) p'.isList fun h' he hit hk => wpAny_pyIter_enum he ?_
      exact ⟨s1.heap.objs.size + 1, [s1.heap.objs.size + 1, s1.heap.objs.size], _, _, H1, rfl, fps hk, turn_enum a (s1.heap.objs.size + 1) s1.heap.objs.size, ⟨⟨.none, he⟩, ⟨_, hit, rfl, rfl⟩, Nat.succ_ne_self _⟩, fpo, q⟩
    · cases ru
      obtain ⟨its, rv, p', hz⟩ := I1.tuple hq
      refine enum_call (begins_tuple a its.toArray) p' fun h' he hit hk => wpAny_pyIter_enum he ?_
      exact ⟨s1.heap.objs.size + 1, [s1.heap.objs.size + 1, s1.heap.objs.size], _, _, H1, rfl, fps hk, turn_enumT a (s1.heap.objs.size + 1) s1.heap.objs.size, ⟨⟨.none, he⟩, ⟨_, hit, rfl, rfl⟩, Nat.succ_ne_self _⟩, fpo, q⟩
def enumD : Nat → List D → List D
  | _, [] => []
  | k, d :: ds => .t [.i k, d] :: enumD (k + 1) ds
theorem enumD_get : ∀ (ds : List D) (k i : Nat) (d : D), (enumD k ds)[i]? = some d → ∃ e, ds[i]? = some e ∧ d = .t [.i ((k + i : Nat) : Int), e]
  | [], k, i, d, h => by simp [enumD] at h
  | e :: ds, k, 0, d, h => by simp [enumD] at h; exact ⟨e, rfl, by rw [← h]; rfl⟩
  | e :: ds, k, i + 1, d, h => by
    obtain ⟨e', h1, h2⟩ := enumD_get ds (k + 1) i d (by simpa [enumD] using h)
    exact ⟨e', by simpa using h1, by rw [h2]; congr 4; omega⟩
theorem enumD_len : ∀ (ds : List D) (k : Nat), (enumD k ds).length = ds.length
  | [], _ => rfl
  | _ :: ds, k => congrArg (· + 1) (enumD_len ds (k + 1))
def iEn (m : M) : Ml := fun r s => (m r s).bind fun d s1 => match d with
  | .t ds => .ok (enumD 0 ds) s1
  | .l ds => .ok (enumD 0 ds) s1
  | _ => .bad
theorem one_enT {aS : Option Addr} {H' H1 : Hp} {a : Addr} {vs : List V} {ds : List D} (h : SqT T.K H' a vs) (r : Reps T H' vs ds) (x : Stb H' H1) : One T (IteT T.K a) (enumD 0 ds) H1 := by
  have h1 := sqT_stb x h
  have r1 := Reps.stb x r
  refine ⟨fun i d e => ?_, ⟨vs, h1, by rw [r1.length, enumD_len]⟩⟩
  obtain ⟨e', e1, rfl⟩ := enumD_get ds 0 i d e
  obtain ⟨v, e2, r2⟩ := r1.get e1
  refine ⟨⟨vs, v, h1, e2⟩, fun y H2 q => ?_⟩
  obtain ⟨t, x, rfl, hn, rfl, q⟩ := q
  have := q vs h1
  rw [e2] at this; cases this
  refine ⟨.inr ⟨t, _, hn, rfl⟩, ?_⟩
  rw [Nat.zero_add]
  exact tup_new (aS := none) hn (.cons (.i _) (.cons r2 .nil))
theorem one_enL {H1 : Hp} {a : Addr} {vs : List V} {ds : List D} (h1 : SqL T.K H1 a vs) (r1 : Reps T H1 vs ds) : One T (Ite T.K a) (enumD 0 ds) H1 := by
  refine ⟨fun i d e => ?_, ⟨vs, h1, by rw [r1.length, enumD_len]; exact Nat.le_refl _⟩⟩
  obtain ⟨e', e1, rfl⟩ := enumD_get ds 0 i d e
  obtain ⟨v, e2, r2⟩ := r1.get e1
  refine ⟨⟨vs, v, h1, e2⟩, fun y H2 q => ?_⟩
  obtain ⟨t, x, rfl, hn, rfl, q⟩ := q
  have := q vs h1
  rw [e2] at this; cases this
  refine ⟨.inr ⟨t, _, hn, rfl⟩, ?_⟩
  rw [Nat.zero_add]
  exact tup_new (aS := none) hn (.cons (.i _) (.cons r2 .nil))
theorem di_enum {e : Expr} {m : M} {p pos tpos : Pos} {elts : List Expr} {kk : Nat} (h : DE X T W .val e m) (hm : X.mg "enumerate" = none) (hg : Gl X "enumerate" := by rfl) (hK : X.K = T.K := by rfl) (hs : starEach [e] X.env = [(false, eval e X.env)] := by rfl) :
    DI X T W true (.Tuple elts kk tpos) (.Call (.Name "enumerate" p) [e] [] pos) (iEn m) := by
  refine PI.imp (pi_enumAny hg hm h hs) fun σ H Z ⟨r, aS, S, E, p⟩ => ⟨r, aS, S, E, ?_⟩
  unfold iEn at p
  cases q : m r S with
  | bad => rw [q] at p; exact p
  | exc c S1 => rw [q] at p; exact p
  | ok d S1 =>
    rw [q] at p
    simp only [R.bind_ok] at p
    intro v H1 x1 m1 k1
    rw [hK]
    have k1 : Rep T H1 v d := k1
    cases k1 with
    | t h rr => exact .inr ⟨_, _, rfl, h, p _ H1 x1 m1 fun H2 l => one_enT (aS := aS) h rr (lat_stb l)⟩
    | l h rr =>
      refine .inl ⟨_, _, rfl, SqLof (fzL_bo m1 h).1, p _ H1 x1 m1 fun H2 l => ?_⟩
      exact one_enL (.inl (.inr (fzL_stb (lat_stb l) h))) (Reps.stb (lat_stb l) rr)
    | _ => exact p.elim
end
end DL

/-! DL15: views of dicts; in the values; sorted; any, all. -/
namespace DL
open PySem PySem.Spec PyProof.Rows L2
theorem entry_ci : entryFor table "proto.contains_iter" = some Builtin.«proto.contains_iter» := entryFor_of_fast (by kernel_rfl)
theorem plain_ci : plainId "proto.contains_iter" = true := by decide +kernel
theorem values_noIn : typeLookup (.type "dict_values") "__contains__" = pure none := by rw [typeLookup_type, builtinLookup_eq_fast]; kernel_rfl
section
variable {prog : Program} {w : World} {A : Around} {E : Value → Shared → Prop}
/-- the walk through the values, looking for x -/
theorem ci_loop {it d : Addr} {es : Array DictEntry} {ep : Nat} {x : Value} {dx : PyData} {bs : List Addr} {g0 : Heap} (hh : A.handled = none) (hid : d ≠ it) (rx : Reads g0 x dx bs) (px : dx.plain = true) (ds : List PyData)
    (hds : ds.length = es.size) (rds : ∀ j (hj : j < es.size) z, ds[j]? = some z → z.plain = true ∧ (∃ as, Reads g0 es[j].val z as) ∧ z.depth ≤ 100) (hu : A.units + 110 < cLine) : ∀ (k i : Nat) (s : Shared) (Rr : Result → Shared → Prop), es.size - i = k → i ≤ es.size →
    (∀ b o, g0.get? b = some o → b ≠ it → s.heap.get? b = some o) → g0.get? it = none → s.heap.IsValIter it d i es.size ep → s.heap.DictRaw d es ep →
    (∀ h' tk, (∀ b o, g0.get? b = some o → h'.get? b = some o) → Rr (.ok (.ret (.bool ((ds.drop i).any fun z => PyData.eqv z dx)))) { s with heap := h', toks := tk }) →
    codeAny (model prog w) A (.builtin "proto.contains_iter" ⟨[.ref it, x], []⟩) Rr s := by
  intro k
  induction k with
  | zero =>
    intro i s Rr hk hi hg hn hit hd h
    refine codeAny_builtin entry_ci ?_
    rw [Around.under_plainId plain_ci _]
    show wpAny _ A.in1 (pyNext (.ref it) >>= _) _ _ s
    have hi2 : i = es.size := by omega
    subst hi2
    refine wpAny_bind (wpAny_pyNext_values_end_raw (A := A.in1) hh hit hd (Nat.le_refl _) fun h' eb => ?_)
    refine wpAny_bind (wpAny_rule (wpAny_pure ?_))
    have := h h' s.toks fun b o e => eb b o (by rintro rfl; rw [hn] at e; cases e) (hg b o e (by rintro rfl; rw [hn] at e; cases e))
    rw [← hds, List.drop_length] at this
    exact this
  | succ k ih =>
    intro i s Rr hk hi hg hn hit hd h
    refine codeAny_builtin entry_ci ?_
    rw [Around.under_plainId plain_ci _]
    show wpAny _ A.in1 (pyNext (.ref it) >>= _) _ _ s
    have hlt : i < es.size := by omega
    refine wpAny_bind (wpAny_pyNext_values_item_raw hit hd hlt fun h' hit' sb => ?_)
    have hlt2 : i < ds.length := by omega
    obtain ⟨p1, ⟨as, r1⟩, hdep⟩ := rds i hlt ds[i] (List.getElem?_eq_getElem hlt2)
    have keep : ∀ b o, g0.get? b = some o → h'.get? b = some o := fun b o e => by
      have hb : b ≠ it := by rintro rfl; rw [hn] at e; cases e
      exact (sb.2 b hb).trans (hg b o e hb)
    have eqb := SeqAt.eqAt_plain ds[i] dx A.in1 { s with heap := h' } _ _ as bs (Reads.keeps keep r1) (Reads.keeps keep rx) p1 px (by
      have : min (ds[i]).depth dx.depth ≤ (ds[i]).depth := Nat.min_le_left _ _
      show A.units + 1 + min (ds[i]).depth dx.depth < cLine
      omega)
    refine wpAny_bind (eqb prog w _ _ ?_)
    have hdr : ds.drop i = ds[i] :: ds.drop (i + 1) := List.drop_eq_getElem_cons hlt2
    rw [hdr, List.any_cons] at h
    cases q : PyData.eqv ds[i] dx with
    | true =>
      rw [q] at h
      exact wpAny_bind (wpAny_rule (wpAny_pure (h h' s.toks keep)))
    | false =>
      rw [q] at h
      refine wpAny_pure ⟨plainId_quiet plain_ci _, ih (i + 1) { s with heap := h' } Rr (by omega) hlt (fun b o e hb => (sb.2 b hb).trans (hg b o e hb)) hn hit' (hd.at fun o e => (sb.2 d hid).trans e) fun h'' tk kk => ?_⟩
      simpa using h h'' tk kk
end
section
variable {X : Cx} {T : Fx} {W : WX}
/-- a view of the dict at d -/
def viewO (v d : Addr) (t : String) : HO := .ext fun h => h.get? v = some { cls := .type t, data := .fields #[.ref d] }
theorem viewO_ok {P : Program} {w : World} {H : Hp} {h : Heap} {v d : Addr} {t : String} (e : h.get? v = some { cls := .type t, data := .fields #[.ref d] }) : ObjOk P w H h v (viewO v d t) := ⟨e, ⟨_, e⟩, fun _ _ p k => k _ p⟩
/-- the dict's object as it stands -/
theorem boD_raw {pins : List (Addr × Obj)} {σ : L2.St} {H : Hp} {s : Shared} {a : Addr} {ks vs : List V} {dk : List D} (I : Inv X pins σ H s) (h : BoD T H a ks vs dk) :
    (a == sysModules) = false ∧ ∃ o es ep, s.heap.get? a = some o ∧ o.ExactDict ∧ o.data = .dict es ep ∧ ks.length = vs.length ∧ vs.length ≤ sizeLine ∧ Vals ks (es.toList.map (·.key)) ∧ Vals vs (es.toList.map (·.val)) := by
  rcases h with ⟨n, o, h, ex, l, z, _, es, ep, hd, k1, k2, _⟩ | ⟨n, o, h, ex, l, z, _, es, ep, hd, k1, k2, _⟩
  · obtain ⟨e1, _, _⟩ := I.hok _ _ h
    exact ⟨n, o, es, ep, e1, ex, hd, l, z, k1, k2⟩
  · obtain ⟨e1, _, _⟩ := I.hok _ _ h
    exact ⟨n, o, es, ep, e1, ex, hd, l, z, k1, k2⟩
def tView (T : Fx) (t : String) (te : TE) : TE := fun σ H Q => te σ H fun x H1 => ∃ d ks vs dk, x = .ref d ∧ BoD T H1 d ks vs dk ∧ ∀ v, H1 v = none → Q (.ref v) (upd H1 v (viewO v d t))
theorem pe_view {o : Expr} {name : Str} {apos cpos : Pos} {t id : String} {B : Builtin} {to : TE} (slot : Slot "dict" name id) (hty : typeOf (.builtin id) = pure (.type "method_descriptor")) (entry : entryFor table id = some B) (args : ∀ a, argsOk id ⟨[a], []⟩)
    (hm : ∀ (prog : Program) (w : World) (d : Addr), (d == sysModules) = false → MeetsIn prog w (B ⟨[.ref d], []⟩) (fun _ Z s => (∃ es ep, s.heap.DictRaw d es ep) ∧ Z (.ok (.ret (.ref s.heap.objs.size))) { s with heap := s.heap.push { cls := .type t, data := .fields #[.ref d] } }))
    (ho : PE X o to) (hbase : attributeBase o name X.env (eval o X.env) = eval o X.env) (hline : (apos.endLine == cpos.line) = true) :
    PE X (.Call (.Attribute o name apos) [] [] cpos) (tView T t to) := by
  refine ⟨fun pins s σ H Q I h => ?_⟩
  refine wpAny_Call_method0_late hbase hline (thn (ho.run pins s σ H _ I h) fun v s1 ⟨x, H1, I1, r1, d, ks, vs, dk, ex, bd, q1⟩ => ?_)
  subst ex
  cases r1
  obtain ⟨nd, o, es, ep, e1, ex, hd, _⟩ := boD_raw I1 bd
  refine ⟨"dict", id, PySem.F.plainAttrs_dict, slot, hty, ⟨o, e1, ex.1⟩, fun a q => by cases q; exact ⟨o, e1, ex.2.1⟩, Calls.callWith_builtin rfl (PySem.evalArgs_none ?_)⟩
  refine call_meetsIn slot ⟨o, e1, ex.1⟩ entry (args _) (hm _ _ d nd) ⟨⟨es, ep, o, e1, ex, hd⟩, ?_⟩
  exact ⟨.ref s1.heap.objs.size, _, I1.laid (t' := s1.toks) (o := viewO s1.heap.objs.size d t) (fun b ob q => Heap.get?_push_of_some _ q) (Nat.le_refl _) (viewO_ok (Heap.get?_push_size _ rfl)), rfl, q1 _ (I1.hok.fresh (Nat.le_refl _))⟩
theorem pe_values {o : Expr} {apos cpos : Pos} {to : TE} (ho : PE X o to) (hbase : attributeBase o "values" X.env (eval o X.env) = eval o X.env) (hline : (apos.endLine == cpos.line) = true) : PE X (.Call (.Attribute o "values" apos) [] [] cpos) (tView T "dict_values" to) :=
  pe_view PySem.F.slot_dict_values PySem.F.type_dict_values PySem.F.entry_dict_values PySem.F.args_dict_values_1 (fun prog w d nd => meets_dict_values_raw d nd) ho hbase hline
theorem pe_items {o : Expr} {apos cpos : Pos} {to : TE} (ho : PE X o to) (hbase : attributeBase o "items" X.env (eval o X.env) = eval o X.env) (hline : (apos.endLine == cpos.line) = true) : PE X (.Call (.Attribute o "items" apos) [] [] cpos) (tView T "dict_items" to) :=
  pe_view PySem.F.slot_dict_items PySem.F.type_dict_items PySem.F.entry_dict_items PySem.F.args_dict_items_1 (fun prog w d nd => meets_dict_items_raw d nd) ho hbase hline
/-- x in d.values() -/
theorem contains_values {A : Around} {prog : Program} {w : World} {E : Value → Shared → Prop} {s : Shared} {v d : Addr} {es : Array DictEntry} {ep : Nat} {x : Value} {dx : PyData} {bs : List Addr} {ds : List PyData} {Q : Bool → Shared → Prop} (hh : A.handled = none) (hv : s.heap.get? v = some { cls := .type "dict_values", data := .fields #[.ref d] }) (hm : s.heap.DictRaw d es ep)
    (rx : Reads s.heap x dx bs) (px : dx.plain = true) (hds : ds.length = es.size) (rds : ∀ j (hj : j < es.size) z, ds[j]? = some z → z.plain = true ∧ (∃ as, Reads s.heap es[j].val z as) ∧ z.depth ≤ 100) (hu : A.units + 110 < cLine)
    (h : ∀ h' tk, (∀ b o, s.heap.get? b = some o → h'.get? b = some o) → Q (ds.any fun z => PyData.eqv z dx) { s with heap := h', toks := tk }) : wpAny (model prog w) A (contains (.ref v) x) Q E s := by
  have hT : s.TypeIs (.ref v) "dict_values" := ⟨_, hv, rfl⟩
  unfold contains
  refine wpAny_holding ?_
  rw [stdlibNamesSay?_of_typeIs hT]
  refine wpAny_bind (wpAny_specialOf hT values_noIn ?_)
  rw [if_neg (by simp)]
  refine wpAny_bind ?_
  unfold callSpecialUnlessNone?
  refine wpAny_bind (wpAny_specialOf hT values_noIn (wpAny_pure ?_))
  refine wpAny_bind (wpAny_rule ?_)
  refine wpAny_bind (wpAny_tryCatch (wpAny_pyIter_values_raw ⟨_, hv, rfl, rfl⟩ hm ?_))
  have hds2 : d < s.heap.objs.size := by obtain ⟨o, e, _⟩ := hm; exact Heap.lt_size e
  refine wpAny_bind (wpAny_runValue (ci_loop (g0 := s.heap) hh (Nat.ne_of_lt hds2) rx px ds hds rds hu es.size 0 _ _ (by omega) (Nat.zero_le _) (fun b o e _ => Heap.get?_push_of_some _ e) ?_ ⟨_, Heap.get?_push_size _ rfl, rfl, rfl⟩ (hm.at fun o e => Heap.get?_push_of_some _ e) fun h' tk kk => ?_))
  · cases q : s.heap.get? s.heap.objs.size with
    | none => rfl
    | some o => exact absurd (Heap.lt_size q) (Nat.lt_irrefl _)
  · exact wpAny_pure (h h' tk kk)
/-- a in e.values(), a not in e.values() -/
def fInV (a d : D) : Option Bool := match d with
  | .m _ vs => if (ok a && vs.all ok) = true then some (vs.any fun z => eqv z a) else none
  | _ => none
def dInVals (neg : Bool) (ma me : M) : M := fun r s => (ma r s).bind fun a s1 => (me r s1).bind fun d s2 => match fInV a d with
  | some b => .ok (.b (if neg = true then !b else b)) s2
  | none => .bad
theorem ok_all {ds : List D} (h : ds.all ok = true) {j : Nat} {d : D} (e : ds[j]? = some d) : (toPy d).plain = true ∧ (toPy d).depth ≤ 100 := by
  have h := List.all_eq_true.mp h d (List.mem_of_getElem? e)
  unfold ok at h
  rw [Bool.and_eq_true, decide_eq_true_eq] at h
  exact h
def rInV (X : Cx) (T : Fx) (neg : Bool) : R2 := fun x y H Q => ∃ aS v d ks vs dk dv a b, Bor T aS H x a ∧ y = .ref v ∧ H v = some (viewO v d "dict_values") ∧ BoD T H d ks vs dk ∧ Bors T aS H vs dv ∧ fInV a (.m dk dv) = some b ∧ Q (.bl (if neg = true then !b else b)) H
theorem inV_core {k : Nat} (hr : Room k X.A) (hK : X.K = T.K) (hc : X.calm = true) {pins : List (Addr × Obj)} {s : Shared} {σ : L2.St} {H : Hp} {x y : V} {vv u : Value} {neg : Bool} {Q : VK} (I : Inv X pins σ H s) (rx : RelV x vv) (ry : RelV y u) (h : rInV X T neg x y H Q) :
    wpAny (model X.prog X.w) X.A (contains u vv) (fun b s' => EP X pins σ Q (.bool (if neg = true then !b else b)) s') X.xe s := by
  obtain ⟨aS, v, d, ks, vs, dk, dv, a, b, h1, rfl, hv, hd, hvs, e, q⟩ := h
  cases ry
  have e : (if (ok a && dv.all ok) = true then some (dv.any fun z => eqv z a) else none) = some b := e
  split at e
  · rename_i hok
    cases e
    rw [Bool.and_eq_true] at hok
    unfold ok at hok
    rw [Bool.and_eq_true, decide_eq_true_eq] at hok
    obtain ⟨as, r1⟩ := reads_of I hK a x vv h1 hok.1.1 rx
    obtain ⟨nd, o, es, ep, e1, ex, hdat, l1, l2, k1, k2⟩ := boD_raw I hd
    have hview : s.heap.get? v = some { cls := .type "dict_values", data := .fields #[.ref d] } := (I.hok v _ hv).1
    have l3 := hvs.length
    have l4 := k2.length
    simp only [List.length_map, Array.length_toList] at l4
    have l5 : dv.length = es.size := by omega
    have hu := hr.un
    refine contains_values (ds := dv.map toPy) (I.ok.hd hc) hview ⟨o, e1, ex, hdat⟩ r1 hok.1.1 (by rw [List.length_map]; exact l5) (fun j hj z hz => ?_) (by omega) fun h' tk kk => ?_
    · rw [List.getElem?_map] at hz
      cases e2 : dv[j]? with
      | none => rw [e2] at hz; cases hz
      | some dz =>
        rw [e2] at hz; cases hz
        obtain ⟨p1, p2⟩ := ok_all hok.2 e2
        obtain ⟨w', e3, k3⟩ := hvs.get e2
        obtain ⟨u', e4, k4⟩ := k2.get e3
        have e5 : u' = es[j].val := by
          rw [List.getElem?_map, Array.getElem?_toList, Array.getElem?_eq_getElem hj] at e4
          exact (Option.some.inj e4).symm
        subst e5
        exact ⟨p1, reads_of I hK dz w' _ k3 p1 k4, p2⟩
    · have : ((dv.map toPy).any fun z => PyData.eqv z (toPy a)) = dv.any fun z => eqv z a := by
        rw [List.any_map]; rfl
      rw [this]
      exact ⟨.bl _, H, I.kept kk, rfl, q⟩
  · cases e
theorem op_inV {k : Nat} (hr : Room k X.A) (hK : X.K = T.K) (hc : X.calm = true) : OpR X (compareOp .In) (rInV X T false) := by
  intro pins s σ H x y v u Q I rx ry h
  show wpAny _ _ (do return Value.bool (← contains u v)) _ _ s
  exact wpAny_bind (wpAny_mono (inV_core hr hK hc I rx ry h) (fun b s' q => wpAny_pure q) fun _ _ z => z)
theorem op_notInV {k : Nat} (hr : Room k X.A) (hK : X.K = T.K) (hc : X.calm = true) : OpR X (compareOp .NotIn) (rInV X T true) := by
  intro pins s σ H x y v u Q I rx ry h
  show wpAny _ _ (do return Value.bool (!(← contains u v))) _ _ s
  exact wpAny_bind (wpAny_mono (inV_core hr hK hc I rx ry h) (fun b s' q => wpAny_pure q) fun _ _ z => z)
theorem tE_inV {ma me : M} {neg : Bool} : ∀ σ H Q, tE T W .val (dInVals neg ma me) σ H Q → tOp (rInV X T neg) (tE T W .bor ma) (tView T "dict_values" (tE T W .b1 me)) σ H Q := by
  intro σ H Q ⟨r, aS, S, E, p⟩
  refine ⟨r, aS, S, E, ?_⟩
  unfold dInVals at p
  cases q1 : ma r S with
  | bad => rw [q1] at p; exact p
  | exc c S1 => rw [q1] at p; exact p
  | ok a S1 =>
    rw [q1] at p
    simp only [R.bind_ok] at p
    intro x H1 x1 m1 k1
    refine ⟨r, aS, S1, E.ext x1 m1, ?_⟩
    cases q2 : me r S1 with
    | bad => rw [q2] at p; exact p
    | exc c S2 => rw [q2] at p; exact fun H2 x2 m2 => p H2 (x1.trans x2) m2
    | ok d S2 =>
      rw [q2] at p
      simp only [R.bind_ok] at p
      intro y H2 x2 m2 k2
      cases d with
      | m dk dv =>
        cases qf : fInV a (.m dk dv) with
        | none => rw [qf] at p; exact p.elim
        | some b =>
          rw [qf] at p
          obtain ⟨d, ks, vs, rfl, hb, r1, r2⟩ := k2
          refine ⟨d, ks, vs, dk, rfl, hb, fun v hv => ?_⟩
          have xv : Ext aS H2 (upd H2 v (viewO v d "dict_values")) := Ext.upd hv
          exact ⟨aS, v, d, ks, vs, dk, dv, a, b, Bor.ext xv (Bor.ext x2 k1), rfl, upd_same, boD_ext xv hb, Bors.ext xv (Reps.bor m2 r2), qf, p _ _ ((x1.trans x2).trans xv) (m2.new hv) (.b _)⟩
      | _ => exact p.elim
theorem de_inVals {a e : Expr} {ma me : M} {apos cpos pos : Pos} {k : Nat} (hr : Room k X.A) (ha : DE X T W .bor a ma) (he : DE X T W .b1 e me) (hK : X.K = T.K := by rfl) (hc : X.calm = true := by rfl) (hbase : attributeBase e "values" X.env (eval e X.env) = eval e X.env := by rfl) (hline : (apos.endLine == cpos.line) = true := by rfl) :
    DE X T W .val (.Compare a [.In] [.Call (.Attribute e "values" apos) [] [] cpos] pos) (dInVals false ma me) :=
  PE.imp (pe_cmpR (op_inV hr hK hc) ha (pe_values (T := T) he hbase hline) rfl) tE_inV
theorem de_notInVals {a e : Expr} {ma me : M} {apos cpos pos : Pos} {k : Nat} (hr : Room k X.A) (ha : DE X T W .bor a ma) (he : DE X T W .b1 e me) (hK : X.K = T.K := by rfl) (hc : X.calm = true := by rfl) (hbase : attributeBase e "values" X.env (eval e X.env) = eval e X.env := by rfl) (hline : (apos.endLine == cpos.line) = true := by rfl) :
    DE X T W .val (.Compare a [.NotIn] [.Call (.Attribute e "values" apos) [] [] cpos] pos) (dInVals true ma me) :=
  PE.imp (pe_cmpR (op_notInV hr hK hc) ha (pe_values (T := T) he hbase hline) rfl) tE_inV
theorem dt_inVals {a e : Expr} {ma me : M} {apos cpos pos : Pos} {k : Nat} (hr : Room k X.A) (ha : DE X T W .bor a ma) (he : DE X T W .b1 e me) (hK : X.K = T.K := by rfl) (hc : X.calm = true := by rfl) (hbase : attributeBase e "values" X.env (eval e X.env) = eval e X.env := by rfl) (hline : (apos.endLine == cpos.line) = true := by rfl) :
    DT X T W (.Compare a [.In] [.Call (.Attribute e "values" apos) [] [] cpos] pos) (mB (dInVals false ma me)) :=
  PT.imp (pt_cmpR (op_inV hr hK hc) ha (pe_values (T := T) he hbase hline) rfl) fun σ H Q h => tE_inV _ _ _ (tT_b _ _ _ h)
theorem dt_notInVals {a e : Expr} {ma me : M} {apos cpos pos : Pos} {k : Nat} (hr : Room k X.A) (ha : DE X T W .bor a ma) (he : DE X T W .b1 e me) (hK : X.K = T.K := by rfl) (hc : X.calm = true := by rfl) (hbase : attributeBase e "values" X.env (eval e X.env) = eval e X.env := by rfl) (hline : (apos.endLine == cpos.line) = true := by rfl) :
    DT X T W (.Compare a [.NotIn] [.Call (.Attribute e "values" apos) [] [] cpos] pos) (mB (dInVals true ma me)) :=
  PT.imp (pt_cmpR (op_notInV hr hK hc) ha (pe_values (T := T) he hbase hline) rfl) fun σ H Q h => tE_inV _ _ _ (tT_b _ _ _ h)
end
end DL

/-! DL16: sorted; any, all. -/
namespace DL
open PySem PySem.Spec PyProof.Rows L2
open PySem.W (alike alikeAll dataLt dataLe AllAlike)
def alikeD (ds : List D) : Bool := ds.all fun a => ds.all fun b => alike (toPy a) (toPy b)
def rowD : D → Bool
  | .t (_ :: _) => true
  | _ => false
def flatD : D → Bool
  | .n => false
  | .t _ => false
  | _ => true
def sortOk (ds : List D) : Bool := ds.all ok && alikeD ds && (ds.all rowD || ds.all flatD) && decide (ds.length ≤ sizeLine)
def leD (a b : D) : Bool := dataLe false toPy a b
def sortD (ds : List D) : List D := ds.mergeSort leD
def fSorted : List D → Option D
  | [.l ds] => if sortOk ds = true then some (.l (sortD ds)) else none
  | _ => none
theorem alike_of {ds : List D} (h : alikeD ds = true) : AllAlike (ds.map toPy) := by
  intro d hd d' hd'
  obtain ⟨a, ha, rfl⟩ := List.mem_map.mp hd
  obtain ⟨b, hb, rfl⟩ := List.mem_map.mp hd'
  exact List.all_eq_true.mp (List.all_eq_true.mp h a ha) b hb
theorem sortable_of {ds : List D} (h : (ds.all rowD || ds.all flatD) = true) : PySem.W.Sortable (ds.map toPy) := by
  rw [Bool.or_eq_true] at h
  rcases h with h | h
  · refine .inl fun d hd => ?_
    obtain ⟨a, ha, rfl⟩ := List.mem_map.mp hd
    have := List.all_eq_true.mp h a ha
    cases a with
    | t xs => cases xs with
      | nil => cases this
      | cons x xs => exact ⟨toPy x, toPys xs, rfl⟩
    | _ => cases this
  · refine .inr fun d hd => ?_
    obtain ⟨a, ha, rfl⟩ := List.mem_map.mp hd
    have := List.all_eq_true.mp h a ha
    cases a with
    | n => cases this
    | t xs => cases this
    | _ => exact ⟨fun z => by simp [toPy] at z, fun xs z => by simp [toPy] at z⟩
section
variable {X : Cx} {T : Fx} {W : WX}
theorem reps_all {H : Hp} : ∀ {bs : List (V × D)}, (∀ b ∈ bs, Rep T H b.1 b.2) → Reps T H (bs.map (·.1)) (bs.map (·.2))
  | [], _ => .nil
  | b :: bs, h => .cons (h b (by simp)) (reps_all fun c hc => h c (List.mem_cons_of_mem _ hc))
theorem zip_fst {H : Hp} : ∀ {vs : List V} {ds : List D}, Reps T H vs ds → (vs.zip ds).map (·.1) = vs ∧ (vs.zip ds).map (·.2) = ds ∧ ∀ b ∈ vs.zip ds, Rep T H b.1 b.2
  | [], [], _ => ⟨rfl, rfl, fun b hb => by simp at hb⟩
  | v :: vs, d :: ds, h => by
    cases h with
    | cons h1 h2 =>
      obtain ⟨e1, e2, e3⟩ := zip_fst h2
      refine ⟨by simp [e1], by simp [e2], fun b hb => ?_⟩
      rcases List.mem_cons.mp hb with rfl | hb
      · exact h1
      · exact e3 b hb
  | [], _ :: _, h => by cases h
  | _ :: _, [], h => by cases h
/-- what the sort needs of the items, by their pairs -/
theorem each_vals : ∀ {bs : List (V × D)} {us : List Value}, Vals (bs.map (·.1)) us → PySem.W.EachIs (fun u (b : V × D) => RelV b.1 u) us bs
  | [], _, h => by cases h; exact .nil
  | b :: bs, _, h => by cases h with | cons r t => exact .cons r (each_vals t)
theorem vals_each : ∀ {bs : List (V × D)} {us : List Value}, PySem.W.EachIs (fun u (b : V × D) => RelV b.1 u) us bs → Vals (bs.map (·.1)) us
  | _, _, .nil => .nil
  | _, _, .cons r t => .cons r (vals_each t)
theorem each_reads {pins : List (Addr × Obj)} {σ : L2.St} {H : Hp} {s : Shared} {S : Sg} {aS : Option Addr} (I : Inv X pins σ H s) (hK : X.K = T.K) (m : Amb T aS H S) : ∀ {bs : List (V × D)} {us : List Value}, Vals (bs.map (·.1)) us → (∀ b ∈ bs, Rep T H b.1 b.2) → (bs.map (·.2)).all ok = true →
    PySem.W.EachIs (fun u (b : V × D) => ∃ as, Reads s.heap u (toPy b.2) as) us bs
  | [], _, h, _, _ => by cases h; exact .nil
  | b :: bs, _, h, k, o => by
    cases h with
    | cons r t =>
      have o : (ok b.2 && (bs.map (·.2)).all ok) = true := o
      rw [Bool.and_eq_true] at o
      have o1 := o.1
      unfold ok at o1
      rw [Bool.and_eq_true] at o1
      exact .cons (reads_of I hK b.2 b.1 _ (Rep.bor m (k b (by simp))) o1.1 r) (each_reads I hK m t (fun c hc => k c (List.mem_cons_of_mem _ hc)) o.2)
theorem sort_pairs {bs : List (V × D)} : (bs.mergeSort (dataLe false fun b => toPy b.2)).map (·.2) = sortD (bs.map (·.2)) := by
  unfold sortD
  rw [List.map_mergeSort]
  intro a _ b _
  rfl
theorem cx_sorted {k : Nat} (hr : Room k X.A) (hK : X.K = T.K := by rfl) : CallX X T (.builtin "sorted") fSorted .b1 .f1 := by
  intro pins s σ H aS S xs us ds d Q I m rx rd q kk
  rcases ds with _ | ⟨a, _ | ⟨b, ds⟩⟩
  · cases q
  · obtain ⟨x, rfl, r1⟩ := rd1 rd
    cases a with
    | l es =>
      have q : (if sortOk es = true then some (D.l (sortD es)) else none) = some d := q
      split at q
      · rename_i hs
        cases q
        unfold sortOk at hs
        rw [Bool.and_eq_true, Bool.and_eq_true, Bool.and_eq_true, decide_eq_true_eq] at hs
        obtain ⟨⟨⟨h1, h2⟩, h3⟩, h4⟩ := hs
        obtain ⟨p, vs, rfl, hv, rr⟩ := b1_lst r1
        obtain ⟨u, rfl, ru⟩ := Vals.one rx
        cases ru
        obtain ⟨its, n, rv, hz, e⟩ := rdL I hv
        obtain ⟨z1, z2, z3⟩ := zip_fst rr
        have rv' : Vals ((vs.zip es).map (·.1)) its := by rw [z1]; exact rv
        have h1' : ((vs.zip es).map (·.2)).all ok = true := by rw [z2]; exact h1
        have hun := hr.un
        have mp : (vs.zip es).map (fun b => toPy b.2) = es.map toPy := by
          have := congrArg (List.map toPy) z2
          rw [List.map_map] at this
          exact this
        refine PySem.W.sorted_data (enc := fun b : V × D => toPy b.2) (vs := its) ⟨_, e, rfl, _, rfl⟩ (each_vals rv') (each_reads I hK m rv' z3 h1') (by rw [mp]; exact alike_of h2) (by rw [mp]; exact sortable_of h3) ?_ (fun b hb => ?_) fun out ol oe => ?_
        · have := congrArg List.length z2
          rw [List.length_map] at this
          omega
        · have hb2 : b.2 ∈ es := by rw [← z2]; exact List.mem_map_of_mem hb
          have := List.all_eq_true.mp h1 b.2 hb2
          unfold ok at this
          rw [Bool.and_eq_true, decide_eq_true_eq] at this
          have := this.2
          show X.A.units + 2 + (toPy b.2).depth < cLine
          omega
        · obtain ⟨ep, he'⟩ := PyProof.Rows.sortedAll_at s.heap its out.toArray
          have sp := sort_pairs (bs := vs.zip es)
          rw [z2] at sp
          have rr2 : Reps T H (((vs.zip es).mergeSort (dataLe false fun b => toPy b.2)).map (·.1)) (sortD es) := by
            rw [← sp]
            exact reps_all fun b hb => z3 b (List.mem_mergeSort.mp hb)
          have hlen : (((vs.zip es).mergeSort (dataLe false fun b => toPy b.2)).map (·.1)).length ≤ sizeLine := by
            rw [rr2.length]; unfold sortD; rw [List.length_mergeSort]; exact h4
          have hp := I.hok.fresh (Nat.le_succ s.heap.objs.size)
          exact ⟨.ref _, upd H (s.heap.objs.size + 1) (.lst (((vs.zip es).mergeSort (dataLe false fun b => toPy b.2)).map (·.1))), I.laid (t' := s.toks) (fun _ _ => PyProof.Rows.sortedAll_old) (Nat.le_succ _) ⟨hlen, out, ep, vals_each oe, he'⟩, rfl,
            kk _ _ (Ext.upd hp) (keepUpd m hp) (ow1_new m hp rr2)⟩
      · cases q
    | _ => cases q
  · cases a <;> cases q
/-! ### any, all of a list -/
def tru63 (d : D) : Bool := match d with
  | .n => true
  | .b _ => true
  | .i _ => true
  | .s x => decide (x.length ≤ 1000000)
  | _ => false
def fAll : List D → Option D
  | [.l ds] => if (ds.all tru63) = true then some (.b (ds.all fun d => (toPy d).truthy)) else none
  | _ => none
def fAny : List D → Option D
  | [.l ds] => if (ds.all tru63) = true then some (.b (ds.any fun d => (toPy d).truthy)) else none
  | _ => none
theorem tru63_ok {d : D} (h : tru63 d = true) : (toPy d).plain = true ∧ (toPy d).fits63 := by
  cases d with
  | n => exact ⟨rfl, by simp [toPy, PyData.fits63]⟩
  | b _ => exact ⟨rfl, by simp [toPy, PyData.fits63]⟩
  | i _ => exact ⟨rfl, by simp [toPy, PyData.fits63]⟩
  | s x =>
    have h : decide (x.length ≤ 1000000) = true := h
    rw [decide_eq_true_eq] at h
    refine ⟨rfl, ?_⟩
    simp only [toPy, PyData.fits63]
    omega
  | _ => cases h
theorem plainAll_of {ds : List D} (h : ds.all tru63 = true) : PyData.plainAll (toPys ds) = true := by
  induction ds with
  | nil => rfl
  | cons d ds ih =>
    have h : (tru63 d && ds.all tru63) = true := h
    rw [Bool.and_eq_true] at h
    show ((toPy d).plain && PyData.plainAll (toPys ds)) = true
    rw [(tru63_ok h.1).1, ih h.2]; rfl
theorem cx_all (hc : X.calm = true := by rfl) (hK : X.K = T.K := by rfl) : CallX X T (.builtin "all") fAll .bor .val := by
  intro pins s σ H aS S xs us ds d Q I m rx rd q kk
  rcases ds with _ | ⟨a, _ | ⟨b, ds⟩⟩
  · cases q
  · obtain ⟨x, rfl, r1⟩ := rd1 rd
    have r1 : Bor T aS H x a := r1
    cases r1 with
    | @l p vs es h r =>
      have q : (if (es.all tru63) = true then some (D.b (es.all fun d => (toPy d).truthy)) else none) = some d := q
      split at q
      · rename_i hs
        cases q
        obtain ⟨u, rfl, ru⟩ := Vals.one rx
        cases ru
        obtain ⟨its, n, rv, hz, e⟩ := rdL I h.1
        obtain ⟨as, hrd⟩ := reads_ofs I hK es vs its r (plainAll_of hs) rv
        refine PySem.W.all_list_data (vs := its.toArray) (I.ok.hd hc) ⟨_, e, rfl, _, rfl⟩ hrd (plainAll_of hs) (fun z hz => ?_) fun h' tk hk => ⟨.bl _, H, I.kept hk, rfl, ?_⟩
        · rw [toPys_map] at hz
          obtain ⟨d, hd, rfl⟩ := List.mem_map.mp hz
          exact (tru63_ok (List.all_eq_true.mp hs d hd)).2
        · have : ((toPys es).all PyData.truthy) = es.all fun d => (toPy d).truthy := by rw [toPys_map, List.all_map]; rfl
          rw [this]
          exact kk _ H Ext.refl (fun _ _ => rfl) (.b _)
      · cases q
    | _ => cases q
  · cases a <;> cases q
theorem cx_any (hc : X.calm = true := by rfl) (hK : X.K = T.K := by rfl) : CallX X T (.builtin "any") fAny .bor .val := by
  intro pins s σ H aS S xs us ds d Q I m rx rd q kk
  rcases ds with _ | ⟨a, _ | ⟨b, ds⟩⟩
  · cases q
  · obtain ⟨x, rfl, r1⟩ := rd1 rd
    have r1 : Bor T aS H x a := r1
    cases r1 with
    | @l p vs es h r =>
      have q : (if (es.all tru63) = true then some (D.b (es.any fun d => (toPy d).truthy)) else none) = some d := q
      split at q
      · rename_i hs
        cases q
        obtain ⟨u, rfl, ru⟩ := Vals.one rx
        cases ru
        obtain ⟨its, n, rv, hz, e⟩ := rdL I h.1
        obtain ⟨as, hrd⟩ := reads_ofs I hK es vs its r (plainAll_of hs) rv
        refine PySem.W.any_list_data (vs := its.toArray) (I.ok.hd hc) ⟨_, e, rfl, _, rfl⟩ hrd (plainAll_of hs) (fun z hz => ?_) fun h' tk hk => ⟨.bl _, H, I.kept hk, rfl, ?_⟩
        · rw [toPys_map] at hz
          obtain ⟨d, hd, rfl⟩ := List.mem_map.mp hz
          exact (tru63_ok (List.all_eq_true.mp hs d hd)).2
        · have : ((toPys es).any PyData.truthy) = es.any fun d => (toPy d).truthy := by rw [toPys_map, List.any_map]; rfl
          rw [this]
          exact kk _ H Ext.refl (fun _ _ => rfl) (.b _)
      · cases q
    | _ => cases q
  · cases a <;> cases q
end
end DL

/-! DL17: sorted(d.items()); dicts by texts. -/
namespace DL
open PySem PySem.Spec PyProof.Rows L2
section
variable {X : Cx} {T : Fx} {W : WX}
mutual
theorem reads_there {h : Heap} : ∀ {v : Value} {d : PyData} {as : List Addr}, Reads h v d as → ∀ a ∈ as, ∃ o, h.get? a = some o
  | _, _, _, .none => fun a ha => by simp at ha
  | _, _, _, .bool _ => fun a ha => by simp at ha
  | _, _, _, .int _ _ => fun a ha => by simp at ha
  | _, _, _, .str _ _ => fun a ha => by simp at ha
  | _, _, _, .list e _ _ r => fun a ha => by
    rcases List.mem_cons.mp ha with rfl | ha
    · exact ⟨_, e⟩
    · exact reads_thereAll r a ha
  | _, _, _, .tuple _ _ _ r => reads_thereAll r
  | _, _, _, .dict e _ _ r q => fun a ha => by
    rcases List.mem_append.mp ha with ha | ha
    · rcases List.mem_cons.mp ha with rfl | ha
      · exact ⟨_, e⟩
      · exact reads_thereAll r a ha
    · exact reads_thereAll q a ha
theorem reads_thereAll {h : Heap} : ∀ {vs : List Value} {ds : List PyData} {as : List Addr}, ReadsAll h vs ds as → ∀ a ∈ as, ∃ o, h.get? a = some o
  | _, _, _, .nil => fun a ha => by simp at ha
  | _, _, _, .cons r q => fun a ha => by
    rcases List.mem_append.mp ha with ha | ha
    · exact reads_there r a ha
    · exact reads_thereAll q a ha
end
/-- an object that is there takes its place -/
theorem adoptF {pins : List (Addr × Obj)} {σ : L2.St} {H : Hp} {s : Shared} {a : Addr} {u : HO} (I : Inv X pins σ H s) (f : FpOk X pins H a) (new : ObjOk X.prog X.w (upd H a u) s.heap a u) : Inv X pins σ (upd H a u) s := by
  obtain ⟨na, nL, nF, n0, nC, nP⟩ := f
  have ne : ∀ {b o}, H b = some o → b ≠ a := fun e => ne_of_none e na
  refine ⟨I.ok, I.os, I.bare, ⟨I.base.keep, I.base.slot, fun b o e n hb => ?_, I.base.there, fun b xs e => ?_, fun b o u e => ?_, fun b ps e => ?_⟩, I.loc, I.cell, ?_, fun x c e => ?_, fun p hp => ?_, fun b v e => ?_, I.len⟩
  · rw [upd_ne]
    · exact I.base.free b o e n hb
    · rintro rfl
      rcases n0 with z | z
      · exact hb z
      · exact absurd (Heap.lt_size e) (Nat.not_lt.mpr z)
  · have q := I.base.tups b xs e; rw [upd_ne (ne q)]; exact q
  · have q := I.base.frzs b o u e; rw [upd_ne (ne q)]; exact q
  · obtain ⟨more, q⟩ := I.base.tbls b ps e
    exact ⟨more, by rw [upd_ne (ne q)]; exact q⟩
  · rw [upd_ne (Ne.symm nL)]; exact I.free
  · rw [upd_ne (nC x c e)]; exact I.freeC x c e
  · obtain ⟨e, n, k⟩ := I.pin p hp
    exact ⟨e, by rw [upd_ne (nP p hp)]; exact n, k⟩
  · by_cases hb : b = a
    · subst hb
      rw [upd_same] at e; cases e
      exact new
    · rw [upd_ne hb] at e
      exact (I.hok b v e).stay (fun c w _ q => q) (fun c q => by rw [upd_ne (ne q)]; exact q) fun c xs q => by rw [upd_ne (ne q)]; exact q
/-- several new tuples take their places -/
theorem adoptTs {pins : List (Addr × Obj)} {σ : L2.St} {s : Shared} : ∀ (as : List Addr) (rows : List (List V)) {H : Hp}, Inv X pins σ H s → as.length = rows.length → as.Nodup → (∀ a ∈ as, FpOk X pins H a) →
    (∀ (j : Nat) (a : Addr) (row : List V), as[j]? = some a → rows[j]? = some row → row.length ≤ sizeLine ∧ ∃ its : List Value, Vals row its ∧ IsTup s.heap a its.toArray) →
    ∃ H', Inv X pins σ H' s ∧ (∀ b, b ∉ as → H' b = H b) ∧ ∀ (j : Nat) (a : Addr) (row : List V), as[j]? = some a → rows[j]? = some row → H' a = some (.tup row)
  | [], [], H, I, _, _, _, _ => ⟨H, I, fun _ _ => rfl, fun j a row e => by simp at e⟩
  | a :: as, row :: rows, H, I, hl, nd, fp, ht => by
    have nd' := List.nodup_cons.mp nd
    have I1 : Inv X pins σ (upd H a (.tup row)) s := adoptF I (fp a (by simp)) (by
      obtain ⟨z, its, r, p⟩ := ht 0 a row rfl rfl
      exact ⟨z, its, r, p⟩)
    obtain ⟨H', I', o', t'⟩ := adoptTs as rows I1 (by simpa using hl) nd'.2 (fun b hb => by
      obtain ⟨n, k⟩ := fp b (List.mem_cons_of_mem _ hb)
      exact ⟨by rw [upd_ne (by rintro rfl; exact nd'.1 hb)]; exact n, k⟩) fun j b r e1 e2 => ht (j + 1) b r (by simpa using e1) (by simpa using e2)
    refine ⟨H', I', fun b hb => ?_, fun j b r e1 e2 => ?_⟩
    · rw [o' b fun z => hb (List.mem_cons_of_mem _ z), upd_ne]
      rintro rfl; exact hb (by simp)
    · cases j with
      | zero =>
        cases e1; cases e2
        rw [o' a nd'.1, upd_same]
      | succ j => exact t' j b r (by simpa using e1) (by simpa using e2)
  | [], _ :: _, _, _, hl, _, _, _ => by simp at hl
  | _ :: _, [], _, _, hl, _, _, _ => by simp at hl
/-- the rows (key, value) of a dict -/
def rowsD : List D → List D → List D
  | k :: ks, v :: vs => .t [k, v] :: rowsD ks vs
  | _, _ => []
def rowsV : List V → List V → List (List V)
  | k :: ks, v :: vs => [k, v] :: rowsV ks vs
  | _, _ => []
theorem rowsV_len : ∀ {ks vs : List V}, ks.length = vs.length → (rowsV ks vs).length = vs.length
  | [], [], _ => rfl
  | k :: ks, v :: vs, h => congrArg (· + 1) (rowsV_len (by simpa using h))
  | [], _ :: _, h => by simp at h
  | _ :: _, [], h => by simp at h
theorem rowsV_get : ∀ {ks vs : List V} {j : Nat} {row : List V}, (rowsV ks vs)[j]? = some row → ∃ k v, ks[j]? = some k ∧ vs[j]? = some v ∧ row = [k, v]
  | k :: ks, v :: vs, 0, row, h => by cases h; exact ⟨k, v, rfl, rfl, rfl⟩
  | k :: ks, v :: vs, j + 1, row, h => by
    obtain ⟨k', v', e1, e2, e3⟩ := rowsV_get (ks := ks) (vs := vs) (j := j) (by simpa [rowsV] using h)
    exact ⟨k', v', by simpa using e1, by simpa using e2, e3⟩
  | [], _, j, row, h => by simp [rowsV] at h
  | _ :: _, [], j, row, h => by simp [rowsV] at h
theorem rows_reps {H : Hp} : ∀ {ks vs : List V} {dk dv : List D} {as : List Addr}, Reps T H ks dk → Reps T H vs dv → ks.length = vs.length → as.length = vs.length → (∀ (j : Nat) (a : Addr) (row : List V), as[j]? = some a → (rowsV ks vs)[j]? = some row → H a = some (.tup row)) → Reps T H (as.map V.ref) (rowsD dk dv)
  | [], [], _, _, [], .nil, .nil, _, _, _ => .nil
  | k :: ks, v :: vs, _, _, a :: as, .cons h1 r1, .cons h2 r2, hl, ha, ht =>
    .cons (.t (.inl (.inl (ht 0 a [k, v] rfl rfl))) (.cons h1 (.cons h2 .nil))) (rows_reps r1 r2 (by simpa using hl) (by simpa using ha) fun j b row e1 e2 => ht (j + 1) b row (by simpa using e1) (by simpa [rowsV] using e2))
  | [], _ :: _, _, _, _, _, _, hl, _, _ => by simp at hl
  | _ :: _, [], _, _, _, _, _, hl, _, _ => by simp at hl
  | [], [], _, _, _ :: _, _, _, _, ha, _ => by simp at ha
  | _ :: _, _ :: _, _, _, [], _, _, _, ha, _ => by simp at ha
def fSortI (d : D) : Option D := match d with
  | .m ks vs => if sortOk (rowsD ks vs) = true then some (.l (sortD (rowsD ks vs))) else none
  | _ => none
def dSortI (m : M) : M := fun r s => (m r s).bind fun d s1 => match fSortI d with
  | some d => .ok d s1
  | none => .bad
def rSortI (T : Fx) : List V → Hp → VK → Prop := fun xs H Q => ∃ aS S v d ks vs dk dv x, Amb T aS H S ∧ xs = [.ref v] ∧ H v = some (viewO v d "dict_items") ∧ BoD T H d ks vs dk ∧ Reps T H ks dk ∧ Reps T H vs dv ∧ fSortI (.m dk dv) = some x ∧ ∀ w H', Ext aS H H' → (∀ a, aS = some a → H' a = H a) → MdOk T aS H H' w x .f1 → Q w H'
theorem call_sortI {k : Nat} (hr : Room k X.A) (hK : X.K = T.K) (hc : X.calm = true) : CallR X (.builtin "sorted") (rSortI T) := by
  intro pins s σ H xs us Q I rx ⟨aS, S, v, d, ks, vs, dk, dv, x, m, ex, hv, hd, r1, r2, q, kk⟩
  subst ex
  obtain ⟨u, rfl, ru⟩ := Vals.one rx
  cases ru
  have q : (if sortOk (rowsD dk dv) = true then some (D.l (sortD (rowsD dk dv))) else none) = some x := q
  split at q
  · rename_i hs
    cases q
    obtain ⟨nd, o, es, ep, e1, ex, hdat, l1, l2, k1, k2⟩ := boD_raw I hd
    have hview : s.heap.get? v = some { cls := .type "dict_items", data := .fields #[.ref d] } := (I.hok v _ hv).1
    have l4 := k2.length
    simp only [List.length_map, Array.length_toList] at l4
    refine Calls.call_function_entry PyProof.Rows.kind_sorted PyProof.Rows.plain_sorted PyProof.Rows.entry_sorted (PyProof.Rows.args_sorted1 _) ?_
    unfold Builtin.«sorted»
    refine wpAny_bind (m := checkCount "sorted" 1 1 _) (wpAny_pure ?_)
    refine wpAny_bind (PySem.W.dil_collect (A := X.A.in1) (show X.A.in1.handled = none from I.ok.hd hc) ⟨_, hview, rfl, rfl⟩ ⟨o, e1, ex, hdat⟩ (by omega) fun h' tk as hk hal G => ?_)
    have I1 : Inv X pins σ H { s with heap := h', toks := tk } := I.kept hk
    have lo : ∀ a ∈ as, s.heap.objs.size ≤ a := fun a ha => Nat.le_of_lt (G.above a ha)
    have nda : as.Nodup := G.rise.imp fun h => Nat.ne_of_lt h
    obtain ⟨H2, I2, o2, t2⟩ := adoptTs as (rowsV ks vs) I1 (by rw [rowsV_len l1]; omega) nda (fun a ha => I.fpOk (lo a ha) (I.hok.fresh (lo a ha))) fun j a row ea er => by
      obtain ⟨kv, vv, g1, g2, rfl⟩ := rowsV_get er
      obtain ⟨hj, ho⟩ := G.pairs j a ea
      obtain ⟨u1, f1, f2⟩ := k1.get g1
      obtain ⟨u2, f3, f4⟩ := k2.get g2
      have e5 : u1 = es[j].key := by rw [List.getElem?_map, Array.getElem?_toList, Array.getElem?_eq_getElem hj] at f1; exact (Option.some.inj f1).symm
      have e6 : u2 = es[j].val := by rw [List.getElem?_map, Array.getElem?_toList, Array.getElem?_eq_getElem hj] at f3; exact (Option.some.inj f3).symm
      subst e5 e6
      exact ⟨by show 2 ≤ sizeLine; decide, [es[j].key, es[j].val], .cons f2 (.cons f4 .nil), ⟨_, ho, rfl, _, rfl⟩⟩
    have x2 : Ext aS H H2 := fun b u e c => by
      rw [o2 b fun z => by rw [I.hok.fresh (lo b z)] at e; cases e]; exact e
    have k2' : ∀ a, aS = some a → H2 a = H a := fun a e => o2 a fun z => m.ne a e (I.hok.fresh (lo a z))
    have m2 : Amb T aS H2 S := m.keep x2 k2'
    have rr : Reps T H2 (as.map V.ref) (rowsD dk dv) := rows_reps (Reps.ext x2 r1) (Reps.ext x2 r2) l1 (by omega) t2
    have rv : Vals (as.map V.ref) (as.map Value.ref) := by
      clear rr t2 x2 k2' m2 I2 o2 nda lo G hal
      induction as with
      | nil => exact .nil
      | cons a as ih => exact .cons rfl ih
    refine wpAny_bind (wpAny_newList ?_ (by rw [List.length_map]; omega))
    obtain ⟨z1, z2, z3⟩ := zip_fst rr
    generalize hbs : (as.map V.ref).zip (rowsD dk dv) = bs at z1 z2 z3
    have rv' : Vals (bs.map (·.1)) (as.map Value.ref) := by rw [z1]; exact rv
    unfold sortOk at hs
    rw [Bool.and_eq_true, Bool.and_eq_true, Bool.and_eq_true, decide_eq_true_eq] at hs
    obtain ⟨⟨⟨h1, h2⟩, h3⟩, h4⟩ := hs
    have h1' : (bs.map (·.2)).all ok = true := by rw [z2]; exact h1
    have mp : bs.map (fun b => toPy b.2) = (rowsD dk dv).map toPy := by
      have := congrArg (List.map toPy) z2
      rw [List.map_map] at this
      exact this
    have hoL : (h'.push { cls := .type "list", data := .seq (as.map Value.ref).toArray }).get? h'.objs.size = some (PyProof.Rows.seqObj "list" (as.map Value.ref).toArray 0) := Heap.get?_push_size _ rfl
    have er := each_reads I2 hK m2 rv' z3 h1'
    have er2 : PySem.W.EachIs (fun v (b : V × D) => ∃ zs, Reads (h'.push { cls := .type "list", data := .seq (List.map Value.ref as).toArray }) v (toPy b.2) zs ∧ h'.objs.size ∉ zs) (as.map Value.ref) bs :=
      er.mono fun v b ⟨as', r⟩ => ⟨as', PyProof.Rows.Reads.keeps (fun b o e => Heap.get?_push_of_some _ e) r, fun z => by
        obtain ⟨o, e⟩ := reads_there r _ z
        exact absurd (Heap.lt_size e) (Nat.lt_irrefl _)⟩
    have hun := hr.un
    have lbs : bs.length = (rowsD dk dv).length := by rw [← z2, List.length_map]
    refine wpAny_bind (wpAny_holding (PySem.W.list_sort_data (s := { s with heap := h'.push { cls := .type "list", data := .seq (as.map Value.ref).toArray }, toks := tk }) (enc := fun b : V × D => toPy b.2) hoL (each_vals rv') er2 (by rw [mp]; exact alike_of h2) (by rw [mp]; exact sortable_of h3) (by omega) (fun b hb => ?_) fun out ol oe => ?_))
    · have hb2 : b.2 ∈ rowsD dk dv := by rw [← z2]; exact List.mem_map_of_mem hb
      have := List.all_eq_true.mp h1 b.2 hb2
      unfold ok at this
      rw [Bool.and_eq_true, decide_eq_true_eq] at this
      have := this.2
      show X.A.units + 1 + 1 + (toPy b.2).depth < cLine
      omega
    · obtain ⟨e', he'⟩ := PyProof.Rows.sortedHeap_at (vs := as.map Value.ref) (out := out.toArray) hoL
      have sp := sort_pairs (bs := bs)
      rw [z2] at sp
      have rr2 : Reps T H2 ((bs.mergeSort (PySem.W.dataLe false fun b => toPy b.2)).map (·.1)) (sortD (rowsD dk dv)) := by
        rw [← sp]
        exact reps_all fun b hb => z3 b (List.mem_mergeSort.mp hb)
      have hlen : ((bs.mergeSort (PySem.W.dataLe false fun b => toPy b.2)).map (·.1)).length ≤ sizeLine := by
        rw [rr2.length]; unfold sortD; rw [List.length_mergeSort]; exact h4
      have hp := I2.hok.fresh (Nat.le_refl h'.objs.size)
      refine wpAny_pure ⟨_, rfl, .ref h'.objs.size, upd H2 h'.objs.size (.lst ((bs.mergeSort (PySem.W.dataLe false fun b => toPy b.2)).map (·.1))), I2.laid (t' := tk) (fun b u e => ?_) (Nat.le_refl _) ⟨hlen, out, e', vals_each oe, he'⟩, rfl,
        kk _ _ (x2.trans (Ext.upd hp)) (fun a e => (keepUpd m2 hp a e).trans (k2' a e)) ?_⟩
      · have hb : b < h'.objs.size := Heap.lt_size e
        show (PyProof.Rows.sortedHeap _ _ _ _).get? b = some u
        rw [PyProof.Rows.sortedHeap_old (Nat.ne_of_lt hb) (by rw [Heap.size_push]; exact Nat.lt_succ_of_lt hb)]
        exact Heap.get?_push_of_some _ e
      · exact (ow1_new m2 hp rr2).back x2 m2.ne
  · cases q
theorem boot_sorted : bootBuiltins "sorted" = some (.builtin "sorted") := by decide +kernel
theorem de_sortI {e : Expr} {m : M} {p apos cpos pos : Pos} {k : Nat} (hr : Room k X.A) (hm : X.mg "sorted" = none) (he : DE X T W .b1 e m) (hg : Gl X "sorted" := by rfl) (hK : X.K = T.K := by rfl) (hc : X.calm = true := by rfl) (hbase : attributeBase e "items" X.env (eval e X.env) = eval e X.env := by rfl) (hline : (apos.endLine == cpos.line) = true := by rfl)
    (hs1 : starEach [Expr.Call (.Attribute e "items" apos) [] [] cpos] X.env = [(false, eval (.Call (.Attribute e "items" apos) [] [] cpos) X.env)] := by rfl) (hpl : (backTo pos (starEach [] X.env)).any (·.1) = false := by rfl) :
    DE X T W .f1 (.Call (.Name "sorted" p) [.Call (.Attribute e "items" apos) [] [] cpos] [] pos) (dSortI m) := by
  refine PE.imp (pe_callB (call_sortI hr hK hc) hg hm boot_sorted (pa_cons (pe_items (T := T) he hbase hline) pa_nil (hs := hs1)) (by decide) (by decide) hs1 hpl) fun σ H Q ⟨r, aS, S, E, p⟩ => ⟨r, aS, S, E, ?_⟩
  unfold dSortI at p
  cases q : m r S with
  | bad => rw [q] at p; exact p
  | exc c S1 => rw [q] at p; exact p
  | ok d S1 =>
    rw [q] at p
    simp only [R.bind_ok] at p
    intro y H2 x2 m2 k2
    cases d with
    | m dk dv =>
      cases qf : fSortI (.m dk dv) with
      | none => rw [qf] at p; exact p.elim
      | some x =>
        rw [qf] at p
        obtain ⟨d, ks, vs, rfl, hb, r1, r2⟩ := k2
        refine ⟨d, ks, vs, dk, rfl, hb, fun v hv => ?_⟩
        have xv : Ext aS H2 (upd H2 v (viewO v d "dict_items")) := Ext.upd hv
        exact ⟨aS, S1, v, d, ks, vs, dk, dv, x, m2.new hv, rfl, upd_same, boD_ext xv hb, Reps.ext xv r1, Reps.ext xv r2, qf, fun w H' xw kw mk => p w H' ((x2.trans xv).trans xw) ((m2.new hv).keep xw kw) (mk.back (x2.trans xv) (m2.new hv).ne)⟩
    | _ => exact p.elim
end
end DL

/-! DL18: dicts by texts: {}, {k: v}, d[k] = v. -/
namespace DL
open PySem PySem.Spec PyProof.Rows L2
theorem isStr_self (z : Str) (t : Tok) : Value.isStrOf z (.str z t) = true := by simp [Value.isStrOf]
/-- stored by key, at the key's place or behind -/
def putD : List D → List D → D → D → List D × List D
  | k' :: ks, v' :: vs, k, v => if eqv k' k = true then (k' :: ks, v :: vs) else (k' :: (putD ks vs k v).1, v' :: (putD ks vs k v).2)
  | _, _, k, v => ([k], [v])
section
variable {X : Cx} {T : Fx} {W : WX}
theorem ow_empty {aS : Option Addr} {H : Hp} {p : Addr} {t : Nat} {σ : L2.St} {pins : List (Addr × Obj)} {s : Shared} (hn : (p == sysModules) = false) : Ow1 T aS (upd H p (.ext (rawAt p { cls := .type "dict", data := .dict #[] }))) (.ref p) (.m [] []) [p] :=
  ⟨p, [], [], rfl, rfl, ⟨hn, _, upd_same, ⟨rfl, rfl, rfl⟩, rfl, Nat.zero_le _, List.nodup_nil, #[], 0, rfl, .nil, .nil, rfl⟩, .nil, .nil⟩
theorem raw_ok {P : Program} {w : World} {H : Hp} {h : Heap} {a : Addr} {o : Obj} (e : h.get? a = some o) : ObjOk P w H h a (.ext (rawAt a o)) := ⟨e, ⟨o, e⟩, fun h1 h2 p k => k _ p⟩
def dDict0 : M := fun _ s => .ok (.m [] []) s
theorem de_dict0 {pos : Pos} : DE X T W .f1 (.Dict [] [] pos) dDict0 := by
  refine ⟨fun pins s σ H Q I ⟨r, aS, S, E, p⟩ => wpAny_Dict_empty ?_⟩
  have hp := I.hok.fresh (Nat.le_refl s.heap.objs.size)
  have hb : ((s.heap.objs.size : Addr) == sysModules) = false := by
    have := I.big
    exact beq_eq_false_iff_ne.mpr (Nat.ne_of_gt this)
  refine ⟨.ref s.heap.objs.size, _, I.laid (a := s.heap.objs.size) (o := .ext (rawAt s.heap.objs.size { cls := .type "dict", data := .dict #[] })) (t' := s.toks) (fun _ _ q => Heap.get?_push_of_some _ q) (Nat.le_refl _) (raw_ok (Heap.get?_push_size _ rfl)), rfl, ?_⟩
  have p : Post T W aS H σ .f1 Q (.ok (.m [] []) S) := p
  exact p _ _ (Ext.upd hp) (E.amb.new hp) ⟨_, ow_empty (t := 0) (σ := σ) (pins := pins) (s := s) hb, fun b hb => by rw [List.mem_singleton.mp hb]; exact hp⟩
/-! ### from the own form to the library's and back -/
def txtPairs (zs : List Str) (us : List Value) : List (Leaf × Value) := (zs.map Leaf.text).zip us
theorem strsOf_map : ∀ {dk : List D} {zs : List Str}, strsOf dk = some zs → dk = zs.map D.s
  | [], _, e => by cases e; rfl
  | d :: ds, zs, e => by
    cases d with
    | s z =>
      have e : (strsOf ds).map (z :: ·) = some zs := e
      cases q : strsOf ds with
      | none => rw [q] at e; cases e
      | some ms => rw [q] at e; cases e; rw [strsOf_map q]; rfl
    | _ => cases e
theorem strsOf_s : ∀ zs : List Str, strsOf (zs.map D.s) = some zs
  | [] => rfl
  | z :: zs => by
    show (strsOf (zs.map D.s)).map (z :: ·) = _
    rw [strsOf_s zs]; rfl
theorem txt_nodup {zs : List Str} (h : ((zs.map D.s).map kOf).Nodup) : (zs.map Leaf.text).Nodup := by
  have : (zs.map D.s).map kOf = (zs.map Leaf.text).map Leaf.key := by rw [List.map_map, List.map_map]; rfl
  rw [this] at h
  exact List.Pairwise.of_map Leaf.key (fun a b h e => h (by rw [e])) h
theorem txt_nodup' {zs : List Str} (h : (zs.map Leaf.text).Nodup) : ((zs.map D.s).map kOf).Nodup := by
  have : (zs.map D.s).map kOf = (zs.map Leaf.text).map Leaf.key := by rw [List.map_map, List.map_map]; rfl
  rw [this]
  exact List.Pairwise.map Leaf.key (fun a b h e => h (Leaf.key_inj e)) h
theorem zip_fst_txt {zs : List Str} {us : List Value} (h : zs.length = us.length) : (txtPairs zs us).map (·.1) = zs.map Leaf.text := by
  unfold txtPairs
  exact List.map_fst_zip (by rw [List.length_map]; omega)
theorem pairs_of {P : Program} {w : World} : ∀ {es : List DictEntry} {zs : List Str}, Vals (zs.map V.str) (es.map (·.key)) → Pairs (leafKind P w) es (txtPairs zs (es.map (·.val)))
  | [], [], _ => .nil
  | e :: es, z :: zs, h => by
    have h : Vals (V.str z :: zs.map V.str) (e.key :: es.map (·.key)) := h
    cases h with
    | cons r t =>
      obtain ⟨tk, q⟩ := r
      refine .cons ?_ rfl (pairs_of t)
      show Leaf.isOf (.text z) e.key = true
      rw [q]
      exact isStr_self z tk
  | [], _ :: _, h => by cases h
  | _ :: _, [], h => by cases h
theorem txt_in {h : Heap} {a : Addr} {o : Obj} {vs : List V} {zs : List Str} {P : Program} (e : h.get? a = some o) (x : DictO T.w o (zs.map V.str) vs (zs.map D.s)) : ∃ us, Vals vs us ∧ zs.length = us.length ∧ h.DictOf (leafKind P T.w) a (txtPairs zs us) := by
  obtain ⟨ex, l, z, nd, es, ep, hd, k1, k2, hh⟩ := x
  have lz : zs.length = es.toList.length := by
    have := k1.length
    rw [List.length_map, List.length_map] at this
    exact this
  refine ⟨es.toList.map (·.val), k2, by rw [List.length_map]; exact lz, o, es, ep, e, ex, hd, fun en hen => ?_, pairs_of k1, ?_⟩
  · obtain ⟨i, hi, rfl⟩ := List.getElem_of_mem (show en ∈ es.toList by simpa using hen)
    have hz : i < zs.length := by omega
    have hk := k1
    obtain ⟨u, e1, r⟩ := k1.get (i := i) (x := .str zs[i]) (by rw [List.getElem?_map, List.getElem?_eq_getElem hz]; rfl)
    have e2 : u = es.toList[i].key := by rw [List.getElem?_map, List.getElem?_eq_getElem hi] at e1; exact (Option.some.inj e1).symm
    have e3 : es.toList[i].hash = NestedKey.hash T.w (kOf (.s zs[i])) := by
      have := congrArg (fun l => l[i]?) hh
      simp only [List.getElem?_map, List.getElem?_eq_getElem hi, List.getElem?_eq_getElem hz, Option.map_some] at this
      exact Option.some.inj this
    refine ⟨.text zs[i], ?_, e3⟩
    obtain ⟨tk, q⟩ := r
    show Leaf.isOf (.text zs[i]) es.toList[i].key = true
    rw [← e2, q]
    exact isStr_self _ tk
  · rw [zip_fst_txt (by rw [List.length_map]; exact lz)]
    exact txt_nodup nd
theorem pairs_keys {P : Program} {w : World} : ∀ {es : List DictEntry} {zs : List Str} {us : List Value}, zs.length = us.length → Pairs (leafKind P w) es (txtPairs zs us) → Vals (zs.map V.str) (es.map (·.key)) ∧ es.map (·.val) = us
  | [], [], [], _, _ => ⟨.nil, rfl⟩
  | e :: es, z :: zs, u :: us, hl, h => by
    have h : Pairs (leafKind P w) (e :: es) ((Leaf.text z, u) :: txtPairs zs us) := h
    cases h with
    | cons h1 h2 h3 =>
      obtain ⟨r1, r2⟩ := pairs_keys (by simpa using hl) h3
      refine ⟨.cons ?_ r1, by rw [List.map_cons, r2, h2]⟩
      obtain ⟨t, q⟩ := Value.isStrOf_shape (show Value.isStrOf z e.key = true from h1)
      exact ⟨t, q⟩
  | [], z :: zs, u :: us, _, h => by cases h
  | e :: es, [], [], _, h => by cases h
  | _, [], _ :: _, hl, _ => by simp at hl
  | _, _ :: _, [], hl, _ => by simp at hl
theorem txt_out {h : Heap} {a : Addr} {vs : List V} {zs : List Str} {us : List Value} {P : Program} (x : h.DictOf (leafKind P T.w) a (txtPairs zs us)) (r : Vals vs us) (hl : zs.length = us.length) (hz : us.length ≤ sizeLine) : ∃ o, h.get? a = some o ∧ DictO T.w o (zs.map V.str) vs (zs.map D.s) := by
  obtain ⟨o, es, ep, e, ex, hd, ko, pr, nd⟩ := x
  obtain ⟨k1, k2⟩ := pairs_keys hl pr
  have lz : es.toList.length = zs.length := by
    have := k1.length
    rw [List.length_map, List.length_map] at this
    omega
  refine ⟨o, e, ex, by rw [List.length_map, r.length]; exact hl, by rw [r.length]; exact hz, ?_, es, ep, hd, k1, by rw [k2]; exact r, ?_⟩
  · rw [zip_fst_txt hl] at nd
    exact txt_nodup' nd
  · apply List.ext_getElem?
    intro i
    by_cases hi : i < es.toList.length
    · have hz : i < zs.length := by omega
      simp only [List.getElem?_map, List.getElem?_eq_getElem hi, List.getElem?_eq_getElem hz, Option.map_some]
      obtain ⟨k, h1, h2⟩ := ko es.toList[i] (by simp)
      obtain ⟨u, e1, rr⟩ := k1.get (i := i) (x := .str zs[i]) (by rw [List.getElem?_map, List.getElem?_eq_getElem hz]; rfl)
      have e2 : u = es.toList[i].key := by rw [List.getElem?_map, List.getElem?_eq_getElem hi] at e1; exact (Option.some.inj e1).symm
      obtain ⟨t, q⟩ := rr
      have h3 : (leafKind P T.w).is (.text zs[i]) es.toList[i].key = true := by
        show Leaf.isOf (.text zs[i]) es.toList[i].key = true
        rw [← e2, q]; exact isStr_self _ t
      have := (leafKind P T.w).inj _ _ _ h1 h3
      subst this
      rw [h2]; rfl
    · rw [List.getElem?_eq_none (by rw [List.length_map]; omega), List.getElem?_eq_none (by rw [List.length_map, List.length_map]; omega)]
/-- the store, on either side -/
theorem put_txt {vs : List V} {ds : List D} {H : Hp} {v : V} {d : D} {u : Value} (rv : RelV v u) (rd : Rep T H v d) (z : Str) : ∀ {zs : List Str} {vs : List V} {us : List Value} {ds : List D}, Vals vs us → Reps T H vs ds → zs.length = us.length → (zs.map Leaf.text).Nodup →
    ∃ zs' vs' us' , stored (txtPairs zs us) (.text z) u = txtPairs zs' us' ∧ Vals vs' us' ∧ Reps T H vs' (putD (zs.map D.s) ds (.s z) d).2 ∧ (putD (zs.map D.s) ds (.s z) d).1 = zs'.map D.s ∧ zs'.length = us'.length ∧ us'.length ≤ us.length + 1
  | [], _, _, _, .nil, .nil, _, _ => ⟨[z], [v], [u], rfl, .cons rv .nil, .cons rd .nil, rfl, rfl, Nat.le_refl _⟩
  | _ :: _, [], [], [], .nil, .nil, hl, _ => by simp at hl
  | [], _ :: _, _ :: _, _ :: _, .cons _ _, .cons _ _, hl, _ => by simp at hl
  | y :: zs, w :: vs, q :: us, e :: ds, .cons r1 r2, .cons k1 k2, hl, nd => by
    have nd' := List.nodup_cons.mp nd
    by_cases h : y = z
    · subst h
      refine ⟨y :: zs, v :: vs, u :: us, ?_, .cons rv r2, ?_, ?_, hl, Nat.le_succ _⟩
      · unfold stored
        rw [if_pos (by simp [txtPairs])]
        show (if (Leaf.text y) = Leaf.text y then (Leaf.text y, u) else (Leaf.text y, q)) :: (txtPairs zs us).map _ = (Leaf.text y, u) :: txtPairs zs us
        rw [if_pos rfl]
        congr 1
        conv => rhs; rw [← List.map_id (txtPairs zs us)]
        apply List.map_congr_left
        intro p hp
        rw [if_neg]
        · rfl
        · intro e
          apply nd'.1
          rw [← e]
          have : p.1 ∈ (txtPairs zs us).map (·.1) := List.mem_map_of_mem hp
          rw [zip_fst_txt (by simpa using hl)] at this
          exact this
      · have : eqv (.s y) (.s y) = true := by simp [eqv, toPy, PyData.eqv]
        show Reps T H (v :: vs) (if eqv (.s y) (.s y) = true then ((D.s y) :: zs.map D.s, d :: ds) else _).2
        rw [if_pos this]
        exact .cons rd k2
      · have : eqv (.s y) (.s y) = true := by simp [eqv, toPy, PyData.eqv]
        show (if eqv (.s y) (.s y) = true then ((D.s y) :: zs.map D.s, d :: ds) else _).1 = _
        rw [if_pos this]; rfl
    · obtain ⟨zs', vs', us', a1, a2, a3, a4, a5, a6⟩ := put_txt (vs := vs) (ds := ds) rv rd z r2 k2 (by simpa using hl) nd'.2
      have hne : eqv (.s y) (.s z) = false := by simp [eqv, toPy, PyData.eqv, h]
      have hp : putD ((y :: zs).map D.s) (e :: ds) (.s z) d = (.s y :: (putD (zs.map D.s) ds (.s z) d).1, e :: (putD (zs.map D.s) ds (.s z) d).2) := by
        show (if eqv (.s y) (.s z) = true then _ else _) = _
        rw [if_neg (by rw [hne]; exact Bool.false_ne_true)]
      have hlne : ¬ (Leaf.text y = Leaf.text z) := fun q => h (by injection q)
      refine ⟨y :: zs', w :: vs', q :: us', ?_, .cons r1 a2, by rw [hp]; exact .cons k1 a3, by rw [hp, a4]; rfl, by simp [a5], by simp; omega⟩
      show stored ((Leaf.text y, q) :: txtPairs zs us) (.text z) u = (Leaf.text y, q) :: txtPairs zs' us'
      rw [← a1]
      unfold stored
      rw [List.any_cons]
      simp only [hlne, decide_false, Bool.false_or]
      split
      · rw [List.map_cons, if_neg hlne]
      · rfl

/-! ### d[k] = v -/
def rSetT (T : Fx) : TSet := fun o i v H Q => ∃ (a : Addr) (z : Str) (ob : Obj) (vs : List V) (zs : List Str) (ds : List D) (d : D), o = .ref a ∧ i = .str z ∧ H a = some (.ext (rawAt a ob)) ∧ DictO T.w ob (zs.map V.str) vs (zs.map D.s) ∧ vs.length < sizeLine ∧ Reps T H vs ds ∧ Rep T H v d ∧
  ∀ (ob' : Obj) (vs' : List V) (zs' : List Str), DictO T.w ob' (zs'.map V.str) vs' (zs'.map D.s) → Reps T H vs' (putD (zs.map D.s) ds (.s z) d).2 → (putD (zs.map D.s) ds (.s z) d).1 = zs'.map D.s → Q (upd H a (.ext (rawAt a ob')))
theorem set_text (hw : X.w = T.w) : PSet X (rSetT T) := by
  intro pins s σ H o i v ov iv u Q I ro ri rv ⟨a, z, ob, vs, zs, ds, d, eo, ei, ha, x, hl, r1, r2, q⟩
  subst eo ei
  cases ro
  obtain ⟨t, rfl⟩ := ri
  obtain ⟨e, _, _⟩ := I.hok a _ ha
  have e : s.heap.get? a = some ob := e
  obtain ⟨us, k1, k2, k3⟩ := txt_in (P := X.prog) e x
  rw [← hw] at k3
  have hlu := k1.length
  obtain ⟨_, _, _, nd, _⟩ := id x
  have ndz := txt_nodup nd
  refine wpAny_setItem_pairs (k := Leaf.text z) (isStr_self z t) k3 (fun h' dd sb => ?_) (by rw [show (txtPairs zs us).length = us.length by unfold txtPairs; rw [List.length_zip, List.length_map]; omega]; omega)
  obtain ⟨zs', vs', us', p1, p2, p3, p4, p5, p6⟩ := put_txt rv r2 z k1 r1 k2 ndz (vs := []) (ds := [])
  rw [p1, hw] at dd
  obtain ⟨ob', e', x'⟩ := txt_out dd p2 p5 (by omega)
  refine ⟨_, I.write (x := a) (e := a) (o := .ext (rawAt a ob')) (t' := s.toks + 1) (by rw [ha]; trivial) (.inl rfl) (fun b w hb hq => (sb.2 b hb).trans hq) ⟨_, e'⟩ (raw_ok e'), q ob' vs' zs' x' p3 p4⟩
/-- the slot's own dict at hand -/
def ownD (j : Nat) (f : List D → List D → MS) : MS := fun r s => match r[j]? with
  | some (some (.o1 (.m dk dv))) => f dk dv r s
  | _ => .bad
def txtKeys (dk : List D) (k : D) : Bool := (strsOf dk).isSome && isStr k
def sSetKey (j : Nat) (m mi : M) : MS := sE m fun d r s => ownD j (fun dk dv => sE mi fun k r s => if (txtKeys dk k && decide (dv.length < sizeLine)) = true then .nx (r.set j (some (.o1 (.m (putD dk dv k d).1 (putD dk dv k d).2)))) s else .bad) r s
theorem ERF.ownDict {aS : Option Addr} {H : Hp} {σ : L2.St} {r : En} {S : Sg} {F : Nat → List Addr} {j : Nat} {dk dv : List D} (g : ERF T aS H σ r S F) (q : r[j]? = some (some (.o1 (.m dk dv)))) :
    ∃ a ks vs, σ[j]? = some (some (.ref a)) ∧ F j = [a] ∧ OwD T H a ks vs dk ∧ Reps T H ks dk ∧ Reps T H vs dv := by
  obtain ⟨v, h1, h2⟩ := g.sl j _ q
  obtain ⟨a, ks, vs, rfl, e2, h, r, q⟩ := h2
  exact ⟨a, ks, vs, h1, e2, h, r, q⟩
theorem stb_ext {H : Hp} {a : Addr} {φ : Heap → Prop} {u : HO} (h : H a = some (.ext φ)) : Stb H (upd H a u) := stb_upd h ⟨fun _ z => (by cases z), fun _ _ z => (by cases z)⟩
theorem reps_txt {H : Hp} : ∀ {ks : List V} {zs : List Str}, Reps T H ks (zs.map D.s) → ks = zs.map V.str
  | [], [], _ => rfl
  | k :: ks, z :: zs, h => by
    have h : Reps T H (k :: ks) (D.s z :: zs.map D.s) := h
    cases h with | cons h1 h2 => cases h1; rw [reps_txt h2]; rfl
  | [], _ :: _, h => by cases h
  | _ :: _, [], h => by cases h
theorem strs_reps {H : Hp} (zs : List Str) : Reps T H (zs.map V.str) (zs.map D.s) := reps_strs zs
variable {fr : Bool}
theorem ds_setKey (j : Nat) {x : Str} {e ei : Expr} {m mi : M} {p p3 pos : Pos} (h : DE X T W .val e m) (hi : DE X T W .val ei mi) (hN : X.N[j]? = some x := by rfl) (hv : Vis X.env.scope x := by first | exact Or.inl rfl | exact Or.inr (Or.inl rfl) | exact Or.inr (Or.inr rfl)) (hd : (x == ("__debug__" : Str)) = false := by decide)
    (hcd : (x == ("__classdict__" : Str)) = false := by decide) (hw2 : X.w = T.w := by rfl)
    (hs : swapsWithSole [.Subscript (.Name x p) ei p3] e pos.line X.env = pure false := by rfl) (hw : swappedStores [.Subscript (.Name x p) ei p3] e X.env = pure none := by rfl)
    (h1 : (assignEach [.Subscript (.Name x p) ei p3] X.env).map (·.2) = [assign (.Subscript (.Name x p) ei p3) X.env] := by rfl)
    (ha : ∀ v, assign (.Subscript (.Name x p) ei p3) X.env v = (do
      let ov ← holding [v] (eval (.Name x p) X.env)
      let iv ← holding [v, ov] (eval ei X.env)
      standAt p3
      holding [v, ov, iv] (setItem ov iv v)
      release [v, ov, iv] []) := by intro _; rfl) :
    DS X T W fr (.Assign [.Subscript (.Name x p) ei p3] e pos) (sSetKey j m mi) := by
  intro N c
  refine PS.imp (ps_asg h (pg_sub (pe_var hN hv hd hcd) hi (set_text hw2) ha) hs hw h1) fun E σ H q => tE_of c q fun r aS S S' d v H' e x e' nh km p => ?_
  unfold ownD at p
  split at p
  · rename_i dk dv qj
    obtain ⟨F, g⟩ := id e'
    obtain ⟨a, ks, vs, h1, h2, h3, h4, h5⟩ := g.ownDict qj
    refine ⟨.ref a, h1, r, aS, S', e', ?_⟩
    unfold sE at p
    dsimp only at p
    cases q2 : mi r S' with
    | bad => rw [q2] at p; exact p
    | exc ce S1 => rw [q2] at p; exact fun H' x a => p σ H' aS (e'.ext x a) (c _ _ x.stb nh)
    | ok di S1 =>
      rw [q2] at p
      intro w H1 x1 m1 k1
      have k1 : Rep T H1 w di := k1
      have p : PostS T N W fr E (if (txtKeys dk di && decide (dv.length < sizeLine)) = true then .nx (r.set j (some (.o1 (.m (putD dk dv di d).1 (putD dk dv di d).2)))) S1 else .bad) := p
      split at p
      · rename_i hok
        rw [Bool.and_eq_true, decide_eq_true_eq] at hok
        unfold txtKeys at hok
        rw [Bool.and_eq_true] at hok
        obtain ⟨zs, hzs⟩ := Option.isSome_iff_exists.mp hok.1.1
        have := strsOf_map hzs
        subst this
        obtain ⟨F1, g1⟩ := e'.ext x1 m1
        obtain ⟨a', ks', vs', h1', h2', h3', h4', h5'⟩ := g1.ownDict qj
        have : V.ref a' = V.ref a := by rw [h1] at h1'; exact (Option.some.inj (Option.some.inj h1')).symm
        cases this
        have ek := reps_txt h4'
        subst ek
        obtain ⟨na, ob, hob, hdo⟩ := h3'
        cases k1 with
        | s z =>
          refine ⟨a, z, ob, vs', zs, dv, d, rfl, rfl, hob, hdo, by rw [h5'.length]; exact hok.2, h5', Rep.ext x1 km, fun ob' ws zs' x' p3 p4 => ?_⟩
          have st := stb_ext (u := .ext (rawAt a ob')) hob
          have E2 : ER T aS (upd H1 a (.ext (rawAt a ob'))) σ (r.set j (some (.o1 (.m (putD (zs.map D.s) dv (.s z) d).1 (putD (zs.map D.s) dv (.s z) d).2)))) S1 :=
            ER.wr g1 qj (fun b o e n => by rw [upd_ne (by rintro rfl; exact n (by rw [h2']; simp))]; exact e) st h1' (e := .o1 (.m _ _)) (G := [a]) ⟨a, zs'.map V.str, ws, rfl, rfl, ⟨na, ob', upd_same, by rw [p4]; exact x'⟩, by rw [p4]; exact strs_reps zs', Reps.stb st p3⟩ fun b hb => .inl (by rw [h2']; exact hb)
          exact p _ _ aS E2 (c _ _ (x1.stb.trans st) nh)
        | _ => exact absurd hok.1.2 Bool.false_ne_true
      · exact p.elim
  · exact p.elim

/-! ### {k: v} -/
def dDict1 (mk mv : M) : M := fun r s => (mk r s).bind fun k s1 => (mv r s1).bind fun v s2 => if isStr k = true then .ok (.m [k] [v]) s2 else .bad
theorem de_dict1 {k v : Expr} {mk mv : M} {pos : Pos} (hk : DE X T W .val k mk) (hv : DE X T W .val v mv) (hw : X.w = T.w := by rfl) : DE X T W .f1 (.Dict [some k] [v] pos) (dDict1 mk mv) := by
  refine ⟨fun pins s σ H Q I ⟨r, aS, S, E, p⟩ => ?_⟩
  have hp := I.hok.fresh (Nat.le_refl s.heap.objs.size)
  have hb : ((s.heap.objs.size : Addr) == sysModules) = false := beq_eq_false_iff_ne.mpr (Nat.ne_of_gt I.big)
  generalize hob : ({ cls := .type "dict", data := .dict #[] } : Obj) = ob0
  have I1 : Inv X pins σ (upd H s.heap.objs.size (.ext (rawAt s.heap.objs.size ob0))) { s with heap := s.heap.push ob0 } := I.laid (a := s.heap.objs.size) (t' := s.toks) (fun _ _ q => Heap.get?_push_of_some _ q) (Nat.le_refl _) (raw_ok (Heap.get?_push_size _ (by rw [← hob]; rfl)))
  have x0 : Ext aS H (upd H s.heap.objs.size (.ext (rawAt s.heap.objs.size ob0))) := Ext.upd hp
  have m0 := E.amb.new (o := .ext (rawAt s.heap.objs.size ob0)) hp
  have nS : aS ≠ some s.heap.objs.size := E.amb.newNe hp
  refine wpAny_Dict_walk (knd := leafKind X.prog X.w) rfl rfl (by simp) (by simp) ?_
  rw [hob]
  refine pairTrees_cons_walk (thn (hk.run pins _ σ _ (fun kx H1 => ∃ kd S1, Ext aS (upd H s.heap.objs.size (.ext (rawAt s.heap.objs.size ob0))) H1 ∧ Amb T aS H1 S1 ∧ Rep T H1 kx kd ∧ Post T W aS H σ .f1 Q ((mv r S1).bind fun v s2 => if isStr kd = true then .ok (.m [kd] [v]) s2 else .bad)) I1 ⟨r, aS, S, E.ext x0 m0, ?_⟩) fun ku s1 ⟨kx, H1, I2, rk, kd, S1, x1, m1, k1, p⟩ => ?_)
  · unfold dDict1 at p
    cases q : mk r S with
    | bad => rw [q] at p; exact p
    | exc ce S1 => rw [q] at p; exact fun H' x a => p H' (x0.trans x) a
    | ok d S1 => rw [q] at p; exact fun kx H1 x m k => ⟨d, S1, x, m, k, p⟩
  · refine thn (hv.run pins _ σ _ (fun vx H2 => ∃ vd S2, Ext aS H1 H2 ∧ Amb T aS H2 S2 ∧ Rep T H2 vx vd ∧ Post T W aS H σ .f1 Q (if isStr kd = true then .ok (.m [kd] [vd]) S2 else .bad)) I2 ⟨r, aS, S1, E.ext (x0.trans x1) m1, ?_⟩) fun vu s2 ⟨vx, H2, I3, rv, vd, S2, x2, m2, k2, p⟩ => ?_
    · cases q : mv r S1 with
      | bad => rw [q] at p; exact p
      | exc ce S2 => rw [q] at p; exact fun H' x a => p H' ((x0.trans x1).trans x) a
      | ok d S2 => rw [q] at p; exact fun vx H2 x m k => ⟨d, S2, x, m, k, p⟩
    · refine pairTrees_nil_walk ?_
      have hH2 : H2 s.heap.objs.size = some (.ext (rawAt s.heap.objs.size ob0)) := x2 _ _ (x1 _ _ upd_same fun ⟨_, z⟩ => nomatch z) fun ⟨_, z⟩ => nomatch z
      obtain ⟨e0, _, _⟩ := I3.hok _ _ hH2
      have e0 : s2.heap.get? s.heap.objs.size = some ob0 := e0
      have X2 := (x0.trans x1).trans x2
      split at p
      · rename_i hs
        cases kd with
        | s z =>
          have k1' : Rep T H1 kx (.s z) := k1
          cases k1'
          obtain ⟨t, rfl⟩ := rk
          refine ⟨[(.text z, vu)], ⟨isStr_self z t, rfl, trivial⟩, ⟨ob0, #[], 0, e0, by rw [← hob]; exact ⟨rfl, rfl, rfl⟩, by rw [← hob], fun e he => by simp at he, .nil, List.nodup_nil⟩, fun h' dd sb => ?_⟩
          have dd : h'.DictOf (leafKind X.prog T.w) s.heap.objs.size (txtPairs [z] [vu]) := by rw [← hw]; exact dd
          obtain ⟨ob', e', x'⟩ := txt_out dd (.cons rv .nil) rfl (by show 1 ≤ sizeLine; rw [sizeLine_eq]; omega)
          have st := stb_ext (u := .ext (rawAt s.heap.objs.size ob')) hH2
          have xf : Ext aS H (upd H2 s.heap.objs.size (.ext (rawAt s.heap.objs.size ob'))) := fun b o e c => by
            rw [upd_ne (ne_of_none e hp)]; exact X2 b o e c
          refine ⟨.ref s.heap.objs.size, _, I3.write (x := s.heap.objs.size) (e := s.heap.objs.size) (o := .ext (rawAt s.heap.objs.size ob')) (t' := s2.toks + 1) (by rw [hH2]; trivial) (.inl rfl) (fun b w hb hq => (sb.2 b hb).trans hq) ⟨_, e'⟩ (raw_ok e'), rfl, ?_⟩
          refine p _ _ xf (fun a ea => ?_) ⟨[s.heap.objs.size], ⟨_, _, _, rfl, rfl, ⟨hb, ob', upd_same, x'⟩, strs_reps [z], .cons (Rep.stb st k2) .nil⟩, fun b hb => by rw [List.mem_singleton.mp hb]; exact hp⟩
          obtain ⟨n, us, h1, h2⟩ := m2 a ea
          exact ⟨n, us, by rw [upd_ne (by rintro rfl; exact nS ea)]; exact h1, Reps.stb st h2⟩
        | _ => exact absurd hs Bool.false_ne_true
      · exact p.elim
end
end DL

/-! DL19: the drawing state made; defs with their facts; what the head tells. -/
namespace DL
open PySem PySem.Spec PyProof.Rows L2
/-- no other slot is a drawing state -/
def noStE (j : Nat) (r : En) : Bool := (r.set j none).all fun e => match e with
  | some .st => false
  | _ => true
theorem noStE_ok {j : Nat} {r : En} (h : noStE j r = true) {i : Nat} (hi : i ≠ j) : r[i]? ≠ some (some .st) := by
  intro e
  have e2 : (r.set j none)[i]? = some (some .st) := by rw [List.getElem?_set_ne (Ne.symm hi)]; exact e
  have := List.all_eq_true.mp h _ (List.mem_of_getElem? e2)
  cases this
section
variable {X : Cx} {T : Fx} {W : WX} {fr : Bool}
/-- x = a new list: it is the drawing state from now on -/
def sSetSt (j : Nat) (m : M) : MS := fun r s => match m r s with
  | .ok (.l ds) _ => if (decide (j < r.length) && noStE j r) = true then .nx (r.set j (some .st)) ds else .bad
  | .ok _ _ => .bad
  | .exc c s1 => .exc c r s1
  | .bad => .bad
theorem SlOk.st {aS aS' : Option Addr} {H : Hp} {v : V} {e : Sl} {F : List Addr} (h : SlOk T aS H v e F) (n : ∀ b ∈ F, aS' ≠ some b) (hn : e ≠ .st) : SlOk T aS' H v e F := by
  have one : ∀ {v d F}, Ow1 T aS H v d F → (∀ b ∈ F, aS' ≠ some b) → Ow1 T aS' H v d F := fun {v d F} h n => Ow1.re rfl rfl rfl h n
  have many : ∀ {vs ds F}, Ow1s T aS H vs ds F → (∀ b ∈ F, aS' ≠ some b) → Ow1s T aS' H vs ds F := fun {vs ds F} h => by
    induction h with
    | nil => exact fun _ => .nil
    | cons h _ k ih => exact fun n => .cons (one h fun b hb => n b (List.mem_append_left _ hb)) (ih fun b hb => n b (List.mem_append_right _ hb)) k
  cases e with
  | val d => exact h
  | o1 d => exact one h n
  | st => exact absurd rfl hn
  | o2 d =>
    cases d with
    | l ds => obtain ⟨a, vs, G, e1, e2, e3, na, h, r⟩ := h; exact ⟨a, vs, G, e1, e2, e3, n a (by rw [e2]; simp), h, many r fun b hb => n b (by rw [e2]; exact List.mem_cons_of_mem _ hb)⟩
    | m dk dv => obtain ⟨a, ks, vs, G, e1, e2, e3, h, r, hs⟩ := h; exact ⟨a, ks, vs, G, e1, e2, e3, h, r, many hs fun b hb => n b (by rw [e2]; exact List.mem_cons_of_mem _ hb)⟩
    | n => exact h
    | b _ => exact h
    | i _ => exact h
    | s _ => exact h
    | t _ => exact h
    | x _ => exact h
    | k _ => exact h
theorem ds_setSt (j : Nat) {x : Str} {e : Expr} {m : M} {pos pos' : Pos} (h0 : T.a0 = none) (hN : X.N.Nodup) (h : DE X T W .f1 e m) (hi : X.N[j]? = some x := by rfl) (hx : Loc X.env.scope x := by first | exact Or.inl rfl | exact Or.inr rfl) (hs : swapsWith e (some (.Name x pos')) pos.line X.env = pure false := by rfl)
    (hf : X.fn x = true ∨ X.env.scope.names.lookup x = some .local := by first | exact .inl rfl | exact .inr rfl) (hK : X.K = T.K := by rfl) : DS X T W fr (.Assign [.Name x pos'] e pos) (sSetSt j m) := by
  intro N c
  refine ⟨fun pins s σ H E I q => ?_⟩
  obtain ⟨r, aS, S, er, nh, p⟩ := q
  have run := (ps_set hN hi hx h hs hf).run pins s σ H { E with nx := fun σ' H' => ∀ s', Inv X pins σ' H' s' → E.nx σ' H' } I ⟨r, aS, S, er, ?_⟩
  · refine wpAny_mono run (fun f s1 sp => ?_) fun _ _ z => z
    cases f with
    | next => obtain ⟨σ', H', I', q⟩ := sp; exact ⟨σ', H', I', q s1 I'⟩
    | brk => exact sp
    | cont => exact sp
    | ret u => exact sp
  · unfold sSetSt at p
    cases qm : m r S with
    | bad => rw [qm] at p; exact p
    | exc ce S1 => rw [qm] at p; exact fun H' x a => p σ H' aS (er.ext x a) (c _ _ x.stb nh)
    | ok d S1 =>
      rw [qm] at p
      rintro v H' x1 m1 ⟨G, k1, k2⟩ s' I'
      cases d with
      | l ds =>
        have p : PostS T N W fr E (if (decide (j < r.length) && noStE j r) = true then .nx (r.set j (some .st)) ds else .bad) := p
        split at p
        · rename_i hc
          rw [Bool.and_eq_true, decide_eq_true_eq] at hc
          obtain ⟨a, vs, rfl, rfl, na, ha, rr⟩ := k1
          have hHa := k2 a (by simp)
          have kn : T.K.lookup a = none := by
            cases q : T.K.lookup a with
            | none => rfl
            | some o =>
              have kb : X.base.get? a = some o := I'.ok.mod.kin a o (by rw [hK]; exact q)
              have := (I'.bs a o kb).2
              rw [ha] at this; cases this
          obtain ⟨F, g⟩ := er.ext x1 m1
          obtain ⟨F0, g0⟩ := er
          have fresh := g0.fresh (G := [a]) (fun b hb => by rw [List.mem_singleton.mp hb]; exact hHa) a (by simp)
          have apF : ∀ i b, b ∈ F0 i → some a ≠ some b := fun i b hb z => fresh.2 i (by cases z; exact hb)
          refine p _ H' (some a) ⟨fun i => if i = j then [] else F0 i, fun b eb => ?_, by rw [List.length_set, List.length_set, g0.len], fun i z hz => ?_, fun i hz => ?_, fun i l b hil hb => ?_, fun i b hb => ?_, g.ext, .inr ⟨h0, fun b eb => by cases eb; exact fresh.1⟩⟩ (c _ _ x1.stb nh)
          · cases eb; exact ⟨kn, vs, ha, rr⟩
          · by_cases hij : i = j
            · subst hij
              rw [List.getElem?_set_self hc.1] at hz
              cases hz
              exact ⟨.ref a, by rw [List.getElem?_set_self (by rw [g0.len]; exact hc.1)], by rw [if_pos rfl]; exact ⟨rfl, a, rfl, rfl⟩⟩
            · rw [List.getElem?_set_ne (Ne.symm hij)] at hz
              obtain ⟨u, h3, h4⟩ := g0.sl i z hz
              refine ⟨u, by rw [List.getElem?_set_ne (Ne.symm hij)]; exact h3, ?_⟩
              rw [if_neg hij]
              refine SlOk.st (h4.ext x1) (fun b hb => apF i b hb) ?_
              rintro rfl
              exact noStE_ok hc.2 hij hz
          · by_cases hij : i = j
            · exact if_pos hij
            · rw [List.getElem?_set_ne (Ne.symm hij)] at hz
              show (if i = j then [] else F0 i) = []
              rw [if_neg hij]; exact g0.no i hz
          · show b ∉ (if l = j then [] else F0 l)
            have hb : b ∈ (if i = j then [] else F0 i) := hb
            split at hb
            · exact absurd hb (by simp)
            · split
              · simp
              · exact g0.dj i l b hil hb
          · have hb : b ∈ (if i = j then [] else F0 i) := hb
            split at hb
            · exact absurd hb (by simp)
            · exact ⟨(g0.new i b hb).1, apF i b hb⟩
        · exact p.elim
      | _ => exact p.elim
end
/-! ### defs that hand a new list back -/
def runFr (sg : List Bool) (n : Nat) (m : MS) : Fn := fun ds s => if ds.length = (sg.filter (!·)).length then (match m (envOf sg ds ++ List.replicate (n - sg.length) none) s with
  | .ret d s' => .ok d s'
  | .exc c _ s' => .exc c s'
  | _ => .bad) else .bad
def runG (fr : Bool) (sg : List Bool) (n : Nat) (m : MS) : Fn := if fr = true then runFr sg n m else runF sg n m
/-- a def with its facts -/
theorem fn_okD {P : Program} {w : World} {K : PySem.W.Frag} {mg : Str → Option Value} {base : Heap} {cl : Nat → Addr} {x qual : Str} {params : Arguments} {body : List Stmt} {scope : Scope} {dvs : List V} {kws : List (Str × V)} {f : Addr} {fd : FuncData} {N ps : List Str} {k : Nat} {sg : List Bool} {fr : Bool} {m : MS}
    (F : FunD K x qual params body scope dvs kws f fd) (S : FnScope N ps scope) (hp : ps.length = sg.length)
    (hbody : ∀ (cdv : Value) (A : Around) (outer : List Env) (s : Shared) (H : Hp) (E : XK) (a0 : Option Addr), Room k (A.deeper (envOfC qual scope s.heap.objs.size f cdv)) → (noSt sg = true → a0 = none ∨ True) →
      DSs (cxOf (L2.CX P w) P w K mg base N qual scope f cdv A outer s H E) ⟨K, w, cl, H, a0⟩ (fun c d _ H => E c d H) fr body m) :
    FnOk P w K mg base (L2.CX P w) (k + 1) f fd ps (spD K w cl sg fr (runG fr sg N.length m)) := by
  refine F.ok S (spD_len hp) fun cdv A outer s H vs Q E hr h => ?_
  obtain ⟨hl, ds, a0, S0, a, am, p⟩ := h
  refine ⟨_, hbody cdv A outer s H E a0 hr (fun _ => .inr trivial) (fun _ => True) (fun _ _ _ h => h), ?_⟩
  refine ⟨envOf sg ds ++ List.replicate (N.length - sg.length) none, a0, S0, ER.start a am, trivial, ?_⟩
  have am' : ∀ {σ' H' aS' r s'}, ER ⟨K, w, cl, H, a0⟩ aS' H' σ' r s' → Amb ⟨K, w, cl, H, a0⟩ a0 H' s' := fun {σ' H' aS' r s'} e => by
    rcases e.st with z | ⟨z, _⟩
    · have z : aS' = a0 := z
      rw [← z]; exact e.amb
    · have z : a0 = none := z
      rw [z]; exact Amb.no
  unfold runG at p
  cases fr with
  | true =>
    rw [if_pos rfl] at p
    unfold runFr at p
    rw [if_pos a.lenD] at p
    cases q : m (envOf sg ds ++ List.replicate (N.length - sg.length) none) S0 with
    | nx r s' => rw [q] at p; exact p.elim
    | ret d s' => rw [q] at p; exact p
    | exc c r s' => rw [q] at p; exact fun σ' H' aS' e _ => p H' e.ext0 (am' e)
    | brk r s' => rw [q] at p; exact p.elim
    | cont r s' => rw [q] at p; exact p.elim
    | bad => rw [q] at p; exact p.elim
  | false =>
    rw [if_neg Bool.false_ne_true] at p
    unfold runF at p
    rw [if_pos a.lenD] at p
    cases q : m (envOf sg ds ++ List.replicate (N.length - sg.length) none) S0 with
    | nx r s' => rw [q] at p; exact fun σ' H' aS' e _ => p .non H' ⟨e.ext0, am' e, .n⟩
    | ret d s' => rw [q] at p; exact p
    | exc c r s' => rw [q] at p; exact fun σ' H' aS' e _ => p H' e.ext0 (am' e)
    | brk r s' => rw [q] at p; exact p.elim
    | cont r s' => rw [q] at p; exact p.elim
    | bad => rw [q] at p; exact p.elim
/-- behind the top, without defaults -/
theorem defOkN {P : Program} {w : World} {K : PySem.W.Frag} {mg : Str → Option Value} {base : Heap} {cl : Nat → Addr} {x qual : Str} {params : Arguments} {body : List Stmt} {scope : Scope} {kws : List (Str × V)} {f : Addr} {fd : FuncData} {ps : List Str} {k : Nat} {sg : List Bool} {fr : Bool} {G : Fn}
    (F : FunD K x qual params body scope [] kws f fd) (hF : FnOk P w K mg base (L2.CX P w) k f fd ps (spD K w cl sg fr G)) (hm : mg x = some (.ref f))
    (hb : ∀ (kV doc pm : Value) (an : Option Addr) (cdv ct : Value) (us : List Value), us.length = ps.length → bindArgs (PySem.W.fnOf x qual params body scope .none kV doc pm an cdv ct) ⟨us, []⟩ = pure (ps.zip us)) : DefOk P w K mg base cl x k sg fr G [] :=
  ⟨f, fd, ps, hF, hm, F.kp, F.bindsN hb, [], [], .nil, F.bindsN hb, fun _ _ => .nil⟩
/-! ### what the head tells: facts, defs, and any further facts -/
def obsX (fa : List He.Fa) (fn : List He.DefD) (ex : List (PySem.W.Frag → Bool)) (K : PySem.W.Frag) : He.AlD := ((fa.all fun f => f.ok K) && (fn.all (fun d => d.ok K)) && ex.all (fun f => f K), fn.map fun d => He.fnW K d.at_)
def SaysX (fa : List He.Fa) (fn : List He.DefD) (ex : List (PySem.W.Frag → Bool)) (K : PySem.W.Frag) : Prop := obsX fa fn ex K = He.valD fn
def obsXG (n : Nat) (fa : List He.Fa) (fn : List He.DefD) (ex : List (PySem.W.Frag → Bool)) (g : Addr → Option Obj) : He.AlD := obsX fa fn ex (He.frG g (He.asD g n))
def hookX (n : Nat) (fa : List He.Fa) (fn : List He.DefD) (ex : List (PySem.W.Frag → Bool)) : PySem.W.Hook where
  α := He.AlD
  obs := fun s => obsXG n fa fn ex s.heap.get?
  val := fun _ => He.valD fn
  says := fun _ h => ∃ K : PySem.W.Frag, K.In h ∧ SaysX fa fn ex K
  of := fun _ _ e => ⟨_, He.frG_in, e⟩
  keeps := fun _ _ _ ⟨K, hK, c⟩ k => ⟨K, PySem.W.Frag.In.keeps hK k, c⟩
theorem obsXG_eq {n : Nat} {fa : List He.Fa} {fn : List He.DefD} {ex : List (PySem.W.Frag → Bool)} {g : Addr → Option Obj} {s : Shared} (h : ∀ a, g a = s.heap.get? a) : obsXG n fa fn ex g = (hookX n fa fn ex).obs s := by
  have e : g = s.heap.get? := funext h
  rw [e] <;> rfl
theorem SaysX.d {fa : List He.Fa} {fn : List He.DefD} {ex : List (PySem.W.Frag → Bool)} {K : PySem.W.Frag} (c : SaysX fa fn ex K) : He.SaysD fa fn K ∧ ∀ f ∈ ex, f K = true := by
  have c1 : ((fa.all fun f => f.ok K) && (fn.all (fun d => d.ok K)) && ex.all (fun f => f K)) = true := congrArg (fun z : He.AlD => z.1) c
  have c2 : fn.map (fun d => He.fnW K d.at_) = fn.map He.DefD.val := congrArg (fun z : He.AlD => z.2) c
  rw [Bool.and_eq_true] at c1
  refine ⟨?_, fun f hf => List.all_eq_true.mp c1.2 f hf⟩
  show He.obsD fa fn K = He.valD fn
  unfold He.obsD He.valD
  rw [c1.1, c2]
/-- the own error classes -/
def excs : List Str := ["StillError", "NoRoom", "NoYard", "NoWeaving", "NoUse", "NoGap", "NoSlot", "NoText", "TooMany"]
def clOf (K : PySem.W.Frag) (c : Nat) : Addr := He.ga K (excs.getD c "StillError")
def nine : List Nat := [0, 1, 2, 3, 4, 5, 6, 7, 8]
theorem nine_mem {c : Nat} (h : c < 9) : c ∈ nine := by unfold nine; simp; omega
def exMtch (K : PySem.W.Frag) : Bool := nine.all fun c => nine.all fun e => decide (PySem.W.exmOne K (.ref (clOf K c)) (.ref (clOf K e)) = some (c == e || e == 0))
def exMade (K : PySem.W.Frag) : Bool := nine.all fun c => PySem.W.excIn K (clOf K c) He.veBase "ValueError.__new__" && (PySem.W.keepIn K (.ref (clOf K c)) && (decide (PySem.W.subIn K (.ref (clOf K c)) (.type "BaseException") = some true) && decide (PySem.W.typeIn K (.ref (clOf K c)) = some (.type "type"))))
def exOwn (K : PySem.W.Frag) : Bool := nine.all fun c => nine.all fun e => decide (PySem.W.kitOne K (.ref (clOf K c)) (.ref (clOf K e)) = some (c == e || e == 0))
def exVal (K : PySem.W.Frag) : Bool := nine.all fun c => decide (PySem.W.kitOne K (.ref (clOf K c)) (.type "ValueError") = some true)
def bltN : List String := ["NoneType", "bool", "int", "str", "tuple", "list", "dict"]
def exBlt (K : PySem.W.Frag) : Bool := bltN.all fun n => nine.all fun c => decide (PySem.W.kitOne K (.type n) (.ref (clOf K c)) = some false)
def exAt (K : PySem.W.Frag) : Bool := nine.all fun c => He.eqO (PySem.W.findIn K (.ref (clOf K c)) "__getattribute__") (some (some (.builtin "BaseException.__getattribute__"))) && (He.eqO (PySem.W.findIn K (.ref (clOf K c)) "__getattr__") (some none) &&
  (PySem.W.hasDictIn K (clOf K c) && (He.eqO (PySem.W.findIn K (.ref (clOf K c)) "__class__") (some (some (.builtin "object.__class__"))) && decide (PySem.W.mroIn K (clOf K c) (.type "object") = some true))))
def exGs (K : PySem.W.Frag) : Bool := He.eqO (PySem.W.specialIn K (.builtin "object.__class__") "__get__") (some (some (.builtin "getset_descriptor.__get__"))) && decide (PySem.W.takesIn K (.builtin "object.__class__") = some true)
def exAll : List (PySem.W.Frag → Bool) := [exMtch, exMade, exOwn, exVal, exBlt, exAt, exGs]
theorem errF_of {K : PySem.W.Frag} {w : World} {H0 : Hp} {a0 : Option Addr} (h : ∀ f ∈ exAll, f K = true) : ErrF ⟨K, w, clOf K, H0, a0⟩ := by
  have h1 := h exMtch (by simp [exAll])
  have h2 := h exMade (by simp [exAll])
  have g2 : ∀ c, c < 9 → _ := fun c hc => List.all_eq_true.mp h2 c (nine_mem hc)
  refine ⟨fun c hc => (He.ba (g2 c hc)).1, fun c hc => (He.ba (He.ba (g2 c hc)).2).1, fun c hc => of_decide_eq_true (He.ba (He.ba (He.ba (g2 c hc)).2).2).1, fun c hc => of_decide_eq_true (He.ba (He.ba (He.ba (g2 c hc)).2).2).2, fun c e hc he => ?_⟩
  exact of_decide_eq_true (List.all_eq_true.mp (List.all_eq_true.mp h1 c (nine_mem hc)) e (nine_mem he))
theorem isiF_of {K : PySem.W.Frag} {w : World} {H0 : Hp} {a0 : Option Addr} (h : ∀ f ∈ exAll, f K = true) : IsiF ⟨K, w, clOf K, H0, a0⟩ := by
  have h1 := h exOwn (by simp [exAll])
  have h2 := h exVal (by simp [exAll])
  have h3 := h exBlt (by simp [exAll])
  have h4 := h exAt (by simp [exAll])
  have h5 := h exGs (by simp [exAll])
  have h6 := h exMade (by simp [exAll])
  refine ⟨fun c e hc he => of_decide_eq_true (List.all_eq_true.mp (List.all_eq_true.mp h1 c (nine_mem hc)) e (nine_mem he)), fun c hc => of_decide_eq_true (List.all_eq_true.mp h2 c (nine_mem hc)), fun n hn c hc => of_decide_eq_true (List.all_eq_true.mp (List.all_eq_true.mp h3 n hn) c (nine_mem hc)), fun c hc => ?_⟩
  have g4 := List.all_eq_true.mp h4 c (nine_mem hc)
  have g6 := List.all_eq_true.mp h6 c (nine_mem hc)
  obtain ⟨a1, a2⟩ := He.ba g4
  obtain ⟨b1, b2⟩ := He.ba a2
  obtain ⟨c1, c2⟩ := He.ba b2
  obtain ⟨d1, d2⟩ := He.ba c2
  obtain ⟨e1, e2⟩ := He.ba h5
  exact ⟨He.eqO_ok a1, He.eqO_ok b1, of_decide_eq_true (He.ba (He.ba (He.ba g6).2).2).1, c1, He.eqO_ok d1, He.eqO_ok e1, of_decide_eq_true e2, of_decide_eq_true d2⟩
end DL

/-! DL20: the law's own def. -/
namespace DL
open PySem PySem.Spec PyProof.Rows L2
def lawEnv (n : Nat) (ns : List Int) : En := some (.val (.k (ns.map D.i))) :: List.replicate (n - 1) none
def spL (K : PySem.W.Frag) (n : Nat) (m : MS) : Sp := fun vs H Q _ => ∃ a ns, vs = [.ref a] ∧ Only H ∧ SqL K H a (ns.map V.int) ∧ (∃ s', m (lawEnv n ns) [] = .ret (.b true) s') ∧ ∀ H', Q (.bl true) H'
theorem reps_ints {T : Fx} {H : Hp} : ∀ ns : List Int, Reps T H (ns.map V.int) (ns.map D.i)
  | [] => .nil
  | n :: ns => .cons (.i n) (reps_ints ns)
theorem law_okD {P : Program} {w : World} {K : PySem.W.Frag} {mg : Str → Option Value} {base : Heap} {cl : Nat → Addr} {x qual : Str} {params : Arguments} {body : List Stmt} {scope : Scope} {dvs : List V} {kws : List (Str × V)} {f : Addr} {fd : FuncData} {N : List Str} {p : Str} {k : Nat} {m : MS}
    (F : FunD K x qual params body scope dvs kws f fd) (S : FnScope N [p] scope)
    (hbody : ∀ (cdv : Value) (A : Around) (outer : List Env) (s : Shared) (H : Hp) (E : XK), Room k (A.deeper (envOfC qual scope s.heap.objs.size f cdv)) →
      DSs (cxOf (L2.CX P w) P w K mg base N qual scope f cdv A outer s H E) ⟨K, w, cl, H, none⟩ (fun c d _ H => E c d H) false body m) :
    FnOk P w K mg base (L2.CX P w) (k + 1) f fd [p] (spL K N.length m) := by
  refine F.ok S (fun vs H Q E h => by obtain ⟨a, ns, rfl, _⟩ := h; rfl) fun cdv A outer s H vs Q E hr h => ?_
  obtain ⟨a, ns, rfl, hO, hS, ⟨s', q⟩, hQ⟩ := h
  refine ⟨_, hbody cdv A outer s H E hr (fun _ => True) (fun _ _ _ h => h), ?_⟩
  have fz : FzK K H a (ns.map V.int) := by
    rcases hS with (z | ⟨o, z⟩) | z
    · rcases hO a with y | ⟨o, xs, y⟩
      · rw [y] at z; cases z
      · rw [y] at z; cases z
    · exact .inl ⟨o, z⟩
    · exact .inr z
  have ok : ArgOk ⟨K, w, cl, H, none⟩ none H [false] [.ref a] [.k (ns.map D.i)] := ⟨.k fz (reps_ints ns), trivial⟩
  refine ⟨lawEnv N.length ns, none, [], ER.start (sg := [false]) ok Amb.no, trivial, ?_⟩
  rw [q]
  intro v H' ⟨_, _, r⟩
  have r : Rep ⟨K, w, cl, H, none⟩ H' v (.b true) := r
  cases r
  exact hQ H'
/-- the head's last step, the exceptions told by the world -/
theorem walkX {l : PySem.W.OpenLaw} {n k : Nat} {q : Program} {loose : List Str} {XP : (Str → Option Value) → Heap → Prop} {YP : World → Heap → Prop} {d : DefRec} {CX : World → CXT} {x : Str} (hn : l.most = some n) (hn2 : n ≤ sizeLine) (hdf : d.params.defaults = []) (hr : Room k callerA)
    (G : ∀ (w : World) (mg : Str → Option Value) (fa : Addr) (h : Heap), YP w h → h.Ns mainGlobals mg → mg d.name = some (.ref fa) → ∃ (K : PySem.W.Frag) (fd : FuncData) (sp : Sp), K.In h ∧ (∀ (s : Shared) (u : Value), BindsTo s fd ⟨[u], []⟩ [(x, u)]) ∧
      (∀ (H : Hp) (a : Addr) (ns : List Int), ns.length ≤ n → Only H → SqL K H a (ns.map V.int) → sp [.ref a] H (fun v _ => v = .bl true) fun _ _ _ => False) ∧ ∀ base : Heap, K.In base → base.Ns mainGlobals mg → FnOk l.prog w K mg base (CX w) k fa fd [x] sp)
    (noX : ∀ (w : World) (H : Hp) (s : Shared) (e : Value) (s' : Shared), CX w [] H s (fun _ _ _ => False) e s' → False) : PySem.W.WalkO q loose XP YP l.row.toRowW d [] (fun f vs => PySem.call f vs) := by
  refine Att.attach_call hn hdf fun w s0 s1 mg mb fa o pm cd doc a vs ns TG Y ho hd hcd hmg hobj hints hlen hg => ?_
  obtain ⟨K, fd, sp, KX, bnd, spr, hF⟩ := G w mg fa _ Y TG.T.g hmg
  exact law_call KX TG.T.g TG.T.b TG.T.builtins TG.T.nolimit hg hobj hints (Nat.le_trans hlen hn2) hr hF bnd (fun H hO hS => spr H a ns hlen hO hS) fun H e s' => noX w H s1 e s'
theorem noCX {P : Program} {w : World} {H : Hp} {s : Shared} {e : Value} {s' : Shared} (z : L2.CX P w [] H s (fun _ _ _ => False) e s') : False := by
  obtain ⟨_, _, _, _, _, _, _, _, _, _, _, _, z⟩ := z
  exact z
end DL

/-! DL21: a dict beside a text. -/
namespace DL
open PySem PySem.Spec PyProof.Rows L2 PySem.SeqAt PySem.MeetsSeq PySem.AutoSeq1

theorem strDecl (b : Str) (u : Tok) (l : Addr) (ob : Obj) (es : Array DictEntry) (ep : Nat) :
    Meets (Builtin.«str.__eq__» ⟨[.str b u, .ref l], []⟩) (fun _ Q s => s.heap.get? l = some { ob with data := .dict es ep } ∧ Q (.ok (.ret .notImplemented)) s) :=
  .of_wp fun prog w A Q s h => by obtain ⟨hp, g, d, tk, os⟩ := s; obtain ⟨hl, h⟩ := h; wp_walk using wpAny_loadPart' hl, wpAny_load hl; exact ⟨_, rfl, h⟩
theorem strDeclN (b : Str) (u : Tok) (l : Addr) (ob : Obj) (es : Array DictEntry) (ep : Nat) :
    Meets (Builtin.«str.__ne__» ⟨[.str b u, .ref l], []⟩) (fun _ Q s => s.heap.get? l = some { ob with data := .dict es ep } ∧ Q (.ok (.ret .notImplemented)) s) :=
  .of_wp fun prog w A Q s h => by obtain ⟨hp, g, d, tk, os⟩ := s; obtain ⟨hl, h⟩ := h; wp_walk using wpAny_loadPart' hl, wpAny_load hl; exact ⟨_, rfl, h⟩
section
variable {prog : Program} {w : World} {A : Around} {E : Value → Shared → Prop} {s : Shared}
theorem dictDecl {l : Addr} {b : Str} {u : Tok} {Q : Value → Shared → Prop} (ht : s.TypeIs (.ref l) "dict") (h : Q .notImplemented s) : wpAny (model prog w) A (call (.builtin "dict.__eq__") [.ref l, .str b u]) Q E s := by
  refine wpAny_call_entry PySem.F.slot_dict_eq ht PySem.F.entry_dict_eq ?_ (PySem.F.args_dict_eq_2 _ _)
  show wpAny _ _ (Builtin.Dict.dictSlotArgs "__eq__" ⟨[.ref l, .str b u], []⟩ >>= _) _ _ s
  refine wpAny_bind ?_
  unfold Builtin.Dict.dictSlotArgs
  refine wpAny_bind (wpAny_notOrdered_dict ht ?_)
  show wpAny _ _ (pure (Value.ref l, Value.str b u)) _ _ s
  refine wpAny_pure ?_
  refine wpAny_bind (wpAny_isInstance (T := "str") (typeIs_str s b u) PySem.F.sub_str_dict ?_)
  simp only [Bool.not_false, if_true]
  exact wpAny_bind (wpAny_rule (wpAny_bind (wpAny_pure (wpAny_pure ⟨_, rfl, h⟩))))
theorem dictDeclN {l : Addr} {b : Str} {u : Tok} {Q : Value → Shared → Prop} (ht : s.TypeIs (.ref l) "dict") (h : Q .notImplemented s) : wpAny (model prog w) A (call (.builtin "dict.__ne__") [.ref l, .str b u]) Q E s := by
  refine wpAny_call_entry PySem.F.slot_dict_ne ht PySem.F.entry_dict_ne ?_ (PySem.F.args_dict_ne_2 _ _)
  show wpAny _ _ (Builtin.Dict.dictSlotArgs "__ne__" ⟨[.ref l, .str b u], []⟩ >>= _) _ _ s
  refine wpAny_bind ?_
  unfold Builtin.Dict.dictSlotArgs
  refine wpAny_bind (wpAny_notOrdered_dict ht ?_)
  show wpAny _ _ (pure (Value.ref l, Value.str b u)) _ _ s
  refine wpAny_pure ?_
  refine wpAny_bind (wpAny_isInstance (T := "str") (typeIs_str s b u) PySem.F.sub_str_dict ?_)
  simp only [Bool.not_false, if_true]
  exact wpAny_bind (wpAny_rule (wpAny_bind (wpAny_pure (wpAny_pure ⟨_, rfl, h⟩))))
theorem dictStrEq {l : Addr} {ob : Obj} {es : Array DictEntry} {ep : Nat} {b : Str} {u : Tok} {Q : Value → Shared → Prop} (ho : s.heap.get? l = some ob) (hc : ob.cls = .type "dict") (hd : ob.data = .dict es ep) (hu : A.units < cLine) (h : Q (.bool false) s) :
    wpAny (model prog w) A (richCompare .Eq (.ref l) (.str b u)) Q E s := by
  have ht : s.TypeIs (.ref l) "dict" := ⟨_, ho, hc⟩
  have e : ob = { ob with data := .dict es ep } := by cases ob; simp only at hd; rw [hd]
  have ho' := ho
  rw [e] at ho'
  exact rc_eq_decline_or (k := false) ht (typeIs_str s b u) (by decide) PySem.F.sub_str_dict PySem.F.slot_dict_eq PySem.F.slot_str_eq_refl
    (fun _ hq => dictDecl ht hq)
    (fun _ hq => call_meets PySem.F.slot_str_eq_refl (typeIs_str s b u) PySem.F.entry_str_eq (PySem.F.args_str_eq_2 _ _) (strDecl b u l ob es ep) ⟨ho', hq⟩)
    (fun _ hq => wpAny_of_eq (rfl : isSame (.ref l) (.str b u) = pure false) hq) (.inr hu) h
theorem strDictEq {l : Addr} {ob : Obj} {es : Array DictEntry} {ep : Nat} {b : Str} {u : Tok} {Q : Value → Shared → Prop} (ho : s.heap.get? l = some ob) (hc : ob.cls = .type "dict") (hd : ob.data = .dict es ep) (hu : A.units < cLine) (h : Q (.bool false) s) :
    wpAny (model prog w) A (richCompare .Eq (.str b u) (.ref l)) Q E s := by
  have ht : s.TypeIs (.ref l) "dict" := ⟨_, ho, hc⟩
  have e : ob = { ob with data := .dict es ep } := by cases ob; simp only at hd; rw [hd]
  have ho' := ho
  rw [e] at ho'
  exact rc_eq_decline_or (k := false) (typeIs_str s b u) ht (by decide) PySem.F.sub_dict_str PySem.F.slot_str_eq PySem.F.slot_dict_eq_refl
    (fun _ hq => call_meets PySem.F.slot_str_eq (typeIs_str s b u) PySem.F.entry_str_eq (PySem.F.args_str_eq_2 _ _) (strDecl b u l ob es ep) ⟨ho', hq⟩)
    (fun _ hq => dictDecl ht hq)
    (fun _ hq => wpAny_of_eq (rfl : isSame (.str b u) (.ref l) = pure false) hq) (.inr hu) h
theorem dictStrNe {l : Addr} {ob : Obj} {es : Array DictEntry} {ep : Nat} {b : Str} {u : Tok} {Q : Value → Shared → Prop} (ho : s.heap.get? l = some ob) (hc : ob.cls = .type "dict") (hd : ob.data = .dict es ep) (hu : A.units < cLine) (h : Q (.bool true) s) :
    wpAny (model prog w) A (richCompare .NotEq (.ref l) (.str b u)) Q E s := by
  have ht : s.TypeIs (.ref l) "dict" := ⟨_, ho, hc⟩
  have e : ob = { ob with data := .dict es ep } := by cases ob; simp only at hd; rw [hd]
  have ho' := ho
  rw [e] at ho'
  exact rc_ne_decline_or (k := false) ht (typeIs_str s b u) (by decide) PySem.F.sub_str_dict PySem.F.slot_dict_ne PySem.F.slot_str_ne_refl
    (fun _ hq => dictDeclN ht hq)
    (fun _ hq => call_meets PySem.F.slot_str_ne_refl (typeIs_str s b u) PySem.F.entry_str_ne (PySem.F.args_str_ne_2 _ _) (strDeclN b u l ob es ep) ⟨ho', hq⟩)
    (fun _ hq => wpAny_of_eq (rfl : isSame (.ref l) (.str b u) = pure false) hq) (.inr hu) h
theorem strDictNe {l : Addr} {ob : Obj} {es : Array DictEntry} {ep : Nat} {b : Str} {u : Tok} {Q : Value → Shared → Prop} (ho : s.heap.get? l = some ob) (hc : ob.cls = .type "dict") (hd : ob.data = .dict es ep) (hu : A.units < cLine) (h : Q (.bool true) s) :
    wpAny (model prog w) A (richCompare .NotEq (.str b u) (.ref l)) Q E s := by
  have ht : s.TypeIs (.ref l) "dict" := ⟨_, ho, hc⟩
  have e : ob = { ob with data := .dict es ep } := by cases ob; simp only at hd; rw [hd]
  have ho' := ho
  rw [e] at ho'
  exact rc_ne_decline_or (k := false) (typeIs_str s b u) ht (by decide) PySem.F.sub_dict_str PySem.F.slot_str_ne PySem.F.slot_dict_ne_refl
    (fun _ hq => call_meets PySem.F.slot_str_ne (typeIs_str s b u) PySem.F.entry_str_ne (PySem.F.args_str_ne_2 _ _) (strDeclN b u l ob es ep) ⟨ho', hq⟩)
    (fun _ hq => dictDeclN ht hq)
    (fun _ hq => wpAny_of_eq (rfl : isSame (.str b u) (.ref l) = pure false) hq) (.inr hu) h
end
section
variable {X : Cx} {T : Fx} {W : WX}
def fEqM (a b : D) : Option D := match a, b with
  | .m _ _, .s _ => some (.b false)
  | .s _, .m _ _ => some (.b false)
  | _, _ => fEq a b
def fNeM (a b : D) : Option D := match a, b with
  | .m _ _, .s _ => some (.b true)
  | .s _, .m _ _ => some (.b true)
  | _, _ => fNe a b
theorem units_c {k : Nat} {A : Around} (hr : Room k A) : A.units < cLine := by have := units100 hr; omega
theorem ox_eqM {k : Nat} (hr : Room k X.A) (hK : X.K = T.K := by rfl) : OpX X T (compareOp .Eq) fEqM .bor .bor .val := by
  intro pins s σ H aS S x y u w a b d Q I m rx ry r1 r2 q kk
  unfold fEqM at q
  split at q
  · cases q
    have h1 := r1.bor m
    cases bor_str m r2
    cases h1 with
    | m bd _ _ =>
      cases rx
      obtain ⟨t, rfl⟩ := ry
      obtain ⟨nd, o, es, ep, e1, ex, hd, _⟩ := boD_raw I bd
      exact dictStrEq e1 ex.1 hd (units_c hr) ⟨.bl _, H, I, rfl, kk _ H Ext.refl (fun _ _ => rfl) (.b _)⟩
  · cases q
    have h2 := r2.bor m
    cases bor_str m r1
    cases h2 with
    | m bd _ _ =>
      cases ry
      obtain ⟨t, rfl⟩ := rx
      obtain ⟨nd, o, es, ep, e1, ex, hd, _⟩ := boD_raw I bd
      exact strDictEq e1 ex.1 hd (units_c hr) ⟨.bl _, H, I, rfl, kk _ H Ext.refl (fun _ _ => rfl) (.b _)⟩
  · exact ox_eq hr hK pins s σ H aS S x y u w a b d Q I m rx ry r1 r2 q kk
theorem ox_neM {k : Nat} (hr : Room k X.A) (hK : X.K = T.K := by rfl) : OpX X T (compareOp .NotEq) fNeM .bor .bor .val := by
  intro pins s σ H aS S x y u w a b d Q I m rx ry r1 r2 q kk
  unfold fNeM at q
  split at q
  · cases q
    have h1 := r1.bor m
    cases bor_str m r2
    cases h1 with
    | m bd _ _ =>
      cases rx
      obtain ⟨t, rfl⟩ := ry
      obtain ⟨nd, o, es, ep, e1, ex, hd, _⟩ := boD_raw I bd
      exact dictStrNe e1 ex.1 hd (units_c hr) ⟨.bl _, H, I, rfl, kk _ H Ext.refl (fun _ _ => rfl) (.b _)⟩
  · cases q
    have h2 := r2.bor m
    cases bor_str m r1
    cases h2 with
    | m bd _ _ =>
      cases ry
      obtain ⟨t, rfl⟩ := rx
      obtain ⟨nd, o, es, ep, e1, ex, hd, _⟩ := boD_raw I bd
      exact strDictNe e1 ex.1 hd (units_c hr) ⟨.bl _, H, I, rfl, kk _ H Ext.refl (fun _ _ => rfl) (.b _)⟩
  · exact ox_ne hr hK pins s σ H aS S x y u w a b d Q I m rx ry r1 r2 q kk
end
end DL

namespace G
open PySem PySem.Spec PyProof.Rows L2 DL
/-! ### what the defs do -/
def B_is_whole : MS :=
  (sRet (dAnd (dIsi (dVar 0) [.ty "int"]) (dNot (dIsi (dVar 0) [.ty "bool"]))))
def F_is_whole : Fn := runG false [false] 1 B_is_whole
def B_looks_into : MS :=
  (sRet (dComp (iEn (dVar 0)) [2, 3] (gT [2, 3]) (mAnd (mB (dOp fEqM (dOp fIx (dOp fIx (dVar 3) (dC (.i 1))) (dC (.i 0))) (dC (.s "look")))) (mB (dOp fEqM (dOp fIx (dOp fIx (dVar 3) (dC (.i 1))) (dC (.i 1))) (dVar 1)))) (dVar 2)))
def F_looks_into : Fn := runG false [false, false] 4 B_looks_into
def B_grips_into : MS :=
  (sRet (dComp (iEn (dVar 0)) [2, 3] (gT [2, 3]) (mAnd (mB (dOp fEqM (dOp fIx (dOp fIx (dVar 3) (dC (.i 1))) (dC (.i 0))) (dC (.s "grip")))) (mB (dOp fEqM (dOp fIx (dOp fIx (dVar 3) (dC (.i 1))) (dC (.i 1))) (dVar 1)))) (dVar 2)))
def F_grips_into : Fn := runG false [false, false] 4 B_grips_into
def B_goes_by : MS :=
  (sSeq (sFor (iOf (dVar 0)) (gT [2, 3, 4]) (sFor (iOf (dSl (dVar 3) (oYes (dC (.i 1))) oNo)) (gN 5) (sIf (mAnd (mTru (dIsi (dVar 5) [.ty "tuple"])) (mB (dOp fEqM (dOp fIx (dVar 5) (dC (.i 0))) (dVar 1)))) (sRet (dC (.b true))) sNil)))
  (sRet (dC (.b false))))
def F_goes_by : Fn := runG false [false, false] 6 B_goes_by
def B_need_slot : MS :=
  (sSeq (sSet 2 (dFn F_looks_into (dCons (dVar 0) (dCons (dVar 1) dNil)) []))
  (sSeq (sIf (mOr (mB (dOp fEqM (dVar 2) (dLst dNil))) (mOr (mB (dOp fNeM (dFn F_grips_into (dCons (dVar 0) (dCons (dVar 1) dNil)) []) (dLst dNil))) (mOr (mB (dNotN (dOp fIx (dOp fIx (dVar 0) (dOp fIx (dVar 2) (dC (.i 0)))) (dC (.i 0))))) (mTru (dFn F_goes_by (dCons (dVar 0) (dCons (dVar 1) dNil)) []))))) (sRaise 6) sNil)
  (sSeq (sSet 3 (dOp fIx (dOp fIx (dOp fIx (dVar 0) (dOp fIx (dVar 2) (dC (.i 0)))) (dC (.i 1))) (dC (.i 2))))
  (sSeq (sIf (mOr (mB (dNotN (dOp fIx (dVar 3) (dC (.i 0))))) (mB (dOp fNeM (dComp (iOf (dVar 2)) [4] (gN 4) (mB (dOp fNeM (dOp fIx (dOp fIx (dOp fIx (dVar 0) (dVar 4)) (dC (.i 1))) (dC (.i 2))) (dVar 3))) (dVar 4)) (dLst dNil)))) (sRaise 6) sNil)
  (sRet (dVar 3))))))
def F_need_slot : Fn := runG false [false, false] 5 B_need_slot
def B_step_gripped : MS :=
  (sSeq (sAsg (gT [4, 5, 6]) (dVar 0))
  (sSeq (sIf (mB (dOp fEqM (dSl (dVar 5) oNo (oYes (dC (.i 2)))) (dTup (dCons (dC (.s "look")) (dCons (dVar 1) dNil))))) (sRet (dTup (dCons (dVar 4) (dCons (dTup (dCons (dC (.s "grip")) (dCons (dVar 1) (dCons (dVar 2) dNil)))) (dCons (dVar 6) dNil))))) sNil)
  (sSeq (sIf (mAnd (mTru (dVar 3)) (mAnd (mB (dOp fEqM (dSl (dVar 5) oNo (oYes (dC (.i 2)))) (dTup (dCons (dC (.s "write")) (dCons (dVar 2) dNil))))) (mB (dOp fIn (dTup (dCons (dVar 1) (dCons (dC (.s "named")) dNil))) (dVar 6))))) (sSeq (sSet 7 (dCall fTuple (dCons (dComp (iOf (dVar 6)) [8] (gN 8) (mB (dOp fNeM (dVar 8) (dTup (dCons (dVar 1) (dCons (dC (.s "named")) dNil))))) (dVar 8)) dNil)))
  (sRet (dTup (dCons (dVar 4) (dCons (dTup (dCons (dC (.s "write")) (dCons (dTup (dCons (dVar 1) dNil)) (dCons (dOp fIx (dVar 5) (dC (.i 2))) dNil)))) (dCons (dVar 7) dNil)))))) sNil)
  (sRet (dVar 0)))))
def F_step_gripped : Fn := runG false [false, false, false, false] 9 B_step_gripped
def B_gripped : MS :=
  (sSeq (sAsg (gT [7, 8]) (dVar 0))
  (sSeq (sIf (mOr (mNot (mTru (dFn F_is_whole (dCons (dVar 1) dNil) []))) (mNot (mB (dChain fLe fLt (dC (.i 0)) (dVar 1) (dCall fLen (dCons (dVar 8) dNil)))))) (sRaise 6) sNil)
  (sSeq (sSet 3 (dOp fIx (dVar 8) (dVar 1)))
  (sSeq (sSet 4 (dFn F_need_slot (dCons (dVar 3) (dCons (dVar 2) dNil)) []))
  (sSeq (sSet 5 (dOp fIx (dFn F_looks_into (dCons (dVar 3) (dCons (dVar 2) dNil)) []) (dC (.i 0))))
  (sSeq (sThenF 6 (sSetO 6 (dComp (iEn (dVar 3)) [9, 10] (gT [9, 10]) mYes (dFn F_step_gripped (dCons (dVar 10) (dCons (dVar 2) (dCons (dVar 4) (dCons (dOp fGt (dVar 9) (dVar 5)) dNil)))) []))))
  (sRet (dTup (dCons (dVar 7) (dCons (dOp fAdd (dOp fAdd (dSl (dVar 8) oNo (oYes (dVar 1))) (dTup (dCons (dCall fTuple (dCons (dVar 6) dNil)) dNil))) (dSl (dVar 8) (oYes (dOp fAdd (dVar 1) (dC (.i 1)))) oNo)) dNil))))))))))
def F_gripped : Fn := runG false [false, false, false] 11 B_gripped
def B__law_state : MS :=
  (sSeq (sSet 2 (dOp fAdd (dOp fMod (dCall fSum (dCons (dVar 0) dNil)) (dC (.i 1000003))) (dOp fMul (dC (.i 104729)) (dVar 1))))
  (sSeq (sIf (mB (dOp fLt (dVar 1) (dCall fLen (dCons (dVar 0) dNil)))) (sSet 2 (dOp fIx (dVar 0) (dVar 1))) sNil)
  (sSeq (sIf (mB (dOp fGe (dVar 2) (dOp fPow (dC (.i 10)) (dC (.i 18))))) (sRet (dLst (dCons (dC (.i 0)) (dCons (dOp fSub (dVar 2) (dOp fPow (dC (.i 10)) (dC (.i 18)))) (dCons (dVar 1) dNil))))) sNil)
  (sRet (dLst (dCons (dC (.i 1)) (dCons (dOp fMod (dOp fAdd (dOp fAdd (dOp fAdd (dOp fMul (dOp fMod (dVar 2) (dC (.i 2147483647))) (dC (.i 48271))) (dOp fMul (dC (.i 7919)) (dVar 1))) (dCall fLen (dCons (dVar 0) dNil))) (dC (.i 11))) (dC (.i 2147483647))) (dCons (dOp fAdd (dVar 1) (dC (.i 1))) dNil))))))))
def F__law_state : Fn := runG true [false, false] 3 B__law_state
def B__law_next : MS :=
  (sSeq (sIf (mB (dOp fEqM (dStIx 0 0) (dC (.i 0)))) (sSeq (sSet 3 (dOp fMod (dStIx 0 1) (dVar 1)))
  (sSeq (sStSet 0 1 (dOp fDiv (dStIx 0 1) (dVar 1)))
  (sRet (dVar 3)))) sNil)
  (sSeq (sStSet 0 1 (dOp fMod (dOp fAdd (dOp fMul (dStIx 0 1) (dC (.i 48271))) (dStIx 0 2)) (dC (.i 2147483647))))
  (sSeq (sSet 2 (dOp fMod (dOp fMul (dStIx 0 1) (dStIx 0 1)) (dC (.i 2147483629))))
  (sRet (dOp fMod (dOp fDiv (dOp fMod (dOp fMul (dVar 2) (dVar 2)) (dC (.i 2147483587))) (dC (.i 7))) (dVar 1))))))
def F__law_next : Fn := runG false [true, false] 4 B__law_next
def B__law_kept : MS :=
  (sSeq (sSet 0 (dC (.s "again alike as at blame box by cover end few free grip hand if kept least link look")))
  (sSeq (sSet 0 (dOp fAdd (dVar 0) (dC (.s " make move name named none rely room rows run safe sheet sure there to uses worth"))))
  (sRet (dMeth fSplit (dOp fAdd (dVar 0) (dC (.s " write"))) (dCons (dC (.s " ")) dNil) "str"))))
def F__law_kept : Fn := runG false [] 1 B__law_kept
def B__law_words : MS :=
  (sSeq (sSet 2 (dC (.s "abcdefghijklmnopqrstuvwxyz")))
  (sSeq (sSet 3 (dFnS F__law_next (dSt 0 (dCons (dC (.i 26)) dNil)) []))
  (sSeq (sIf (mAnd (mB (dOp fEqM (dFnS F__law_next (dSt 0 (dCons (dC (.i 4)) dNil)) []) (dC (.i 0)))) (mB (dOp fLt (dVar 1) (dC (.i 7))))) (sRet (dComp (iRange1 (dVar 1)) [9] (gN 9) mYes (dOp fMul (dOp fIx (dVar 2) (dVar 3)) (dOp fAdd (dC (.i 1)) (dVar 9))))) sNil)
  (sSeq (sSet 4 (dOp fAdd (dC (.i 1)) (dFnS F__law_next (dSt 0 (dCons (dC (.i 6)) dNil)) [])))
  (sSeq (sSet 5 (dFnS F__law_next (dSt 0 (dCons (dVar 4) dNil)) []))
  (sSeq (sSet 6 (dMeth fJoin (dC (.s "")) (dCons (dComp (iRange1 (dVar 4)) [9] (gN 9) mYes (dOp fIx (dVar 2) (dOp fMod (dOp fAdd (dVar 3) (dOp fMul (dC (.i 7)) (dVar 9))) (dC (.i 26))))) dNil) "str"))
  (sSeq (sThenF 7 (sSetO 7 (dComp (iRange1 (dVar 1)) [9] (gN 9) mYes (dOp fIx (dVar 2) (dOp fMod (dOp fAdd (dOp fAdd (dVar 3) (dC (.i 5))) (dOp fMul (dC (.i 3)) (dVar 9))) (dC (.i 26)))))))
  (sSeq (sThenF 8 (sSetO 8 (dComp (iOf (dVar 7)) [10] (gN 10) mYes (dOp fAdd (dOp fAdd (dSl (dVar 6) oNo (oYes (dVar 5))) (dVar 10)) (dSl (dVar 6) (oYes (dOp fAdd (dVar 5) (dC (.i 1)))) oNo)))))
  (sRet (dComp (iOf (dVar 8)) [11] (gN 11) mYes (dOp fAdd (dVar 11) (dOp fMul (dC (.s "z")) (dCall fInt (dCons (dOp fIn (dVar 11) (dFn0 F__law_kept)) dNil))))))))))))))
def F__law_words : Fn := runG false [true, false] 12 B__law_words
def B__law_any_sign : MS :=
  (sSeq (sSet 1 (dC (.s " !\"#$&'()*+,-./0123456789:;<=>?@ABCDEFGHIJKLMNOPQRSTUVWXYZ[\\]^_`")))
  (sSeq (sSet 1 (dOp fAdd (dVar 1) (dC (.s "abcdefghijklmnopqrstuvwxyz{|}~\n"))))
  (sRet (dOp fIx (dVar 1) (dFnS F__law_next (dSt 0 (dCons (dCall fLen (dCons (dVar 1) dNil)) dNil)) [])))))
def F__law_any_sign : Fn := runG false [true] 2 B__law_any_sign
def B__law_guard : MS :=
  (sSeq (sSet 2 (dLst (dCons (dTup (dCons (dOp fIx (dVar 1) (dC (.i 0))) (dCons (dC (.s "there")) dNil))) (dCons (dTup (dCons (dOp fIx (dVar 1) (dC (.i 1))) (dCons (dC (.s "none")) dNil))) (dCons (dTup (dCons (dOp fIx (dVar 1) (dC (.i 0))) (dCons (dC (.s "none")) dNil))) (dCons (dTup (dCons (dOp fIx (dVar 1) (dC (.i 0))) (dCons (dC (.s "as")) (dCons (dOp fIx (dVar 1) (dC (.i 1))) dNil)))) dNil))))))
  (sRet (dOp fIx (dOp fAdd (dLst (dCons (dC .n) (dCons (dC .n) (dCons (dC .n) dNil)))) (dVar 2)) (dFnS F__law_next (dSt 0 (dCons (dC (.i 7)) dNil)) []))))
def F__law_guard : Fn := runG false [true, false] 3 B__law_guard
def B__law_relies : MS :=
  (sSeq (sSet 2 (dLst (dCons (dTup (dCons (dOp fIx (dVar 1) (dC (.i 0))) (dCons (dC (.s "named")) dNil))) (dCons (dTup (dCons (dOp fIx (dVar 1) (dC (.i 0))) (dCons (dC (.s "worth")) dNil))) (dCons (dTup (dCons (dOp fIx (dVar 1) (dC (.i 1))) (dCons (dC (.s "named")) dNil))) (dCons (dTup (dCons (dOp fIx (dVar 1) (dC (.i 1))) (dCons (dC (.s "worth")) dNil))) dNil))))))
  (sSeq (sAsg (gT [3, 4]) (dTup (dCons (dFnS F__law_next (dSt 0 (dCons (dC (.i 4)) dNil)) []) (dCons (dOp fIx (dLst (dCons (dC (.i 1)) (dCons (dC (.i 3)) dNil))) (dFnS F__law_next (dSt 0 (dCons (dC (.i 2)) dNil)) [])) dNil))))
  (sRet (dCall fTuple (dCons (dComp (iRange1 (dFnS F__law_next (dSt 0 (dCons (dC (.i 4)) dNil)) [])) [5] (gN 5) mYes (dOp fIx (dVar 2) (dOp fMod (dOp fAdd (dVar 3) (dOp fMul (dVar 5) (dVar 4))) (dC (.i 4))))) dNil)))))
def F__law_relies : Fn := runG false [true, false] 6 B__law_relies
def B__law_gripping : MS :=
  (sSeq (sSet 3 (dTup (dCons (dC .n) (dCons (dOp fIx (dVar 2) (dC (.i 0))) dNil))))
  (sSeq (sSetO 4 (dLst (dCons (dTup (dCons (dC .n) (dCons (dTup (dCons (dC (.s "look")) (dCons (dOp fIx (dVar 1) (dC (.i 0))) (dCons (dVar 3) dNil)))) (dCons (dTup dNil) dNil)))) dNil)))
  (sSeq (sIf (mB (dOp fEqM (dFnS F__law_next (dSt 0 (dCons (dC (.i 3)) dNil)) []) (dC (.i 0)))) (sApp 4 (dTup (dCons (dC .n) (dCons (dTup (dCons (dC (.s "grip")) (dCons (dOp fIx (dVar 1) (dC (.i 1))) (dCons (dTup (dCons (dC .n) (dCons (dOp fIx (dVar 2) (dC (.i 1))) dNil))) dNil)))) (dCons (dTup dNil) dNil))))) sNil)
  (sSeq (sFor (iRange1 (dOp fSub (dOp fAdd (dC (.i 2)) (dFnS F__law_next (dSt 0 (dCons (dC (.i 5)) dNil)) [])) (dCall fLen (dCons (dVarB 4) dNil)))) (gN 5) (sSeq (sSet 6 (dOp fAdd (dTup (dCons (dTup (dCons (dOp fIx (dVar 1) (dC (.i 0))) (dCons (dC (.s "named")) dNil))) dNil)) (dCall fTuple (dCons (dOp fMul (dLst (dCons (dTup (dCons (dOp fIx (dVar 1) (dC (.i 0))) (dCons (dC (.s "worth")) dNil))) dNil)) (dFnS F__law_next (dSt 0 (dCons (dC (.i 2)) dNil)) [])) dNil))))
  (sSeq (sSet 7 (dOp fIx (dLst (dCons (dC (.i 0)) (dCons (dC (.i 999)) (dCons (dOp fAdd (dOp fMul (dC (.i 10)) (dVar 5)) (dFnS F__law_next (dSt 0 (dCons (dC (.i 10)) dNil)) [])) dNil)))) (dFnS F__law_next (dSt 0 (dCons (dC (.i 3)) dNil)) [])))
  (sSeq (sSet 8 (dLst (dCons (dTup (dCons (dC (.s "write")) (dCons (dVar 3) (dCons (dVar 7) dNil)))) (dCons (dTup (dCons (dC (.s "write")) (dCons (dVar 3) (dCons (dVar 7) dNil)))) dNil))))
  (sSeq (sSet 8 (dOp fAdd (dVar 8) (dLst (dCons (dTup (dCons (dC (.s "look")) (dCons (dOp fIx (dVar 1) (dC (.i 0))) (dCons (dVar 3) dNil)))) (dCons (dTup (dCons (dC (.s "look")) (dCons (dOp fIx (dVar 1) (dC (.i 1))) (dCons (dVar 3) dNil)))) dNil)))))
  (sSeq (sSet 8 (dOp fAdd (dVar 8) (dLst (dCons (dTup (dCons (dC (.s "write")) (dCons (dTup (dCons (dC .n) (dCons (dOp fIx (dVar 2) (dC (.i 1))) dNil))) (dCons (dVar 7) dNil)))) (dCons (dTup (dCons (dC (.s "make")) (dCons (dVar 3) (dCons (dVar 7) dNil)))) (dCons (dTup (dCons (dC (.s "free")) (dCons (dVar 3) dNil))) dNil))))))
  (sSeq (sSet 8 (dOp fAdd (dVar 8) (dLst (dCons (dTup (dCons (dC (.s "move")) (dCons (dVar 3) (dCons (dTup (dCons (dC .n) (dCons (dOp fIx (dVar 2) (dC (.i 1))) dNil))) dNil)))) (dCons (dTup (dCons (dC (.s "grip")) (dCons (dOp fIx (dVar 1) (dC (.i 1))) (dCons (dTup (dCons (dC .n) (dCons (dOp fIx (dVar 2) (dC (.i 1))) dNil))) dNil)))) dNil)))))
  (sSeq (sSet 8 (dOp fAdd (dVar 8) (dLst (dCons (dTup (dCons (dC (.s "write")) (dCons (dTup (dCons (dOp fIx (dVar 1) (dC (.i 1))) dNil)) (dCons (dVar 7) dNil)))) (dCons (dTup (dCons (dC (.s "write")) (dCons (dTup (dCons (dOp fIx (dVar 1) (dC (.i 1))) (dCons (dOp fIx (dVar 2) (dC (.i 0))) dNil))) (dCons (dVar 7) dNil)))) dNil)))))
  (sSeq (sSet 9 (dOp fIx (dVar 8) (dFnS F__law_next (dSt 0 (dCons (dC (.i 11)) dNil)) [])))
  (sSeq (sIf (mB (dOp fEqM (dFnS F__law_next (dSt 0 (dCons (dC (.i 4)) dNil)) []) (dC (.i 0)))) (sSet 6 (dFnS F__law_relies (dSt 0 (dCons (dVar 1) dNil)) [])) sNil)
  (sApp 4 (dTup (dCons (dFnS F__law_guard (dSt 0 (dCons (dVar 1) dNil)) []) (dCons (dVar 9) (dCons (dVar 6) dNil)))))))))))))))
  (sRet (dCall fTuple (dCons (dVar1 4) dNil)))))))
def F__law_gripping : Fn := runG false [true, false, false] 10 B__law_gripping
def B__law_meddling : MS :=
  (sSeq (sSetO 2 (dLst dNil))
  (sSeq (sAsg (gL [4, 5, 6]) (dComp (iOf (dSl (dVar 1) oNo (oYes (dC (.i 3))))) [9] (gN 9) mYes (dTup (dCons (dC .n) (dCons (dVar 9) dNil)))))
  (sSeq (sFor (iRange1 (dOp fAdd (dC (.i 1)) (dFnS F__law_next (dSt 0 (dCons (dC (.i 3)) dNil)) []))) (gN 3) (sSeq (sSet 7 (dOp fAdd (dC (.i 500)) (dFnS F__law_next (dSt 0 (dCons (dC (.i 9)) dNil)) [])))
  (sSeq (sSet 8 (dLst (dCons (dTup (dCons (dC (.s "move")) (dCons (dVar 4) (dCons (dVar 5) dNil)))) (dCons (dTup (dCons (dC (.s "free")) (dCons (dVar 4) dNil))) (dCons (dTup (dCons (dC (.s "make")) (dCons (dVar 4) (dCons (dVar 7) dNil)))) (dCons (dTup (dCons (dC (.s "link")) (dCons (dVar 5) (dCons (dVar 4) dNil)))) (dCons (dTup (dCons (dC (.s "write")) (dCons (dVar 4) (dCons (dVar 7) dNil)))) (dCons (dTup (dCons (dC (.s "move")) (dCons (dVar 5) (dCons (dVar 4) dNil)))) dNil))))))))
  (sSeq (sSet 8 (dOp fAdd (dVar 8) (dLst (dCons (dTup (dCons (dC (.s "make")) (dCons (dVar 6) (dCons (dVar 7) dNil)))) (dCons (dTup (dCons (dC (.s "move")) (dCons (dVar 6) (dCons (dVar 4) dNil)))) (dCons (dTup (dCons (dC (.s "box")) (dCons (dOp fIx (dVar 1) (dC (.i 0))) dNil))) (dCons (dTup (dCons (dC (.s "free")) (dCons (dVar 5) dNil))) dNil)))))))
  (sApp 2 (dTup (dCons (dC .n) (dCons (dOp fIx (dVar 8) (dFnS F__law_next (dSt 0 (dCons (dC (.i 10)) dNil)) [])) (dCons (dTup dNil) dNil)))))))))
  (sRet (dCall fTuple (dCons (dVar1 2) dNil))))))
def F__law_meddling : Fn := runG false [true, false] 10 B__law_meddling
def B__law_yard : MS :=
  (sSeq (sSet 1 (dFnS F__law_words (dSt 0 (dCons (dC (.i 2)) dNil)) []))
  (sSeq (sSet 2 (dFnS F__law_words (dSt 0 (dCons (dC (.i 3)) dNil)) []))
  (sSeq (sSet 3 (dOp fIx (dLst (dCons (dTup dNil) (dCons (dTup (dCons (dTup (dCons (dOp fIx (dVar 2) (dC (.i 0))) (dCons (dTup (dCons (dNeg (dC (.i 1))) (dCons (dC (.i 2)) dNil))) dNil))) dNil)) dNil))) (dFnS F__law_next (dSt 0 (dCons (dC (.i 2)) dNil)) [])))
  (sSeq (sSet 4 (dLst (dCons (dTup (dCons (dTup (dCons (dNeg (dC (.i 1))) (dCons (dC (.i 1)) dNil))) (dCons (dTup (dCons (dC (.s "sheet")) (dCons (dOp fIx (dLst (dCons (dC (.i 0)) (dCons (dC (.i 999)) (dCons (dC (.i 7)) dNil)))) (dFnS F__law_next (dSt 0 (dCons (dC (.i 3)) dNil)) [])) dNil))) dNil))) (dCons (dTup (dCons (dTup (dCons (dNeg (dC (.i 1))) (dCons (dC (.i 2)) dNil))) (dCons (dTup (dCons (dC (.s "sheet")) (dCons (dC (.i 7)) dNil))) dNil))) (dCons (dTup (dCons (dTup (dCons (dNeg (dC (.i 1))) (dCons (dC (.i 3)) dNil))) (dCons (dTup (dCons (dC (.s "box")) (dCons (dVar 3) dNil))) dNil))) dNil)))))
  (sSeq (sSetO 5 (dDict1 (dOp fIx (dVar 2) (dC (.i 0))) (dOp fIx (dLst (dCons (dTup (dCons (dNeg (dC (.i 1))) (dCons (dC (.i 1)) dNil))) (dCons (dTup (dCons (dNeg (dC (.i 1))) (dCons (dC (.i 1)) dNil))) (dCons (dTup (dCons (dNeg (dC (.i 1))) (dCons (dC (.i 2)) dNil))) (dCons (dTup (dCons (dNeg (dC (.i 1))) (dCons (dC (.i 3)) dNil))) dNil))))) (dFnS F__law_next (dSt 0 (dCons (dC (.i 4)) dNil)) []))))
  (sSeq (sIf (mB (dOp fEqM (dFnS F__law_next (dSt 0 (dCons (dC (.i 5)) dNil)) []) (dC (.i 0)))) (sSetO 5 dDict0) sNil)
  (sSeq (sSet 6 (dOp fIx (dLst (dCons (dTup (dCons (dNeg (dC (.i 1))) (dCons (dC (.i 2)) dNil))) (dCons (dTup (dCons (dNeg (dC (.i 1))) (dCons (dC (.i 3)) dNil))) (dCons (dC .n) dNil)))) (dFnS F__law_next (dSt 0 (dCons (dC (.i 3)) dNil)) [])))
  (sSeq (sIf (mAnd (mB (dNotN (dVar 6))) (mOr (mB (dOp fEqM (dVar 6) (dTup (dCons (dNeg (dC (.i 1))) (dCons (dC (.i 2)) dNil))))) (mB (dInVals true (dVar 6) (dVar1 5))))) (sSetKey 5 (dVar 6) (dOp fIx (dVar 2) (dC (.i 1)))) sNil)
  (sSeq (sSet 7 (dOp fAdd (dTup (dCons (dTup (dCons (dTup (dCons (dNeg (dC (.i 1))) (dCons (dC (.i 0)) dNil))) (dCons (dTup (dCons (dC (.s "box")) (dCons (dCall fTuple (dCons (dSortI (dVar1 5)) dNil)) dNil))) dNil))) dNil)) (dCall fTuple (dCons (dVar 4) dNil))))
  (sSeq (sSetO 8 (dLst (dCons (dFnS F__law_gripping (dSt 0 (dCons (dVar 1) (dCons (dVar 2) dNil))) []) dNil)))
  (sSeq (sFor (iRange1 (dOp fAdd (dC (.i 1)) (dOp fDiv (dFnS F__law_next (dSt 0 (dCons (dC (.i 3)) dNil)) []) (dC (.i 2))))) (gN 9) (sApp 8 (dFnS F__law_meddling (dSt 0 (dCons (dVar 2) dNil)) [])))
  (sRet (dTup (dCons (dTup (dCons (dVar 7) (dCons (dCall fTuple (dCons (dVar1 8) dNil)) dNil))) (dCons (dVar 1) (dCons (dVar 2) dNil))))))))))))))))
def F__law_yard : Fn := runG false [true] 10 B__law_yard
def B__law_spots : MS :=
  (sRet (dComp (iOf (dSl (dOp fIx (dVar 0) (dC (.i 1))) (oYes (dC (.i 1))) oNo)) [1] (gN 1) (mTru (dIsi (dVar 1) [.ty "tuple"])) (dVar 1)))
def F__law_spots : Fn := runG false [false] 2 B__law_spots
def B__law_turned : MS :=
  (sSeq (sSet 3 (dOp fIx (dOp fIx (dVar 0) (dC (.i 1))) (dVar 1)))
  (sSeq (sThenF 4 (sSetO 4 (dComp (iRange1 (dCall fLen (dCons (dVar 3) dNil))) [8] (gN 8) (mB (dOp fEqM (dSl (dOp fIx (dOp fIx (dVar 3) (dVar 8)) (dC (.i 1))) oNo (oYes (dC (.i 2)))) (dTup (dCons (dC (.s "look")) (dCons (dVar 2) dNil))))) (dVar 8))))
  (sSeq (sThenF 5 (sSetO 5 (dComp (iRange1 (dCall fLen (dCons (dVar 3) dNil))) [8] (gN 8) (mB (dOp fEqM (dSl (dOp fIx (dOp fIx (dVar 3) (dVar 8)) (dC (.i 1))) oNo (oYes (dC (.i 2)))) (dTup (dCons (dC (.s "grip")) (dCons (dVar 2) dNil))))) (dVar 8))))
  (sSeq (sIf (mOr (mB (dOp fEqM (dVar 4) (dLst dNil))) (mOr (mB (dOp fNeM (dVar 5) (dLst dNil))) (mB (dNotN (dOp fIx (dOp fIx (dVar 3) (dOp fIx (dVar 4) (dC (.i 0)))) (dC (.i 0))))))) (sRet (dC .n)) sNil)
  (sSeq (sSet 6 (dOp fIx (dOp fIx (dOp fIx (dVar 3) (dOp fIx (dVar 4) (dC (.i 0)))) (dC (.i 1))) (dC (.i 2))))
  (sSeq (sSetO 7 (dLst dNil))
  (sSeq (sFor (iEn (dVar 3)) (gT [8, 9]) (sSeq (sAsg (gT [10, 11, 12]) (dVar 9))
  (sSeq (sIf (mB (dOp fNeM (dComp (iOf (dFn F__law_spots (dCons (dVar 9) dNil) [])) [13] (gN 13) (mB (dOp fEqM (dOp fIx (dVar 13) (dC (.i 0))) (dVar 2))) (dVar 13)) (dLst dNil))) (sRet (dC .n)) sNil)
  (sSeq (sIf (mB (dOp fIn (dVar 8) (dVar 4))) (sSeq (sIf (mOr (mB (dOp fNeM (dOp fIx (dVar 11) (dC (.i 2))) (dVar 6))) (mB (dNotN (dOp fIx (dVar 6) (dC (.i 0)))))) (sRet (dC .n)) sNil)
  (sSet 11 (dTup (dCons (dC (.s "grip")) (dCons (dVar 2) (dCons (dVar 6) dNil)))))) (sIf (mAnd (mB (dOp fGt (dVar 8) (dOp fIx (dVar 4) (dC (.i 0))))) (mAnd (mB (dOp fEqM (dOp fIx (dVar 11) (dC (.i 0))) (dC (.s "write")))) (mAnd (mB (dOp fEqM (dOp fIx (dVar 11) (dC (.i 1))) (dVar 6))) (mB (dOp fIn (dTup (dCons (dVar 2) (dCons (dC (.s "named")) dNil))) (dVar 12)))))) (sSeq (sSet 11 (dTup (dCons (dC (.s "write")) (dCons (dTup (dCons (dVar 2) dNil)) (dCons (dOp fIx (dVar 11) (dC (.i 2))) dNil)))))
  (sSet 12 (dCall fTuple (dCons (dComp (iOf (dVar 12)) [14] (gN 14) (mB (dOp fNeM (dVar 14) (dTup (dCons (dVar 2) (dCons (dC (.s "named")) dNil))))) (dVar 14)) dNil)))) sNil))
  (sApp 7 (dTup (dCons (dVar 10) (dCons (dVar 11) (dCons (dVar 12) dNil)))))))))
  (sRet (dTup (dCons (dOp fIx (dVar 0) (dC (.i 0))) (dCons (dOp fAdd (dOp fAdd (dSl (dOp fIx (dVar 0) (dC (.i 1))) oNo (oYes (dVar 1))) (dTup (dCons (dCall fTuple (dCons (dVar1 7) dNil)) dNil))) (dSl (dOp fIx (dVar 0) (dC (.i 1))) (oYes (dOp fAdd (dVar 1) (dC (.i 1)))) oNo)) dNil)))))))))))
def F__law_turned : Fn := runG false [false, false, false] 15 B__law_turned
def B__law_refused : MS :=
  (sSeq (sSet 3 (dC .n))
  (sSeq (sTryAs 4 0 (sExpr (dFn F_gripped (dCons (dVar 0) (dCons (dVar 1) (dCons (dVar 2) dNil))) [])) (sSet 3 (dVar 4)))
  (sSeq (sSet 5 (dIsi (dVar 3) [.own 5, .own 1, .own 7, .own 4, .own 3, .own 2, .own 8]))
  (sRet (dAnd (dIsi (dVar 3) [.own 6]) (dAnd (dIsi (dVar 3) [.ty "ValueError"]) (dNot (dVar 5))))))))
def F__law_refused : Fn := runG false [false, false, false] 6 B__law_refused
def B__law_good : MS :=
  (sSeq (sAsg (gT [3, 4, 5]) (dFnS F__law_yard (dSt 0 dNil) []))
  (sSeq (sSet 1 (dTup (dCons (dC .n) (dCons (dOp fIx (dVar 5) (dC (.i 0))) dNil))))
  (sSeq (sSet 2 (dTup (dCons (dTup (dCons (dC .n) (dCons (dTup (dCons (dC (.s "look")) (dCons (dOp fIx (dVar 4) (dC (.i 0))) (dCons (dVar 1) dNil)))) (dCons (dTup dNil) dNil)))) (dCons (dTup (dCons (dC .n) (dCons (dTup (dCons (dC (.s "write")) (dCons (dVar 1) (dCons (dC (.i 5)) dNil)))) (dCons (dTup (dCons (dTup (dCons (dOp fIx (dVar 4) (dC (.i 0))) (dCons (dC (.s "named")) dNil))) dNil)) dNil)))) dNil))))
  (sRet (dTup (dCons (dTup (dCons (dOp fIx (dVar 3) (dC (.i 0))) (dCons (dOp fAdd (dTup (dCons (dVar 2) dNil)) (dSl (dOp fIx (dVar 3) (dC (.i 1))) (oYes (dC (.i 1))) oNo)) dNil))) (dCons (dOp fIx (dVar 4) (dC (.i 0))) dNil)))))))
def F__law_good : Fn := runG false [true] 6 B__law_good
def B_law : MS :=
  (sSeq (sFor (iRange1 (dCall fMax2 (dCons (dC (.i 3)) (dCons (dCall fMin2 (dCons (dCall fLen (dCons (dVar 0) dNil)) (dCons (dC (.i 12)) dNil))) dNil)))) (gN 1) (sSeq (sSetSt 2 (dFn F__law_state (dCons (dVar 0) (dCons (dVar 1) dNil)) []))
  (sSeq (sAsg (gT [10, 11]) (dFnS F__law_good (dSt 2 dNil) []))
  (sSeq (sSet 3 (dFn F__law_turned (dCons (dVar 10) (dCons (dC (.i 0)) (dCons (dVar 11) dNil))) []))
  (sSeq (sIf (mOr (mB (dIsN (dVar 3))) (mB (dOp fNeM (dFn F_gripped (dCons (dVar 10) (dCons (dC (.i 0)) (dCons (dVar 11) dNil))) []) (dVar 3)))) (sRet (dC (.b false))) sNil)
  (sSeq (sSet 4 (dCall fLen (dCons (dOp fIx (dVar 10) (dC (.i 1))) dNil)))
  (sSeq (sSet 5 (dLst (dCons (dVar 4) (dCons (dNeg (dC (.i 1))) (dCons (dNeg (dVar 4)) (dCons (dC (.b true)) (dCons (dC (.b false)) (dCons (dC .n) (dCons (dC (.s "0")) (dCons (dLst (dCons (dC (.i 0)) dNil)) (dCons (dTup (dCons (dC (.i 0)) dNil)) (dCons dDict0 (dCons (dOp fAdd (dVar 4) (dFnS F__law_next (dSt 2 (dCons (dOp fPow (dC (.i 10)) (dC (.i 6))) dNil)) [])) (dCons (dOp fPow (dC (.i 10)) (dC (.i 59))) (dCons (dC (.s "")) dNil)))))))))))))))
  (sSeq (sIf (mB (dOp fNeM (dComp (iOf (dVar 5)) [12] (gN 12) (mNot (mTru (dFn F__law_refused (dCons (dVar 10) (dCons (dVar 12) (dCons (dVar 11) dNil))) []))) (dVar 12)) (dLst dNil))) (sRet (dC (.b false))) sNil)
  (sSeq (sSet 6 (dFnS F__law_next (dSt 2 (dCons (dOp fAdd (dCall fLen (dCons (dVar 11) dNil)) (dC (.i 1))) dNil)) []))
  (sSeq (sSet 7 (dFnS F__law_any_sign (dSt 2 dNil) []))
  (sSeq (sSet 8 (dLst (dCons (dOp fAdd (dOp fAdd (dSl (dVar 11) oNo (oYes (dVar 6))) (dVar 7)) (dSl (dVar 11) (oYes (dVar 6)) oNo)) (dCons (dOp fAdd (dSl (dVar 11) oNo (oYes (dVar 6))) (dSl (dVar 11) (oYes (dOp fAdd (dVar 6) (dC (.i 1)))) oNo)) (dCons (dOp fAdd (dVar 11) (dVar 11)) (dCons (dMeth fUpper (dVar 11) dNil "str") (dCons (dC .n) (dCons (dC (.i 0)) (dCons (dC (.b true)) (dCons (dTup dNil) dNil))))))))))
  (sSeq (sSet 8 (dOp fAdd (dVar 8) (dLst (dCons (dTup (dCons (dVar 11) dNil)) (dCons (dLst (dCons (dVar 11) dNil)) (dCons dDict0 (dCons (dC (.s "")) (dCons (dC (.s "look")) (dCons (dC (.s "as")) dNil)))))))))
  (sSeq (sFor (iOf (dVar 8)) (gN 9) (sIf (mAnd (mB (dOp fNeM (dVar 9) (dVar 11))) (mNot (mTru (dFn F__law_refused (dCons (dVar 10) (dCons (dC (.i 0)) (dCons (dVar 9) dNil))) [])))) (sRet (dC (.b false))) sNil))
  (sIf (mOr (mNot (mTru (dFn F__law_refused (dCons (dVar 10) (dCons (dC (.i 1)) (dCons (dVar 11) dNil))) []))) (mB (dOp fNeM (dFn F_gripped (dCons (dVar 10) (dCons (dC (.i 0)) (dCons (dVar 11) dNil))) []) (dVar 3)))) (sRet (dC (.b false))) sNil))))))))))))))
  (sRet (dC (.b true))))
end G

section
namespace G
open PySem PySem.Spec PyProof.Rows L2 DL
def top (i : Nat) : Stmt := PySem.Challenge.pw_stillso_k67_no_slot_to_grip.main.body.getD i (.Pass ⟨0, 0, 0, 0⟩)
abbrev s_is_whole : Stmt := top 11
abbrev s_looks_into : Stmt := top 13
abbrev s_grips_into : Stmt := top 14
abbrev s_goes_by : Stmt := top 15
abbrev s_need_slot : Stmt := top 16
abbrev s_step_gripped : Stmt := top 17
abbrev s_gripped : Stmt := top 18
abbrev s__law_state : Stmt := top 20
abbrev s__law_next : Stmt := top 21
abbrev s__law_kept : Stmt := top 22
abbrev s__law_words : Stmt := top 23
abbrev s__law_any_sign : Stmt := top 24
abbrev s__law_guard : Stmt := top 25
abbrev s__law_relies : Stmt := top 26
abbrev s__law_gripping : Stmt := top 27
abbrev s__law_meddling : Stmt := top 28
abbrev s__law_yard : Stmt := top 29
abbrev s__law_spots : Stmt := top 30
abbrev s__law_turned : Stmt := top 31
abbrev s__law_refused : Stmt := top 32
abbrev s__law_good : Stmt := top 33
abbrev s_law : Stmt := top 34
structure Fs (K : PySem.W.Frag) (mg : Str → Option Value) : Prop where
  z_ValueError : mg "ValueError" = none
  z_bool : mg "bool" = none
  z_enumerate : mg "enumerate" = none
  z_int : mg "int" = none
  z_isinstance : mg "isinstance" = none
  z_len : mg "len" = none
  z_max : mg "max" = none
  z_min : mg "min" = none
  z_range : mg "range" = none
  z_sorted : mg "sorted" = none
  z_sum : mg "sum" = none
  z_tuple : mg "tuple" = none
  g_StillError : mg "StillError" = some (.ref (clOf K 0))
  g_NoRoom : mg "NoRoom" = some (.ref (clOf K 1))
  g_NoYard : mg "NoYard" = some (.ref (clOf K 2))
  g_NoWeaving : mg "NoWeaving" = some (.ref (clOf K 3))
  g_NoUse : mg "NoUse" = some (.ref (clOf K 4))
  g_NoGap : mg "NoGap" = some (.ref (clOf K 5))
  g_NoSlot : mg "NoSlot" = some (.ref (clOf K 6))
  g_NoText : mg "NoText" = some (.ref (clOf K 7))
  g_TooMany : mg "TooMany" = some (.ref (clOf K 8))
  err : ∀ f ∈ exAll, f K = true
section
variable {P : Program} {w : World} {K : PySem.W.Frag} {mg : Str → Option Value} {base : Heap} {f : Addr} {fd : FuncData}
theorem sc_is_whole : FnScope ["thing"] ["thing"] (defScope s_is_whole) := ⟨rfl, rfl, rfl, by decide +kernel, rfl, by decide +kernel, by decide +kernel⟩
theorem ok_is_whole (Z : Fs K mg) (F : FunD K "is_whole" "is_whole" (defArgs s_is_whole) (defBody s_is_whole) (defScope s_is_whole) [] [] f fd)  :
    FnOk P w K mg base (L2.CX P w) 1 f fd ["thing"] (spD K w (clOf K) [false] false F_is_whole) :=
  fn_okD F sc_is_whole rfl fun cdv A outer s H E a0 hr _ =>
    (dss_one (ds_ret (de_and (de_isi (isiF_of Z.err) Z.z_isinstance (DE.bor (de_var 0)) (dk_ty "int" Z.z_int (by decide +kernel))) (de_one (de_not (DE.bor (de_isi (isiF_of Z.err) Z.z_isinstance (DE.bor (de_var 0)) (dk_ty "bool" Z.z_bool (by decide +kernel)))))))))
theorem sc_looks_into : FnScope ["steps", "slot", "place", "step"] ["steps", "slot"] (defScope s_looks_into) := ⟨rfl, rfl, rfl, by decide +kernel, rfl, by decide +kernel, by decide +kernel⟩
theorem ok_looks_into (Z : Fs K mg) (F : FunD K "looks_into" "looks_into" (defArgs s_looks_into) (defBody s_looks_into) (defScope s_looks_into) [] [] f fd)  :
    FnOk P w K mg base (L2.CX P w) 1 f fd ["steps", "slot"] (spD K w (clOf K) [false, false] false F_looks_into) :=
  fn_okD F sc_looks_into rfl fun cdv A outer s H E a0 hr _ =>
    (dss_one (ds_ret (DE.frz (de_lc (own := [("place", 2), ("step", 3)]) (st := true) sc_looks_into.nd (di_enum (de_var 0) Z.z_enumerate) (blkOk_by (by kernel_rfl)) (fun _ _ _ _ _ => (dt_tup (dts_cons 2 (dts_cons 3 dts_nil sc_looks_into.nd) sc_looks_into.nd))) (fun _ _ _ _ _ => (dts_one (dt_bo (dw_and (dt_cmpx (ox_eqM hr) (DE.bor (de_sub (DE.b1 (de_sub (DE.b1 (de_var 3)) (DE.bor de_int))) (DE.bor de_int))) (DE.bor de_str)) (dw_and1 (dt_cmpx (ox_eqM hr) (DE.bor (de_sub (DE.b1 (de_sub (DE.b1 (de_var 3)) (DE.bor de_int))) (DE.bor de_int))) (DE.bor (de_var 1)))))))) (fun _ _ _ _ _ => (de_var 2))))))
theorem sc_grips_into : FnScope ["steps", "slot", "place", "step"] ["steps", "slot"] (defScope s_grips_into) := ⟨rfl, rfl, rfl, by decide +kernel, rfl, by decide +kernel, by decide +kernel⟩
theorem ok_grips_into (Z : Fs K mg) (F : FunD K "grips_into" "grips_into" (defArgs s_grips_into) (defBody s_grips_into) (defScope s_grips_into) [] [] f fd)  :
    FnOk P w K mg base (L2.CX P w) 1 f fd ["steps", "slot"] (spD K w (clOf K) [false, false] false F_grips_into) :=
  fn_okD F sc_grips_into rfl fun cdv A outer s H E a0 hr _ =>
    (dss_one (ds_ret (DE.frz (de_lc (own := [("place", 2), ("step", 3)]) (st := true) sc_grips_into.nd (di_enum (de_var 0) Z.z_enumerate) (blkOk_by (by kernel_rfl)) (fun _ _ _ _ _ => (dt_tup (dts_cons 2 (dts_cons 3 dts_nil sc_grips_into.nd) sc_grips_into.nd))) (fun _ _ _ _ _ => (dts_one (dt_bo (dw_and (dt_cmpx (ox_eqM hr) (DE.bor (de_sub (DE.b1 (de_sub (DE.b1 (de_var 3)) (DE.bor de_int))) (DE.bor de_int))) (DE.bor de_str)) (dw_and1 (dt_cmpx (ox_eqM hr) (DE.bor (de_sub (DE.b1 (de_sub (DE.b1 (de_var 3)) (DE.bor de_int))) (DE.bor de_int))) (DE.bor (de_var 1)))))))) (fun _ _ _ _ _ => (de_var 2))))))
theorem sc_goes_by : FnScope ["steps", "slot", "guard", "deed", "relies", "part"] ["steps", "slot"] (defScope s_goes_by) := ⟨rfl, rfl, rfl, by decide +kernel, rfl, by decide +kernel, by decide +kernel⟩
theorem ok_goes_by (Z : Fs K mg) (F : FunD K "goes_by" "goes_by" (defArgs s_goes_by) (defBody s_goes_by) (defScope s_goes_by) [] [] f fd)  :
    FnOk P w K mg base (L2.CX P w) 1 f fd ["steps", "slot"] (spD K w (clOf K) [false, false] false F_goes_by) :=
  fn_okD F sc_goes_by rfl fun cdv A outer s H E a0 hr _ =>
    (dss_cons (ds_for (passes_of rfl) (di_val (de_var 0)) (dt_tup (dts_cons 2 (dts_cons 3 (dts_cons 4 dts_nil sc_goes_by.nd) sc_goes_by.nd) sc_goes_by.nd)) (dss_one (ds_for (passes_of rfl) (di_val (DE.frz (de_sl (DE.b1 (de_var 3)) (do_yes de_int) do_no))) (dt_name 5 sc_goes_by.nd) (dss_one (ds_if (dt_bo (dw_and (dt_tru (DE.bor (de_isi (isiF_of Z.err) Z.z_isinstance (DE.bor (de_var 5)) (dk_ty "tuple" Z.z_tuple (by decide +kernel))))) (dw_and1 (dt_cmpx (ox_eqM hr) (DE.bor (de_sub (DE.b1 (de_var 5)) (DE.bor de_int))) (DE.bor (de_var 1)))))) (dss_one (ds_ret de_bool)) dss_nil)))))
    (dss_one (ds_ret de_bool)))
theorem sc_need_slot : FnScope ["steps", "slot", "looks", "spot", "place"] ["steps", "slot"] (defScope s_need_slot) := ⟨rfl, rfl, rfl, by decide +kernel, rfl, by decide +kernel, by decide +kernel⟩
theorem ok_need_slot (Z : Fs K mg) (F : FunD K "need_slot" "need_slot" (defArgs s_need_slot) (defBody s_need_slot) (defScope s_need_slot) [] [] f fd) (h_looks_into : DefOk P w K mg base (clOf K) "looks_into" 1 [false, false] false F_looks_into []) (h_goes_by : DefOk P w K mg base (clOf K) "goes_by" 1 [false, false] false F_goes_by []) (h_grips_into : DefOk P w K mg base (clOf K) "grips_into" 1 [false, false] false F_grips_into []) :
    FnOk P w K mg base (L2.CX P w) 2 f fd ["steps", "slot"] (spD K w (clOf K) [false, false] false F_need_slot) :=
  fn_okD F sc_need_slot rfl fun cdv A outer s H E a0 hr _ =>
    (dss_cons (ds_set 2 sc_need_slot.nd (de_fn h_looks_into hr (takes_of rfl rfl rfl rfl) (dg_cons (de_var 0) (dg_cons (de_var 1) dg_nil))))
    (dss_cons (ds_if (dt_bo (dw_or (dt_cmpx (ox_eqM hr) (DE.bor (de_var 2)) (DE.bor (de_lst da_nil))) (dw_or (dt_cmpx (ox_neM hr) (DE.bor (de_fn h_grips_into hr (takes_of rfl rfl rfl rfl) (dg_cons (de_var 0) (dg_cons (de_var 1) dg_nil)))) (DE.bor (de_lst da_nil))) (dw_or (dt_notN (DE.bor (de_sub (DE.b1 (de_sub (DE.b1 (de_var 0)) (DE.bor (de_sub (DE.b1 (de_var 2)) (DE.bor de_int))))) (DE.bor de_int)))) (dw_or1 (dt_tru (DE.bor (de_fn h_goes_by hr (takes_of rfl rfl rfl rfl) (dg_cons (de_var 0) (dg_cons (de_var 1) dg_nil)))))))))) (dss_one (ds_raise 6 (errF_of Z.err) (takes_of rfl rfl rfl rfl) Z.g_NoSlot)) dss_nil)
    (dss_cons (ds_set 3 sc_need_slot.nd (de_sub (DE.b1 (de_sub (DE.b1 (de_sub (DE.b1 (de_var 0)) (DE.bor (de_sub (DE.b1 (de_var 2)) (DE.bor de_int))))) (DE.bor de_int))) (DE.bor de_int)))
    (dss_cons (ds_if (dt_bo (dw_or (dt_notN (DE.bor (de_sub (DE.b1 (de_var 3)) (DE.bor de_int)))) (dw_or1 (dt_cmpx (ox_neM hr) (DE.bor (de_lc (own := [("place", 4)]) (st := true) sc_need_slot.nd (di_val (de_var 2)) (blkOk_by (by kernel_rfl)) (fun _ _ _ _ _ => (dt_name 4 sc_need_slot.nd)) (fun _ _ _ _ _ => (dts_one (dt_cmpx (ox_neM hr) (DE.bor (de_sub (DE.b1 (de_sub (DE.b1 (de_sub (DE.b1 (de_var 0)) (DE.bor (de_var 4)))) (DE.bor de_int))) (DE.bor de_int))) (DE.bor (de_var 3))))) (fun _ _ _ _ _ => (de_var 4)))) (DE.bor (de_lst da_nil)))))) (dss_one (ds_raise 6 (errF_of Z.err) (takes_of rfl rfl rfl rfl) Z.g_NoSlot)) dss_nil)
    (dss_one (ds_ret (de_var 3)))))))
theorem sc_step_gripped : FnScope ["step", "slot", "spot", "late", "guard", "deed", "relies", "rest", "rely"] ["step", "slot", "spot", "late"] (defScope s_step_gripped) := ⟨rfl, rfl, rfl, by decide +kernel, rfl, by decide +kernel, by decide +kernel⟩
theorem ok_step_gripped (Z : Fs K mg) (F : FunD K "step_gripped" "step_gripped" (defArgs s_step_gripped) (defBody s_step_gripped) (defScope s_step_gripped) [] [] f fd)  :
    FnOk P w K mg base (L2.CX P w) 1 f fd ["step", "slot", "spot", "late"] (spD K w (clOf K) [false, false, false, false] false F_step_gripped) :=
  fn_okD F sc_step_gripped rfl fun cdv A outer s H E a0 hr _ =>
    (dss_cons (ds_asg (de_var 0) (dt_tup (dts_cons 4 (dts_cons 5 (dts_cons 6 dts_nil sc_step_gripped.nd) sc_step_gripped.nd) sc_step_gripped.nd)))
    (dss_cons (ds_if (dt_cmpx (ox_eqM hr) (DE.bor (de_sl (DE.b1 (de_var 5)) do_no (do_yes de_int))) (DE.bor (de_tup (da_cons de_str (da_cons (de_var 1) da_nil))))) (dss_one (ds_ret (de_tup (da_cons (de_var 4) (da_cons (de_tup (da_cons de_str (da_cons (de_var 1) (da_cons (de_var 2) da_nil)))) (da_cons (de_var 6) da_nil)))))) dss_nil)
    (dss_cons (ds_if (dt_bo (dw_and (dt_tru (DE.bor (de_var 3))) (dw_and (dt_cmpx (ox_eqM hr) (DE.bor (de_sl (DE.b1 (de_var 5)) do_no (do_yes de_int))) (DE.bor (de_tup (da_cons de_str (da_cons (de_var 2) da_nil))))) (dw_and1 (dt_cmpx (ox_in hr) (DE.bor (de_tup (da_cons (de_var 1) (da_cons de_str da_nil)))) (DE.bor (de_var 6))))))) (dss_cons (ds_set 7 sc_step_gripped.nd (de_callT cx_tuple Z.z_tuple (by decide +kernel) (da_cons (DE.b1 (de_lc (own := [("rely", 8)]) (st := true) sc_step_gripped.nd (di_val (de_var 6)) (blkOk_by (by kernel_rfl)) (fun _ _ _ _ _ => (dt_name 8 sc_step_gripped.nd)) (fun _ _ _ _ _ => (dts_one (dt_cmpx (ox_neM hr) (DE.bor (de_var 8)) (DE.bor (de_tup (da_cons (de_var 1) (da_cons de_str da_nil))))))) (fun _ _ _ _ _ => (de_var 8)))) da_nil)))
    (dss_one (ds_ret (de_tup (da_cons (de_var 4) (da_cons (de_tup (da_cons de_str (da_cons (de_tup (da_cons (de_var 1) da_nil)) (da_cons (de_sub (DE.b1 (de_var 5)) (DE.bor de_int)) da_nil)))) (da_cons (de_var 7) da_nil))))))) dss_nil)
    (dss_one (ds_ret (de_var 0))))))
theorem sc_gripped : FnScope ["yard", "hand", "slot", "steps", "spot", "first", "found", "room", "hands", "place", "step"] ["yard", "hand", "slot"] (defScope s_gripped) := ⟨rfl, rfl, rfl, by decide +kernel, rfl, by decide +kernel, by decide +kernel⟩
theorem ok_gripped (Z : Fs K mg) (F : FunD K "gripped" "gripped" (defArgs s_gripped) (defBody s_gripped) (defScope s_gripped) [] [] f fd) (h_need_slot : DefOk P w K mg base (clOf K) "need_slot" 2 [false, false] false F_need_slot []) (h_looks_into : DefOk P w K mg base (clOf K) "looks_into" 1 [false, false] false F_looks_into []) (h_step_gripped : DefOk P w K mg base (clOf K) "step_gripped" 1 [false, false, false, false] false F_step_gripped []) (h_is_whole : DefOk P w K mg base (clOf K) "is_whole" 1 [false] false F_is_whole []) :
    FnOk P w K mg base (L2.CX P w) 3 f fd ["yard", "hand", "slot"] (spD K w (clOf K) [false, false, false] false F_gripped) :=
  fn_okD F sc_gripped rfl fun cdv A outer s H E a0 hr _ =>
    (dss_cons (ds_asg (de_var 0) (dt_tup (dts_cons 7 (dts_cons 8 dts_nil sc_gripped.nd) sc_gripped.nd)))
    (dss_cons (ds_if (dt_bo (dw_or (dt_not (dt_tru (DE.bor (de_fn h_is_whole hr (takes_of rfl rfl rfl rfl) (dg_cons (de_var 1) dg_nil))))) (dw_or1 (dt_not (dt_chainx ox_le ox_lt (DE.bor de_int) (DE.bor (de_var 1)) (DE.bor (de_call cx_len Z.z_len (by decide +kernel) (da_cons (DE.bor (de_var 8)) da_nil)))))))) (dss_one (ds_raise 6 (errF_of Z.err) (takes_of rfl rfl rfl rfl) Z.g_NoSlot)) dss_nil)
    (dss_cons (ds_set 3 sc_gripped.nd (de_sub (DE.b1 (de_var 8)) (DE.bor (de_var 1))))
    (dss_cons (ds_set 4 sc_gripped.nd (de_fn h_need_slot hr (takes_of rfl rfl rfl rfl) (dg_cons (de_var 3) (dg_cons (de_var 2) dg_nil))))
    (dss_cons (ds_set 5 sc_gripped.nd (de_sub (DE.b1 (de_fn h_looks_into hr (takes_of rfl rfl rfl rfl) (dg_cons (de_var 3) (dg_cons (de_var 2) dg_nil)))) (DE.bor de_int)))
    (dss_cons (ds_thenF 6 (ds_setLc 6 (own := [("place", 9), ("step", 10)]) (st := true) sc_gripped.nd (di_enum (de_var 3) Z.z_enumerate) (blkOk_by (by kernel_rfl)) (fun _ _ _ _ _ => (dt_tup (dts_cons 9 (dts_cons 10 dts_nil sc_gripped.nd) sc_gripped.nd))) (fun _ _ _ _ _ => dts_yes) (fun _ _ _ _ _ => (de_fn h_step_gripped hr takes0 (dg_cons (de_var 10) (dg_cons (de_var 2) (dg_cons (de_var 4) (dg_cons (de_cmpx ox_gt (DE.bor (de_var 9)) (DE.bor (de_var 5))) dg_nil)))))) (sw_true rfl rfl rfl (by decide +kernel))))
    (dss_one (ds_ret (de_tup (da_cons (de_var 7) (da_cons (DE.frz (de_bin ox_add (DE.b1 (de_bin ox_add (DE.b1 (de_sl (DE.b1 (de_var 8)) do_no (do_yes (de_var 1)))) (DE.b1 (de_tup (da_cons (de_callT cx_tuple Z.z_tuple (by decide +kernel) (da_cons (DE.b1 (de_var 6)) da_nil)) da_nil))))) (DE.b1 (de_sl (DE.b1 (de_var 8)) (do_yes (DE.frz (de_bin ox_add (DE.b1 (de_var 1)) (DE.b1 de_int)))) do_no)))) da_nil)))))))))))
theorem sc__law_state : FnScope ["_law_script", "_law_k", "_law_cell"] ["_law_script", "_law_k"] (defScope s__law_state) := ⟨rfl, rfl, rfl, by decide +kernel, rfl, by decide +kernel, by decide +kernel⟩
theorem ok__law_state (Z : Fs K mg) (F : FunD K "_law_state" "_law_state" (defArgs s__law_state) (defBody s__law_state) (defScope s__law_state) [] [] f fd)  :
    FnOk P w K mg base (L2.CX P w) 1 f fd ["_law_script", "_law_k"] (spD K w (clOf K) [false, false] true F__law_state) :=
  fn_okD F sc__law_state rfl fun cdv A outer s H E a0 hr _ =>
    (dss_cons (ds_set 2 sc__law_state.nd (DE.frz (de_bin ox_add (DE.b1 (de_bin ox_mod (DE.bor (de_call cx_sum Z.z_sum (by decide +kernel) (da_cons (DE.bor (de_var 0)) da_nil))) (DE.bor de_int))) (DE.b1 (de_bin ox_mul (DE.b1 de_int) (DE.bor (de_var 1)))))))
    (dss_cons (ds_if (dt_cmpx ox_lt (DE.bor (de_var 1)) (DE.bor (de_call cx_len Z.z_len (by decide +kernel) (da_cons (DE.bor (de_var 0)) da_nil)))) (dss_one (ds_set 2 sc__law_state.nd (de_sub (DE.b1 (de_var 0)) (DE.bor (de_var 1))))) dss_nil)
    (dss_cons (ds_if (dt_cmpx ox_ge (DE.bor (de_var 2)) (DE.bor (de_bin ox_pow (DE.bor de_int) (DE.bor de_int)))) (dss_one (ds_retF (de_lst (da_cons de_int (da_cons (de_bin ox_sub (DE.bor (de_var 2)) (DE.bor (de_bin ox_pow (DE.bor de_int) (DE.bor de_int)))) (da_cons (de_var 1) da_nil)))))) dss_nil)
    (dss_one (ds_retF (de_lst (da_cons de_int (da_cons (de_bin ox_mod (DE.bor (de_bin ox_add (DE.b1 (de_bin ox_add (DE.b1 (de_bin ox_add (DE.b1 (de_bin ox_mul (DE.b1 (de_bin ox_mod (DE.bor (de_var 2)) (DE.bor de_int))) (DE.bor de_int))) (DE.b1 (de_bin ox_mul (DE.b1 de_int) (DE.bor (de_var 1)))))) (DE.b1 (de_call cx_len Z.z_len (by decide +kernel) (da_cons (DE.bor (de_var 0)) da_nil))))) (DE.b1 de_int))) (DE.bor de_int)) (da_cons (DE.frz (de_bin ox_add (DE.b1 (de_var 1)) (DE.b1 de_int))) da_nil)))))))))
theorem sc__law_next : FnScope ["_law_state_here", "_law_size", "_law_mixed", "_law_digit"] ["_law_state_here", "_law_size"] (defScope s__law_next) := ⟨rfl, rfl, rfl, by decide +kernel, rfl, by decide +kernel, by decide +kernel⟩
theorem ok__law_next (Z : Fs K mg) (F : FunD K "_law_next" "_law_next" (defArgs s__law_next) (defBody s__law_next) (defScope s__law_next) [] [] f fd)  :
    FnOk P w K mg base (L2.CX P w) 1 f fd ["_law_state_here", "_law_size"] (spD K w (clOf K) [true, false] false F__law_next) :=
  fn_okD F sc__law_next rfl fun cdv A outer s H E a0 hr _ =>
    (dss_cons (ds_if (dt_cmpx (ox_eqM hr) (DE.bor (de_stIx 0 0 rfl)) (DE.bor de_int)) (dss_cons (ds_set 3 sc__law_next.nd (de_bin ox_mod (DE.bor (de_stIx 0 1 rfl)) (DE.bor (de_var 1))))
    (dss_cons (ds_stSet 0 1 rfl (de_bin ox_div (DE.bor (de_stIx 0 1 rfl)) (DE.bor (de_var 1))))
    (dss_one (ds_ret (de_var 3))))) dss_nil)
    (dss_cons (ds_stSet 0 1 rfl (de_bin ox_mod (DE.bor (de_bin ox_add (DE.b1 (de_bin ox_mul (DE.b1 (de_stIx 0 1 rfl)) (DE.bor de_int))) (DE.b1 (de_stIx 0 2 rfl)))) (DE.bor de_int)))
    (dss_cons (ds_set 2 sc__law_next.nd (de_bin ox_mod (DE.bor (de_bin ox_mul (DE.b1 (de_stIx 0 1 rfl)) (DE.bor (de_stIx 0 1 rfl)))) (DE.bor de_int)))
    (dss_one (ds_ret (de_bin ox_mod (DE.bor (de_bin ox_div (DE.bor (de_bin ox_mod (DE.bor (de_bin ox_mul (DE.b1 (de_var 2)) (DE.bor (de_var 2)))) (DE.bor de_int))) (DE.bor de_int))) (DE.bor (de_var 1))))))))
theorem sc__law_kept : FnScope ["_law_some"] [] (defScope s__law_kept) := ⟨rfl, rfl, rfl, by decide +kernel, rfl, by decide +kernel, by decide +kernel⟩
theorem ok__law_kept (Z : Fs K mg) (F : FunD K "_law_kept" "_law_kept" (defArgs s__law_kept) (defBody s__law_kept) (defScope s__law_kept) [] [] f fd)  :
    FnOk P w K mg base (L2.CX P w) 1 f fd [] (spD K w (clOf K) [] false F__law_kept) :=
  fn_okD F sc__law_kept rfl fun cdv A outer s H E a0 hr _ =>
    (dss_cons (ds_set 0 sc__law_kept.nd de_str)
    (dss_cons (ds_set 0 sc__law_kept.nd (DE.frz (de_bin ox_add (DE.b1 (de_var 0)) (DE.b1 de_str))))
    (dss_one (ds_ret (DE.frz (de_meth PySem.F.plainAttrs_str PySem.F.slot_str_split PySem.F.type_str_split mx_split (DE.bor (de_bin ox_add (DE.b1 (de_var 0)) (DE.b1 de_str))) (da_cons (DE.bor de_str) da_nil)))))))
theorem sc__law_words : FnScope ["_law_state_here", "_law_size", "_law_letters", "_law_shift", "_law_long", "_law_place", "_law_base", "_law_signs", "_law_found", "_law_k", "_law_sign", "_law_word"] ["_law_state_here", "_law_size"] (defScope s__law_words) := ⟨rfl, rfl, rfl, by decide +kernel, rfl, by decide +kernel, by decide +kernel⟩
theorem ok__law_words (Z : Fs K mg) (F : FunD K "_law_words" "_law_words" (defArgs s__law_words) (defBody s__law_words) (defScope s__law_words) [] [] f fd) (h__law_next : DefOk P w K mg base (clOf K) "_law_next" 1 [true, false] false F__law_next []) (h__law_kept : DefOk P w K mg base (clOf K) "_law_kept" 1 [] false F__law_kept []) :
    FnOk P w K mg base (L2.CX P w) 2 f fd ["_law_state_here", "_law_size"] (spD K w (clOf K) [true, false] false F__law_words) :=
  fn_okD F sc__law_words rfl fun cdv A outer s H E a0 hr _ =>
    (dss_cons (ds_set 2 sc__law_words.nd de_str)
    (dss_cons (ds_set 3 sc__law_words.nd (de_fnS h__law_next hr (takes_of rfl rfl rfl rfl) (dg_st 0 (dg_cons de_int dg_nil))))
    (dss_cons (ds_if (dt_bo (dw_and (dt_cmpx (ox_eqM hr) (DE.bor (de_fnS h__law_next hr (takes_of rfl rfl rfl rfl) (dg_st 0 (dg_cons de_int dg_nil)))) (DE.bor de_int)) (dw_and1 (dt_cmpx ox_lt (DE.bor (de_var 1)) (DE.bor de_int))))) (dss_one (ds_ret (DE.frz (de_lc (own := [("_law_k", 9)]) (st := true) sc__law_words.nd (di_range1 (de_var 1) Z.z_range) (blkOk_by (by kernel_rfl)) (fun _ _ _ _ _ => (dt_name 9 sc__law_words.nd)) (fun _ _ _ _ _ => dts_yes) (fun _ _ _ _ _ => (DE.frz (de_bin ox_mul (DE.b1 (de_sub (DE.b1 (de_var 2)) (DE.bor (de_var 3)))) (DE.bor (de_bin ox_add (DE.b1 de_int) (DE.b1 (de_var 9))))))))))) dss_nil)
    (dss_cons (ds_set 4 sc__law_words.nd (DE.frz (de_bin ox_add (DE.b1 de_int) (DE.b1 (de_fnS h__law_next hr (takes_of rfl rfl rfl rfl) (dg_st 0 (dg_cons de_int dg_nil)))))))
    (dss_cons (ds_set 5 sc__law_words.nd (de_fnS h__law_next hr (takes_of rfl rfl rfl rfl) (dg_st 0 (dg_cons (de_var 4) dg_nil))))
    (dss_cons (ds_set 6 sc__law_words.nd (de_meth PySem.F.plainAttrs_str PySem.F.slot_str_join PySem.F.type_str_join mx_join (DE.bor de_str) (da_cons (DE.bor (de_lc (own := [("_law_k", 9)]) (st := true) sc__law_words.nd (di_range1 (de_var 4) Z.z_range) (blkOk_by (by kernel_rfl)) (fun _ _ _ _ _ => (dt_name 9 sc__law_words.nd)) (fun _ _ _ _ _ => dts_yes) (fun _ _ _ _ _ => (de_sub (DE.b1 (de_var 2)) (DE.bor (de_bin ox_mod (DE.bor (de_bin ox_add (DE.b1 (de_var 3)) (DE.b1 (de_bin ox_mul (DE.b1 de_int) (DE.bor (de_var 9)))))) (DE.bor de_int))))))) da_nil)))
    (dss_cons (ds_thenF 7 (ds_setLc 7 (own := [("_law_k", 9)]) (st := true) sc__law_words.nd (di_range1 (de_var 1) Z.z_range) (blkOk_by (by kernel_rfl)) (fun _ _ _ _ _ => (dt_name 9 sc__law_words.nd)) (fun _ _ _ _ _ => dts_yes) (fun _ _ _ _ _ => (de_sub (DE.b1 (de_var 2)) (DE.bor (de_bin ox_mod (DE.bor (de_bin ox_add (DE.b1 (de_bin ox_add (DE.b1 (de_var 3)) (DE.b1 de_int))) (DE.b1 (de_bin ox_mul (DE.b1 de_int) (DE.bor (de_var 9)))))) (DE.bor de_int))))) (sw_true rfl rfl rfl (by decide +kernel))))
    (dss_cons (ds_thenF 8 (ds_setLc 8 (own := [("_law_sign", 10)]) (st := true) sc__law_words.nd (di_val (de_var 7)) (blkOk_by (by kernel_rfl)) (fun _ _ _ _ _ => (dt_name 10 sc__law_words.nd)) (fun _ _ _ _ _ => dts_yes) (fun _ _ _ _ _ => (DE.frz (de_bin ox_add (DE.b1 (de_bin ox_add (DE.b1 (de_sl (DE.b1 (de_var 6)) do_no (do_yes (de_var 5)))) (DE.b1 (de_var 10)))) (DE.b1 (de_sl (DE.b1 (de_var 6)) (do_yes (DE.frz (de_bin ox_add (DE.b1 (de_var 5)) (DE.b1 de_int)))) do_no))))) (sw_true rfl rfl rfl (by decide +kernel))))
    (dss_one (ds_ret (DE.frz (de_lc (own := [("_law_word", 11)]) (st := true) sc__law_words.nd (di_val (de_var 8)) (blkOk_by (by kernel_rfl)) (fun _ _ _ _ _ => (dt_name 11 sc__law_words.nd)) (fun _ _ _ _ _ => dts_yes) (fun _ _ _ _ _ => (DE.frz (de_bin ox_add (DE.b1 (de_var 11)) (DE.b1 (de_bin ox_mul (DE.b1 de_str) (DE.bor (de_callT cx_int Z.z_int (by decide +kernel) (da_cons (DE.bor (de_cmpx (ox_in hr) (DE.bor (de_var 11)) (DE.bor (de_fn0 h__law_kept hr takes0)))) da_nil))))))))))))))))))))
theorem sc__law_any_sign : FnScope ["_law_state_here", "_law_some"] ["_law_state_here"] (defScope s__law_any_sign) := ⟨rfl, rfl, rfl, by decide +kernel, rfl, by decide +kernel, by decide +kernel⟩
theorem ok__law_any_sign (Z : Fs K mg) (F : FunD K "_law_any_sign" "_law_any_sign" (defArgs s__law_any_sign) (defBody s__law_any_sign) (defScope s__law_any_sign) [] [] f fd) (h__law_next : DefOk P w K mg base (clOf K) "_law_next" 1 [true, false] false F__law_next []) :
    FnOk P w K mg base (L2.CX P w) 2 f fd ["_law_state_here"] (spD K w (clOf K) [true] false F__law_any_sign) :=
  fn_okD F sc__law_any_sign rfl fun cdv A outer s H E a0 hr _ =>
    (dss_cons (ds_set 1 sc__law_any_sign.nd de_str)
    (dss_cons (ds_set 1 sc__law_any_sign.nd (DE.frz (de_bin ox_add (DE.b1 (de_var 1)) (DE.b1 de_str))))
    (dss_one (ds_ret (de_sub (DE.b1 (de_var 1)) (DE.bor (de_fnS h__law_next hr (takes_of rfl rfl rfl rfl) (dg_st 0 (dg_cons (de_call cx_len Z.z_len (by decide +kernel) (da_cons (DE.bor (de_var 1)) da_nil)) dg_nil)))))))))
theorem sc__law_guard : FnScope ["_law_state_here", "_law_words_here", "_law_some"] ["_law_state_here", "_law_words_here"] (defScope s__law_guard) := ⟨rfl, rfl, rfl, by decide +kernel, rfl, by decide +kernel, by decide +kernel⟩
theorem ok__law_guard (Z : Fs K mg) (F : FunD K "_law_guard" "_law_guard" (defArgs s__law_guard) (defBody s__law_guard) (defScope s__law_guard) [] [] f fd) (h__law_next : DefOk P w K mg base (clOf K) "_law_next" 1 [true, false] false F__law_next []) :
    FnOk P w K mg base (L2.CX P w) 2 f fd ["_law_state_here", "_law_words_here"] (spD K w (clOf K) [true, false] false F__law_guard) :=
  fn_okD F sc__law_guard rfl fun cdv A outer s H E a0 hr _ =>
    (dss_cons (ds_set 2 sc__law_guard.nd (DE.frz (de_lst (da_cons (de_tup (da_cons (de_sub (DE.b1 (de_var 1)) (DE.bor de_int)) (da_cons de_str da_nil))) (da_cons (de_tup (da_cons (de_sub (DE.b1 (de_var 1)) (DE.bor de_int)) (da_cons de_str da_nil))) (da_cons (de_tup (da_cons (de_sub (DE.b1 (de_var 1)) (DE.bor de_int)) (da_cons de_str da_nil))) (da_cons (de_tup (da_cons (de_sub (DE.b1 (de_var 1)) (DE.bor de_int)) (da_cons de_str (da_cons (de_sub (DE.b1 (de_var 1)) (DE.bor de_int)) da_nil)))) da_nil)))))))
    (dss_one (ds_ret (de_sub (DE.b1 (de_bin ox_add (DE.b1 (de_lst (da_cons de_none (da_cons de_none (da_cons de_none da_nil))))) (DE.b1 (de_var 2)))) (DE.bor (de_fnS h__law_next hr (takes_of rfl rfl rfl rfl) (dg_st 0 (dg_cons de_int dg_nil))))))))
theorem sc__law_relies : FnScope ["_law_state_here", "_law_words_here", "_law_some", "_law_first", "_law_by", "_law_k"] ["_law_state_here", "_law_words_here"] (defScope s__law_relies) := ⟨rfl, rfl, rfl, by decide +kernel, rfl, by decide +kernel, by decide +kernel⟩
theorem ok__law_relies (Z : Fs K mg) (F : FunD K "_law_relies" "_law_relies" (defArgs s__law_relies) (defBody s__law_relies) (defScope s__law_relies) [] [] f fd) (h__law_next : DefOk P w K mg base (clOf K) "_law_next" 1 [true, false] false F__law_next []) :
    FnOk P w K mg base (L2.CX P w) 2 f fd ["_law_state_here", "_law_words_here"] (spD K w (clOf K) [true, false] false F__law_relies) :=
  fn_okD F sc__law_relies rfl fun cdv A outer s H E a0 hr _ =>
    (dss_cons (ds_set 2 sc__law_relies.nd (DE.frz (de_lst (da_cons (de_tup (da_cons (de_sub (DE.b1 (de_var 1)) (DE.bor de_int)) (da_cons de_str da_nil))) (da_cons (de_tup (da_cons (de_sub (DE.b1 (de_var 1)) (DE.bor de_int)) (da_cons de_str da_nil))) (da_cons (de_tup (da_cons (de_sub (DE.b1 (de_var 1)) (DE.bor de_int)) (da_cons de_str da_nil))) (da_cons (de_tup (da_cons (de_sub (DE.b1 (de_var 1)) (DE.bor de_int)) (da_cons de_str da_nil))) da_nil)))))))
    (dss_cons (ds_asg (de_tup (da_cons (de_fnS h__law_next hr (takes_of rfl rfl rfl rfl) (dg_st 0 (dg_cons de_int dg_nil))) (da_cons (de_sub (DE.b1 (de_lst (da_cons de_int (da_cons de_int da_nil)))) (DE.bor (de_fnS h__law_next hr (takes_of rfl rfl rfl rfl) (dg_st 0 (dg_cons de_int dg_nil))))) da_nil))) (dt_tup (dts_cons 3 (dts_cons 4 dts_nil sc__law_relies.nd) sc__law_relies.nd)))
    (dss_one (ds_ret (de_callT cx_tuple Z.z_tuple (by decide +kernel) (da_cons (DE.b1 (de_lc (own := [("_law_k", 5)]) (st := true) sc__law_relies.nd (di_range1 (de_fnS h__law_next hr (takes_of rfl rfl rfl rfl) (dg_st 0 (dg_cons de_int dg_nil))) Z.z_range) (blkOk_by (by kernel_rfl)) (fun _ _ _ _ _ => (dt_name 5 sc__law_relies.nd)) (fun _ _ _ _ _ => dts_yes) (fun _ _ _ _ _ => (de_sub (DE.b1 (de_var 2)) (DE.bor (de_bin ox_mod (DE.bor (de_bin ox_add (DE.b1 (de_var 3)) (DE.b1 (de_bin ox_mul (DE.b1 (de_var 5)) (DE.bor (de_var 4)))))) (DE.bor de_int))))))) da_nil))))))
theorem sc__law_gripping : FnScope ["_law_state_here", "_law_slots", "_law_names", "_law_spot", "_law_steps", "_law_k", "_law_relies_here", "_law_value", "_law_some", "_law_deed"] ["_law_state_here", "_law_slots", "_law_names"] (defScope s__law_gripping) := ⟨rfl, rfl, rfl, by decide +kernel, rfl, by decide +kernel, by decide +kernel⟩
theorem ok__law_gripping (Z : Fs K mg) (F : FunD K "_law_gripping" "_law_gripping" (defArgs s__law_gripping) (defBody s__law_gripping) (defScope s__law_gripping) [] [] f fd) (h__law_next : DefOk P w K mg base (clOf K) "_law_next" 1 [true, false] false F__law_next []) (h__law_relies : DefOk P w K mg base (clOf K) "_law_relies" 2 [true, false] false F__law_relies []) (h__law_guard : DefOk P w K mg base (clOf K) "_law_guard" 2 [true, false] false F__law_guard []) :
    FnOk P w K mg base (L2.CX P w) 3 f fd ["_law_state_here", "_law_slots", "_law_names"] (spD K w (clOf K) [true, false, false] false F__law_gripping) :=
  fn_okD F sc__law_gripping rfl fun cdv A outer s H E a0 hr _ =>
    (dss_cons (ds_set 3 sc__law_gripping.nd (de_tup (da_cons de_none (da_cons (de_sub (DE.b1 (de_var 2)) (DE.bor de_int)) da_nil))))
    (dss_cons (ds_setO 4 sc__law_gripping.nd (de_lst (da_cons (de_tup (da_cons de_none (da_cons (de_tup (da_cons de_str (da_cons (de_sub (DE.b1 (de_var 1)) (DE.bor de_int)) (da_cons (de_var 3) da_nil)))) (da_cons (de_tup da_nil) da_nil)))) da_nil)))
    (dss_cons (ds_if (dt_cmpx (ox_eqM hr) (DE.bor (de_fnS h__law_next hr (takes_of rfl rfl rfl rfl) (dg_st 0 (dg_cons de_int dg_nil)))) (DE.bor de_int)) (dss_one (ds_app 4 (de_tup (da_cons de_none (da_cons (de_tup (da_cons de_str (da_cons (de_sub (DE.b1 (de_var 1)) (DE.bor de_int)) (da_cons (de_tup (da_cons de_none (da_cons (de_sub (DE.b1 (de_var 2)) (DE.bor de_int)) da_nil))) da_nil)))) (da_cons (de_tup da_nil) da_nil)))))) dss_nil)
    (dss_cons (ds_for (passes_of rfl) (di_range1 (de_bin ox_sub (DE.bor (de_bin ox_add (DE.b1 de_int) (DE.b1 (de_fnS h__law_next hr (takes_of rfl rfl rfl rfl) (dg_st 0 (dg_cons de_int dg_nil)))))) (DE.bor (de_call cx_len Z.z_len (by decide +kernel) (da_cons (de_varB 4) da_nil)))) Z.z_range) (dt_name 5 sc__law_gripping.nd) (dss_cons (ds_set 6 sc__law_gripping.nd (DE.frz (de_bin ox_add (DE.b1 (de_tup (da_cons (de_tup (da_cons (de_sub (DE.b1 (de_var 1)) (DE.bor de_int)) (da_cons de_str da_nil))) da_nil))) (DE.b1 (de_callT cx_tuple Z.z_tuple (by decide +kernel) (da_cons (DE.b1 (de_bin ox_mul (DE.b1 (de_lst (da_cons (de_tup (da_cons (de_sub (DE.b1 (de_var 1)) (DE.bor de_int)) (da_cons de_str da_nil))) da_nil))) (DE.bor (de_fnS h__law_next hr (takes_of rfl rfl rfl rfl) (dg_st 0 (dg_cons de_int dg_nil)))))) da_nil))))))
    (dss_cons (ds_set 7 sc__law_gripping.nd (de_sub (DE.b1 (de_lst (da_cons de_int (da_cons de_int (da_cons (DE.frz (de_bin ox_add (DE.b1 (de_bin ox_mul (DE.b1 de_int) (DE.bor (de_var 5)))) (DE.b1 (de_fnS h__law_next hr (takes_of rfl rfl rfl rfl) (dg_st 0 (dg_cons de_int dg_nil)))))) da_nil))))) (DE.bor (de_fnS h__law_next hr (takes_of rfl rfl rfl rfl) (dg_st 0 (dg_cons de_int dg_nil))))))
    (dss_cons (ds_set 8 sc__law_gripping.nd (DE.frz (de_lst (da_cons (de_tup (da_cons de_str (da_cons (de_var 3) (da_cons (de_var 7) da_nil)))) (da_cons (de_tup (da_cons de_str (da_cons (de_var 3) (da_cons (de_var 7) da_nil)))) da_nil)))))
    (dss_cons (ds_set 8 sc__law_gripping.nd (DE.frz (de_bin ox_add (DE.b1 (de_var 8)) (DE.b1 (de_lst (da_cons (de_tup (da_cons de_str (da_cons (de_sub (DE.b1 (de_var 1)) (DE.bor de_int)) (da_cons (de_var 3) da_nil)))) (da_cons (de_tup (da_cons de_str (da_cons (de_sub (DE.b1 (de_var 1)) (DE.bor de_int)) (da_cons (de_var 3) da_nil)))) da_nil)))))))
    (dss_cons (ds_set 8 sc__law_gripping.nd (DE.frz (de_bin ox_add (DE.b1 (de_var 8)) (DE.b1 (de_lst (da_cons (de_tup (da_cons de_str (da_cons (de_tup (da_cons de_none (da_cons (de_sub (DE.b1 (de_var 2)) (DE.bor de_int)) da_nil))) (da_cons (de_var 7) da_nil)))) (da_cons (de_tup (da_cons de_str (da_cons (de_var 3) (da_cons (de_var 7) da_nil)))) (da_cons (de_tup (da_cons de_str (da_cons (de_var 3) da_nil))) da_nil))))))))
    (dss_cons (ds_set 8 sc__law_gripping.nd (DE.frz (de_bin ox_add (DE.b1 (de_var 8)) (DE.b1 (de_lst (da_cons (de_tup (da_cons de_str (da_cons (de_var 3) (da_cons (de_tup (da_cons de_none (da_cons (de_sub (DE.b1 (de_var 2)) (DE.bor de_int)) da_nil))) da_nil)))) (da_cons (de_tup (da_cons de_str (da_cons (de_sub (DE.b1 (de_var 1)) (DE.bor de_int)) (da_cons (de_tup (da_cons de_none (da_cons (de_sub (DE.b1 (de_var 2)) (DE.bor de_int)) da_nil))) da_nil)))) da_nil)))))))
    (dss_cons (ds_set 8 sc__law_gripping.nd (DE.frz (de_bin ox_add (DE.b1 (de_var 8)) (DE.b1 (de_lst (da_cons (de_tup (da_cons de_str (da_cons (de_tup (da_cons (de_sub (DE.b1 (de_var 1)) (DE.bor de_int)) da_nil)) (da_cons (de_var 7) da_nil)))) (da_cons (de_tup (da_cons de_str (da_cons (de_tup (da_cons (de_sub (DE.b1 (de_var 1)) (DE.bor de_int)) (da_cons (de_sub (DE.b1 (de_var 2)) (DE.bor de_int)) da_nil))) (da_cons (de_var 7) da_nil)))) da_nil)))))))
    (dss_cons (ds_set 9 sc__law_gripping.nd (de_sub (DE.b1 (de_var 8)) (DE.bor (de_fnS h__law_next hr (takes_of rfl rfl rfl rfl) (dg_st 0 (dg_cons de_int dg_nil))))))
    (dss_cons (ds_if (dt_cmpx (ox_eqM hr) (DE.bor (de_fnS h__law_next hr (takes_of rfl rfl rfl rfl) (dg_st 0 (dg_cons de_int dg_nil)))) (DE.bor de_int)) (dss_one (ds_set 6 sc__law_gripping.nd (de_fnS h__law_relies hr (takes_of rfl rfl rfl rfl) (dg_st 0 (dg_cons (de_var 1) dg_nil))))) dss_nil)
    (dss_one (ds_app 4 (de_tup (da_cons (de_fnS h__law_guard hr (takes_of rfl rfl rfl rfl) (dg_st 0 (dg_cons (de_var 1) dg_nil))) (da_cons (de_var 9) (da_cons (de_var 6) da_nil))))))))))))))))
    (dss_one (ds_ret (de_callT cx_tuple Z.z_tuple (by decide +kernel) (da_cons (de_var1 4) da_nil))))))))
theorem sc__law_meddling : FnScope ["_law_state_here", "_law_names", "_law_steps", "_law_k", "_law_a", "_law_b", "_law_c", "_law_value", "_law_some", "_law_name"] ["_law_state_here", "_law_names"] (defScope s__law_meddling) := ⟨rfl, rfl, rfl, by decide +kernel, rfl, by decide +kernel, by decide +kernel⟩
theorem ok__law_meddling (Z : Fs K mg) (F : FunD K "_law_meddling" "_law_meddling" (defArgs s__law_meddling) (defBody s__law_meddling) (defScope s__law_meddling) [] [] f fd) (h__law_next : DefOk P w K mg base (clOf K) "_law_next" 1 [true, false] false F__law_next []) :
    FnOk P w K mg base (L2.CX P w) 2 f fd ["_law_state_here", "_law_names"] (spD K w (clOf K) [true, false] false F__law_meddling) :=
  fn_okD F sc__law_meddling rfl fun cdv A outer s H E a0 hr _ =>
    (dss_cons (ds_setO 2 sc__law_meddling.nd (de_lst da_nil))
    (dss_cons (ds_asg (DE.frz (de_lc (own := [("_law_name", 9)]) (st := true) sc__law_meddling.nd (di_val (DE.frz (de_sl (DE.b1 (de_var 1)) do_no (do_yes de_int)))) (blkOk_by (by kernel_rfl)) (fun _ _ _ _ _ => (dt_name 9 sc__law_meddling.nd)) (fun _ _ _ _ _ => dts_yes) (fun _ _ _ _ _ => (de_tup (da_cons de_none (da_cons (de_var 9) da_nil)))))) (dt_lst (dts_cons 4 (dts_cons 5 (dts_cons 6 dts_nil sc__law_meddling.nd) sc__law_meddling.nd) sc__law_meddling.nd)))
    (dss_cons (ds_for (passes_of rfl) (di_range1 (DE.frz (de_bin ox_add (DE.b1 de_int) (DE.b1 (de_fnS h__law_next hr (takes_of rfl rfl rfl rfl) (dg_st 0 (dg_cons de_int dg_nil)))))) Z.z_range) (dt_name 3 sc__law_meddling.nd) (dss_cons (ds_set 7 sc__law_meddling.nd (DE.frz (de_bin ox_add (DE.b1 de_int) (DE.b1 (de_fnS h__law_next hr (takes_of rfl rfl rfl rfl) (dg_st 0 (dg_cons de_int dg_nil)))))))
    (dss_cons (ds_set 8 sc__law_meddling.nd (DE.frz (de_lst (da_cons (de_tup (da_cons de_str (da_cons (de_var 4) (da_cons (de_var 5) da_nil)))) (da_cons (de_tup (da_cons de_str (da_cons (de_var 4) da_nil))) (da_cons (de_tup (da_cons de_str (da_cons (de_var 4) (da_cons (de_var 7) da_nil)))) (da_cons (de_tup (da_cons de_str (da_cons (de_var 5) (da_cons (de_var 4) da_nil)))) (da_cons (de_tup (da_cons de_str (da_cons (de_var 4) (da_cons (de_var 7) da_nil)))) (da_cons (de_tup (da_cons de_str (da_cons (de_var 5) (da_cons (de_var 4) da_nil)))) da_nil)))))))))
    (dss_cons (ds_set 8 sc__law_meddling.nd (DE.frz (de_bin ox_add (DE.b1 (de_var 8)) (DE.b1 (de_lst (da_cons (de_tup (da_cons de_str (da_cons (de_var 6) (da_cons (de_var 7) da_nil)))) (da_cons (de_tup (da_cons de_str (da_cons (de_var 6) (da_cons (de_var 4) da_nil)))) (da_cons (de_tup (da_cons de_str (da_cons (de_sub (DE.b1 (de_var 1)) (DE.bor de_int)) da_nil))) (da_cons (de_tup (da_cons de_str (da_cons (de_var 5) da_nil))) da_nil)))))))))
    (dss_one (ds_app 2 (de_tup (da_cons de_none (da_cons (de_sub (DE.b1 (de_var 8)) (DE.bor (de_fnS h__law_next hr (takes_of rfl rfl rfl rfl) (dg_st 0 (dg_cons de_int dg_nil))))) (da_cons (de_tup da_nil) da_nil))))))))))
    (dss_one (ds_ret (de_callT cx_tuple Z.z_tuple (by decide +kernel) (da_cons (de_var1 2) da_nil)))))))
theorem sc__law_yard : FnScope ["_law_state_here", "_law_slots", "_law_names", "_law_inner", "_law_rows", "_law_own", "_law_other", "_law_room", "_law_hands", "_law_k"] ["_law_state_here"] (defScope s__law_yard) := ⟨rfl, rfl, rfl, by decide +kernel, rfl, by decide +kernel, by decide +kernel⟩
theorem ok__law_yard (Z : Fs K mg) (F : FunD K "_law_yard" "_law_yard" (defArgs s__law_yard) (defBody s__law_yard) (defScope s__law_yard) [] [] f fd) (h__law_words : DefOk P w K mg base (clOf K) "_law_words" 2 [true, false] false F__law_words []) (h__law_next : DefOk P w K mg base (clOf K) "_law_next" 1 [true, false] false F__law_next []) (h__law_gripping : DefOk P w K mg base (clOf K) "_law_gripping" 3 [true, false, false] false F__law_gripping []) (h__law_meddling : DefOk P w K mg base (clOf K) "_law_meddling" 2 [true, false] false F__law_meddling []) :
    FnOk P w K mg base (L2.CX P w) 4 f fd ["_law_state_here"] (spD K w (clOf K) [true] false F__law_yard) :=
  fn_okD F sc__law_yard rfl fun cdv A outer s H E a0 hr _ =>
    (dss_cons (ds_set 1 sc__law_yard.nd (de_fnS h__law_words hr (takes_of rfl rfl rfl rfl) (dg_st 0 (dg_cons de_int dg_nil))))
    (dss_cons (ds_set 2 sc__law_yard.nd (de_fnS h__law_words hr (takes_of rfl rfl rfl rfl) (dg_st 0 (dg_cons de_int dg_nil))))
    (dss_cons (ds_set 3 sc__law_yard.nd (de_sub (DE.b1 (de_lst (da_cons (de_tup da_nil) (da_cons (de_tup (da_cons (de_tup (da_cons (de_sub (DE.b1 (de_var 2)) (DE.bor de_int)) (da_cons (de_tup (da_cons (de_neg de_int) (da_cons de_int da_nil))) da_nil))) da_nil)) da_nil)))) (DE.bor (de_fnS h__law_next hr (takes_of rfl rfl rfl rfl) (dg_st 0 (dg_cons de_int dg_nil))))))
    (dss_cons (ds_set 4 sc__law_yard.nd (DE.frz (de_lst (da_cons (de_tup (da_cons (de_tup (da_cons (de_neg de_int) (da_cons de_int da_nil))) (da_cons (de_tup (da_cons de_str (da_cons (de_sub (DE.b1 (de_lst (da_cons de_int (da_cons de_int (da_cons de_int da_nil))))) (DE.bor (de_fnS h__law_next hr (takes_of rfl rfl rfl rfl) (dg_st 0 (dg_cons de_int dg_nil))))) da_nil))) da_nil))) (da_cons (de_tup (da_cons (de_tup (da_cons (de_neg de_int) (da_cons de_int da_nil))) (da_cons (de_tup (da_cons de_str (da_cons de_int da_nil))) da_nil))) (da_cons (de_tup (da_cons (de_tup (da_cons (de_neg de_int) (da_cons de_int da_nil))) (da_cons (de_tup (da_cons de_str (da_cons (de_var 3) da_nil))) da_nil))) da_nil))))))
    (dss_cons (ds_setO 5 sc__law_yard.nd (de_dict1 (de_sub (DE.b1 (de_var 2)) (DE.bor de_int)) (de_sub (DE.b1 (de_lst (da_cons (de_tup (da_cons (de_neg de_int) (da_cons de_int da_nil))) (da_cons (de_tup (da_cons (de_neg de_int) (da_cons de_int da_nil))) (da_cons (de_tup (da_cons (de_neg de_int) (da_cons de_int da_nil))) (da_cons (de_tup (da_cons (de_neg de_int) (da_cons de_int da_nil))) da_nil)))))) (DE.bor (de_fnS h__law_next hr (takes_of rfl rfl rfl rfl) (dg_st 0 (dg_cons de_int dg_nil)))))))
    (dss_cons (ds_if (dt_cmpx (ox_eqM hr) (DE.bor (de_fnS h__law_next hr (takes_of rfl rfl rfl rfl) (dg_st 0 (dg_cons de_int dg_nil)))) (DE.bor de_int)) (dss_one (ds_setO 5 sc__law_yard.nd de_dict0)) dss_nil)
    (dss_cons (ds_set 6 sc__law_yard.nd (de_sub (DE.b1 (de_lst (da_cons (de_tup (da_cons (de_neg de_int) (da_cons de_int da_nil))) (da_cons (de_tup (da_cons (de_neg de_int) (da_cons de_int da_nil))) (da_cons de_none da_nil))))) (DE.bor (de_fnS h__law_next hr (takes_of rfl rfl rfl rfl) (dg_st 0 (dg_cons de_int dg_nil))))))
    (dss_cons (ds_if (dt_bo (dw_and (dt_notN (DE.bor (de_var 6))) (dw_and1 (dt_bo (dw_or (dt_cmpx (ox_eqM hr) (DE.bor (de_var 6)) (DE.bor (de_tup (da_cons (de_neg de_int) (da_cons de_int da_nil))))) (dw_or1 (dt_notInVals hr (DE.bor (de_var 6)) (de_var1 5)))))))) (dss_one (ds_setKey 5 (de_var 6) (de_sub (DE.b1 (de_var 2)) (DE.bor de_int)))) dss_nil)
    (dss_cons (ds_set 7 sc__law_yard.nd (DE.frz (de_bin ox_add (DE.b1 (de_tup (da_cons (de_tup (da_cons (de_tup (da_cons (de_neg de_int) (da_cons de_int da_nil))) (da_cons (de_tup (da_cons de_str (da_cons (de_callT cx_tuple Z.z_tuple (by decide +kernel) (da_cons (DE.b1 (de_sortI hr Z.z_sorted (de_var1 5))) da_nil)) da_nil))) da_nil))) da_nil))) (DE.b1 (de_callT cx_tuple Z.z_tuple (by decide +kernel) (da_cons (DE.b1 (de_var 4)) da_nil))))))
    (dss_cons (ds_setO 8 sc__law_yard.nd (de_lst (da_cons (de_fnS h__law_gripping hr (takes_of rfl rfl rfl rfl) (dg_st 0 (dg_cons (de_var 1) (dg_cons (de_var 2) dg_nil)))) da_nil)))
    (dss_cons (ds_for (passes_of rfl) (di_range1 (DE.frz (de_bin ox_add (DE.b1 de_int) (DE.b1 (de_bin ox_div (DE.bor (de_fnS h__law_next hr (takes_of rfl rfl rfl rfl) (dg_st 0 (dg_cons de_int dg_nil)))) (DE.bor de_int))))) Z.z_range) (dt_name 9 sc__law_yard.nd) (dss_one (ds_app 8 (de_fnS h__law_meddling hr (takes_of rfl rfl rfl rfl) (dg_st 0 (dg_cons (de_var 2) dg_nil))))))
    (dss_one (ds_ret (de_tup (da_cons (de_tup (da_cons (de_var 7) (da_cons (de_callT cx_tuple Z.z_tuple (by decide +kernel) (da_cons (de_var1 8) da_nil)) da_nil))) (da_cons (de_var 1) (da_cons (de_var 2) da_nil)))))))))))))))))
theorem sc__law_spots : FnScope ["_law_step", "_law_part"] ["_law_step"] (defScope s__law_spots) := ⟨rfl, rfl, rfl, by decide +kernel, rfl, by decide +kernel, by decide +kernel⟩
theorem ok__law_spots (Z : Fs K mg) (F : FunD K "_law_spots" "_law_spots" (defArgs s__law_spots) (defBody s__law_spots) (defScope s__law_spots) [] [] f fd)  :
    FnOk P w K mg base (L2.CX P w) 1 f fd ["_law_step"] (spD K w (clOf K) [false] false F__law_spots) :=
  fn_okD F sc__law_spots rfl fun cdv A outer s H E a0 hr _ =>
    (dss_one (ds_ret (DE.frz (de_lc (own := [("_law_part", 1)]) (st := true) sc__law_spots.nd (di_val (DE.frz (de_sl (DE.b1 (de_sub (DE.b1 (de_var 0)) (DE.bor de_int))) (do_yes de_int) do_no))) (blkOk_by (by kernel_rfl)) (fun _ _ _ _ _ => (dt_name 1 sc__law_spots.nd)) (fun _ _ _ _ _ => (dts_one (dt_tru (DE.bor (de_isi (isiF_of Z.err) Z.z_isinstance (DE.bor (de_var 1)) (dk_ty "tuple" Z.z_tuple (by decide +kernel))))))) (fun _ _ _ _ _ => (de_var 1))))))
theorem sc__law_turned : FnScope ["_law_yard_here", "_law_hand", "_law_slot", "_law_steps", "_law_looks", "_law_grips", "_law_spot", "_law_found", "_law_k", "_law_step", "_law_guard_here", "_law_deed", "_law_relies_here", "_law_one", "_law_rely"] ["_law_yard_here", "_law_hand", "_law_slot"] (defScope s__law_turned) := ⟨rfl, rfl, rfl, by decide +kernel, rfl, by decide +kernel, by decide +kernel⟩
theorem ok__law_turned (Z : Fs K mg) (F : FunD K "_law_turned" "_law_turned" (defArgs s__law_turned) (defBody s__law_turned) (defScope s__law_turned) [] [] f fd) (h__law_spots : DefOk P w K mg base (clOf K) "_law_spots" 1 [false] false F__law_spots []) :
    FnOk P w K mg base (L2.CX P w) 2 f fd ["_law_yard_here", "_law_hand", "_law_slot"] (spD K w (clOf K) [false, false, false] false F__law_turned) :=
  fn_okD F sc__law_turned rfl fun cdv A outer s H E a0 hr _ =>
    (dss_cons (ds_set 3 sc__law_turned.nd (de_sub (DE.b1 (de_sub (DE.b1 (de_var 0)) (DE.bor de_int))) (DE.bor (de_var 1))))
    (dss_cons (ds_thenF 4 (ds_setLc 4 (own := [("_law_k", 8)]) (st := true) sc__law_turned.nd (di_range1 (de_call cx_len Z.z_len (by decide +kernel) (da_cons (DE.bor (de_var 3)) da_nil)) Z.z_range) (blkOk_by (by kernel_rfl)) (fun _ _ _ _ _ => (dt_name 8 sc__law_turned.nd)) (fun _ _ _ _ _ => (dts_one (dt_cmpx (ox_eqM hr) (DE.bor (de_sl (DE.b1 (de_sub (DE.b1 (de_sub (DE.b1 (de_var 3)) (DE.bor (de_var 8)))) (DE.bor de_int))) do_no (do_yes de_int))) (DE.bor (de_tup (da_cons de_str (da_cons (de_var 2) da_nil))))))) (fun _ _ _ _ _ => (de_var 8)) (sw_true rfl rfl rfl (by decide +kernel))))
    (dss_cons (ds_thenF 5 (ds_setLc 5 (own := [("_law_k", 8)]) (st := true) sc__law_turned.nd (di_range1 (de_call cx_len Z.z_len (by decide +kernel) (da_cons (DE.bor (de_var 3)) da_nil)) Z.z_range) (blkOk_by (by kernel_rfl)) (fun _ _ _ _ _ => (dt_name 8 sc__law_turned.nd)) (fun _ _ _ _ _ => (dts_one (dt_cmpx (ox_eqM hr) (DE.bor (de_sl (DE.b1 (de_sub (DE.b1 (de_sub (DE.b1 (de_var 3)) (DE.bor (de_var 8)))) (DE.bor de_int))) do_no (do_yes de_int))) (DE.bor (de_tup (da_cons de_str (da_cons (de_var 2) da_nil))))))) (fun _ _ _ _ _ => (de_var 8)) (sw_true rfl rfl rfl (by decide +kernel))))
    (dss_cons (ds_if (dt_bo (dw_or (dt_cmpx (ox_eqM hr) (DE.bor (de_var 4)) (DE.bor (de_lst da_nil))) (dw_or (dt_cmpx (ox_neM hr) (DE.bor (de_var 5)) (DE.bor (de_lst da_nil))) (dw_or1 (dt_notN (DE.bor (de_sub (DE.b1 (de_sub (DE.b1 (de_var 3)) (DE.bor (de_sub (DE.b1 (de_var 4)) (DE.bor de_int))))) (DE.bor de_int)))))))) (dss_one (ds_ret de_none)) dss_nil)
    (dss_cons (ds_set 6 sc__law_turned.nd (de_sub (DE.b1 (de_sub (DE.b1 (de_sub (DE.b1 (de_var 3)) (DE.bor (de_sub (DE.b1 (de_var 4)) (DE.bor de_int))))) (DE.bor de_int))) (DE.bor de_int)))
    (dss_cons (ds_setO 7 sc__law_turned.nd (de_lst da_nil))
    (dss_cons (ds_for (passes_of rfl) (di_enum (de_var 3) Z.z_enumerate) (dt_tup (dts_cons 8 (dts_cons 9 dts_nil sc__law_turned.nd) sc__law_turned.nd)) (dss_cons (ds_asg (de_var 9) (dt_tup (dts_cons 10 (dts_cons 11 (dts_cons 12 dts_nil sc__law_turned.nd) sc__law_turned.nd) sc__law_turned.nd)))
    (dss_cons (ds_if (dt_cmpx (ox_neM hr) (DE.bor (de_lc (own := [("_law_one", 13)]) (st := true) sc__law_turned.nd (di_val (de_fn h__law_spots hr (takes_of rfl rfl rfl rfl) (dg_cons (de_var 9) dg_nil))) (blkOk_by (by kernel_rfl)) (fun _ _ _ _ _ => (dt_name 13 sc__law_turned.nd)) (fun _ _ _ _ _ => (dts_one (dt_cmpx (ox_eqM hr) (DE.bor (de_sub (DE.b1 (de_var 13)) (DE.bor de_int))) (DE.bor (de_var 2))))) (fun _ _ _ _ _ => (de_var 13)))) (DE.bor (de_lst da_nil))) (dss_one (ds_ret de_none)) dss_nil)
    (dss_cons (ds_if (dt_cmpx (ox_in hr) (DE.bor (de_var 8)) (DE.bor (de_var 4))) (dss_cons (ds_if (dt_bo (dw_or (dt_cmpx (ox_neM hr) (DE.bor (de_sub (DE.b1 (de_var 11)) (DE.bor de_int))) (DE.bor (de_var 6))) (dw_or1 (dt_notN (DE.bor (de_sub (DE.b1 (de_var 6)) (DE.bor de_int))))))) (dss_one (ds_ret de_none)) dss_nil)
    (dss_one (ds_set 11 sc__law_turned.nd (de_tup (da_cons de_str (da_cons (de_var 2) (da_cons (de_var 6) da_nil))))))) (dss_one (ds_if (dt_bo (dw_and (dt_cmpx ox_gt (DE.bor (de_var 8)) (DE.bor (de_sub (DE.b1 (de_var 4)) (DE.bor de_int)))) (dw_and (dt_cmpx (ox_eqM hr) (DE.bor (de_sub (DE.b1 (de_var 11)) (DE.bor de_int))) (DE.bor de_str)) (dw_and (dt_cmpx (ox_eqM hr) (DE.bor (de_sub (DE.b1 (de_var 11)) (DE.bor de_int))) (DE.bor (de_var 6))) (dw_and1 (dt_cmpx (ox_in hr) (DE.bor (de_tup (da_cons (de_var 2) (da_cons de_str da_nil)))) (DE.bor (de_var 12)))))))) (dss_cons (ds_set 11 sc__law_turned.nd (de_tup (da_cons de_str (da_cons (de_tup (da_cons (de_var 2) da_nil)) (da_cons (de_sub (DE.b1 (de_var 11)) (DE.bor de_int)) da_nil)))))
    (dss_one (ds_set 12 sc__law_turned.nd (de_callT cx_tuple Z.z_tuple (by decide +kernel) (da_cons (DE.b1 (de_lc (own := [("_law_rely", 14)]) (st := true) sc__law_turned.nd (di_val (de_var 12)) (blkOk_by (by kernel_rfl)) (fun _ _ _ _ _ => (dt_name 14 sc__law_turned.nd)) (fun _ _ _ _ _ => (dts_one (dt_cmpx (ox_neM hr) (DE.bor (de_var 14)) (DE.bor (de_tup (da_cons (de_var 2) (da_cons de_str da_nil))))))) (fun _ _ _ _ _ => (de_var 14)))) da_nil))))) dss_nil)))
    (dss_one (ds_app 7 (de_tup (da_cons (de_var 10) (da_cons (de_var 11) (da_cons (de_var 12) da_nil))))))))))
    (dss_one (ds_ret (de_tup (da_cons (de_sub (DE.b1 (de_var 0)) (DE.bor de_int)) (da_cons (DE.frz (de_bin ox_add (DE.b1 (de_bin ox_add (DE.b1 (de_sl (DE.b1 (de_sub (DE.b1 (de_var 0)) (DE.bor de_int))) do_no (do_yes (de_var 1)))) (DE.b1 (de_tup (da_cons (de_callT cx_tuple Z.z_tuple (by decide +kernel) (da_cons (de_var1 7) da_nil)) da_nil))))) (DE.b1 (de_sl (DE.b1 (de_sub (DE.b1 (de_var 0)) (DE.bor de_int))) (do_yes (DE.frz (de_bin ox_add (DE.b1 (de_var 1)) (DE.b1 de_int)))) do_no)))) da_nil))))))))))))
theorem sc__law_refused : FnScope ["_law_yard_here", "_law_hand", "_law_slot", "_law_error", "e", "_law_others"] ["_law_yard_here", "_law_hand", "_law_slot"] (defScope s__law_refused) := ⟨rfl, rfl, rfl, by decide +kernel, rfl, by decide +kernel, by decide +kernel⟩
theorem ok__law_refused (Z : Fs K mg) (F : FunD K "_law_refused" "_law_refused" (defArgs s__law_refused) (defBody s__law_refused) (defScope s__law_refused) [] [] f fd) (h_gripped : DefOk P w K mg base (clOf K) "gripped" 3 [false, false, false] false F_gripped []) :
    FnOk P w K mg base (L2.CX P w) 4 f fd ["_law_yard_here", "_law_hand", "_law_slot"] (spD K w (clOf K) [false, false, false] false F__law_refused) :=
  fn_okD F sc__law_refused rfl fun cdv A outer s H E a0 hr _ =>
    (dss_cons (ds_set 3 sc__law_refused.nd de_none)
    (dss_cons (ds_tryAs 4 0 (errF_of Z.err) (takes_of rfl rfl rfl rfl) sc__law_refused.nd Z.g_StillError (fun W pn xe tk pp => (dss_one (ds_expr (de_fn h_gripped hr tk (dg_cons (de_var 0) (dg_cons (de_var 1) (dg_cons (de_var 2) dg_nil))))))) (fun a pn => (dss_one (ds_set 3 sc__law_refused.nd (de_var 4)))))
    (dss_cons (ds_set 5 sc__law_refused.nd (de_isiT (isiF_of Z.err) Z.z_isinstance (DE.bor (de_var 3)) (dks_cons (dk_own 5 Z.g_NoGap) (dks_cons (dk_own 1 Z.g_NoRoom) (dks_cons (dk_own 7 Z.g_NoText) (dks_cons (dk_own 4 Z.g_NoUse) (dks_cons (dk_own 3 Z.g_NoWeaving) (dks_cons (dk_own 2 Z.g_NoYard) (dks_cons (dk_own 8 Z.g_TooMany) dks_nil)))))))))
    (dss_one (ds_ret (de_and (de_isi (isiF_of Z.err) Z.z_isinstance (DE.bor (de_var 3)) (dk_own 6 Z.g_NoSlot)) (de_and (de_isi (isiF_of Z.err) Z.z_isinstance (DE.bor (de_var 3)) (dk_ty "ValueError" Z.z_ValueError (by decide +kernel))) (de_one (de_not (DE.bor (de_var 5)))))))))))
theorem sc__law_good : FnScope ["_law_state_here", "_law_spot", "_law_steps", "_law_yard_here", "_law_slots", "_law_names"] ["_law_state_here"] (defScope s__law_good) := ⟨rfl, rfl, rfl, by decide +kernel, rfl, by decide +kernel, by decide +kernel⟩
theorem ok__law_good (Z : Fs K mg) (F : FunD K "_law_good" "_law_good" (defArgs s__law_good) (defBody s__law_good) (defScope s__law_good) [] [] f fd) (h__law_yard : DefOk P w K mg base (clOf K) "_law_yard" 4 [true] false F__law_yard []) :
    FnOk P w K mg base (L2.CX P w) 5 f fd ["_law_state_here"] (spD K w (clOf K) [true] false F__law_good) :=
  fn_okD F sc__law_good rfl fun cdv A outer s H E a0 hr _ =>
    (dss_cons (ds_asg (de_fnS h__law_yard hr (takes_of rfl rfl rfl rfl) (dg_st 0 dg_nil)) (dt_tup (dts_cons 3 (dts_cons 4 (dts_cons 5 dts_nil sc__law_good.nd) sc__law_good.nd) sc__law_good.nd)))
    (dss_cons (ds_set 1 sc__law_good.nd (de_tup (da_cons de_none (da_cons (de_sub (DE.b1 (de_var 5)) (DE.bor de_int)) da_nil))))
    (dss_cons (ds_set 2 sc__law_good.nd (de_tup (da_cons (de_tup (da_cons de_none (da_cons (de_tup (da_cons de_str (da_cons (de_sub (DE.b1 (de_var 4)) (DE.bor de_int)) (da_cons (de_var 1) da_nil)))) (da_cons (de_tup da_nil) da_nil)))) (da_cons (de_tup (da_cons de_none (da_cons (de_tup (da_cons de_str (da_cons (de_var 1) (da_cons de_int da_nil)))) (da_cons (de_tup (da_cons (de_tup (da_cons (de_sub (DE.b1 (de_var 4)) (DE.bor de_int)) (da_cons de_str da_nil))) da_nil)) da_nil)))) da_nil))))
    (dss_one (ds_ret (de_tup (da_cons (de_tup (da_cons (de_sub (DE.b1 (de_var 3)) (DE.bor de_int)) (da_cons (DE.frz (de_bin ox_add (DE.b1 (de_tup (da_cons (de_var 2) da_nil))) (DE.b1 (de_sl (DE.b1 (de_sub (DE.b1 (de_var 3)) (DE.bor de_int))) (do_yes de_int) do_no)))) da_nil))) (da_cons (de_sub (DE.b1 (de_var 4)) (DE.bor de_int)) da_nil))))))))
theorem sc_law : FnScope ["_law_script", "_law_k", "_law_state_here", "_law_due", "_law_many", "_law_hands", "_law_at", "_law_sign", "_law_others", "_law_other", "_law_yard_here", "_law_slot", "_law_hand"] ["_law_script"] (defScope s_law) := ⟨rfl, rfl, rfl, by decide +kernel, rfl, by decide +kernel, by decide +kernel⟩
theorem ok_law (Z : Fs K mg) (F : FunD K "law" "law" (defArgs s_law) (defBody s_law) (defScope s_law) [] [] f fd) (h__law_state : DefOk P w K mg base (clOf K) "_law_state" 1 [false, false] true F__law_state []) (h__law_good : DefOk P w K mg base (clOf K) "_law_good" 5 [true] false F__law_good []) (h__law_turned : DefOk P w K mg base (clOf K) "_law_turned" 2 [false, false, false] false F__law_turned []) (h__law_next : DefOk P w K mg base (clOf K) "_law_next" 1 [true, false] false F__law_next []) (h__law_any_sign : DefOk P w K mg base (clOf K) "_law_any_sign" 2 [true] false F__law_any_sign []) (h_gripped : DefOk P w K mg base (clOf K) "gripped" 3 [false, false, false] false F_gripped []) (h__law_refused : DefOk P w K mg base (clOf K) "_law_refused" 4 [false, false, false] false F__law_refused []) :
    FnOk P w K mg base (L2.CX P w) 6 f fd ["_law_script"] (spL K 13 B_law) :=
  law_okD F sc_law fun cdv A outer s H E hr =>
    (dss_cons (ds_for (passes_of rfl) (di_range1 (de_call cx_max2 Z.z_max (by decide +kernel) (da_cons (DE.bor de_int) (da_cons (DE.bor (de_call cx_min2 Z.z_min (by decide +kernel) (da_cons (DE.bor (de_call cx_len Z.z_len (by decide +kernel) (da_cons (DE.bor (de_var 0)) da_nil))) (da_cons (DE.bor de_int) da_nil)))) da_nil))) Z.z_range) (dt_name 1 sc_law.nd) (dss_cons (ds_setSt 2 rfl sc_law.nd (de_fnF h__law_state hr (takes_of rfl rfl rfl rfl) (dg_cons (de_var 0) (dg_cons (de_var 1) dg_nil))))
    (dss_cons (ds_asg (de_fnS h__law_good hr (takes_of rfl rfl rfl rfl) (dg_st 2 dg_nil)) (dt_tup (dts_cons 10 (dts_cons 11 dts_nil sc_law.nd) sc_law.nd)))
    (dss_cons (ds_set 3 sc_law.nd (de_fn h__law_turned hr (takes_of rfl rfl rfl rfl) (dg_cons (de_var 10) (dg_cons de_int (dg_cons (de_var 11) dg_nil)))))
    (dss_cons (ds_if (dt_bo (dw_or (dt_isN (DE.bor (de_var 3))) (dw_or1 (dt_cmpx (ox_neM hr) (DE.bor (de_fn h_gripped hr (takes_of rfl rfl rfl rfl) (dg_cons (de_var 10) (dg_cons de_int (dg_cons (de_var 11) dg_nil))))) (DE.bor (de_var 3)))))) (dss_one (ds_ret de_bool)) dss_nil)
    (dss_cons (ds_set 4 sc_law.nd (de_call cx_len Z.z_len (by decide +kernel) (da_cons (DE.bor (de_sub (DE.b1 (de_var 10)) (DE.bor de_int))) da_nil)))
    (dss_cons (ds_set 5 sc_law.nd (DE.frz (de_lst (da_cons (de_var 4) (da_cons (de_neg de_int) (da_cons (de_neg (de_var 4)) (da_cons de_bool (da_cons de_bool (da_cons de_none (da_cons de_str (da_cons (DE.frz (de_lst (da_cons de_int da_nil))) (da_cons (de_tup (da_cons de_int da_nil)) (da_cons (DE.frz de_dict0) (da_cons (DE.frz (de_bin ox_add (DE.b1 (de_var 4)) (DE.b1 (de_fnS h__law_next hr (takes_of rfl rfl rfl rfl) (dg_st 2 (dg_cons (de_bin ox_pow (DE.bor de_int) (DE.bor de_int)) dg_nil)))))) (da_cons (de_bin ox_pow (DE.bor de_int) (DE.bor de_int)) (da_cons de_str da_nil))))))))))))))))
    (dss_cons (ds_if (dt_cmpx (ox_neM hr) (DE.bor (de_lc (own := [("_law_hand", 12)]) (st := true) sc_law.nd (di_val (de_var 5)) (blkOk_by (by kernel_rfl)) (fun _ _ _ _ _ => (dt_name 12 sc_law.nd)) (fun _ _ _ _ _ => (dts_one (dt_not (dt_tru (DE.bor (de_fn h__law_refused hr takes0 (dg_cons (de_var 10) (dg_cons (de_var 12) (dg_cons (de_var 11) dg_nil))))))))) (fun _ _ _ _ _ => (de_var 12)))) (DE.bor (de_lst da_nil))) (dss_one (ds_ret de_bool)) dss_nil)
    (dss_cons (ds_set 6 sc_law.nd (de_fnS h__law_next hr (takes_of rfl rfl rfl rfl) (dg_st 2 (dg_cons (DE.frz (de_bin ox_add (DE.b1 (de_call cx_len Z.z_len (by decide +kernel) (da_cons (DE.bor (de_var 11)) da_nil))) (DE.b1 de_int))) dg_nil))))
    (dss_cons (ds_set 7 sc_law.nd (de_fnS h__law_any_sign hr (takes_of rfl rfl rfl rfl) (dg_st 2 dg_nil)))
    (dss_cons (ds_set 8 sc_law.nd (DE.frz (de_lst (da_cons (DE.frz (de_bin ox_add (DE.b1 (de_bin ox_add (DE.b1 (de_sl (DE.b1 (de_var 11)) do_no (do_yes (de_var 6)))) (DE.b1 (de_var 7)))) (DE.b1 (de_sl (DE.b1 (de_var 11)) (do_yes (de_var 6)) do_no)))) (da_cons (DE.frz (de_bin ox_add (DE.b1 (de_sl (DE.b1 (de_var 11)) do_no (do_yes (de_var 6)))) (DE.b1 (de_sl (DE.b1 (de_var 11)) (do_yes (DE.frz (de_bin ox_add (DE.b1 (de_var 6)) (DE.b1 de_int)))) do_no)))) (da_cons (DE.frz (de_bin ox_add (DE.b1 (de_var 11)) (DE.b1 (de_var 11)))) (da_cons (de_meth0 PySem.F.plainAttrs_str PySem.F.slot_str_upper PySem.F.type_str_upper mx_upper (DE.bor (de_var 11))) (da_cons de_none (da_cons de_int (da_cons de_bool (da_cons (de_tup da_nil) da_nil)))))))))))
    (dss_cons (ds_set 8 sc_law.nd (DE.frz (de_bin ox_add (DE.b1 (de_var 8)) (DE.b1 (de_lst (da_cons (de_tup (da_cons (de_var 11) da_nil)) (da_cons (DE.frz (de_lst (da_cons (de_var 11) da_nil))) (da_cons (DE.frz de_dict0) (da_cons de_str (da_cons de_str (da_cons de_str da_nil)))))))))))
    (dss_cons (ds_for (passes_of rfl) (di_val (de_var 8)) (dt_name 9 sc_law.nd) (dss_one (ds_if (dt_bo (dw_and (dt_cmpx (ox_neM hr) (DE.bor (de_var 9)) (DE.bor (de_var 11))) (dw_and1 (dt_not (dt_tru (DE.bor (de_fn h__law_refused hr (takes_of rfl rfl rfl rfl) (dg_cons (de_var 10) (dg_cons de_int (dg_cons (de_var 9) dg_nil)))))))))) (dss_one (ds_ret de_bool)) dss_nil)))
    (dss_one (ds_if (dt_bo (dw_or (dt_not (dt_tru (DE.bor (de_fn h__law_refused hr (takes_of rfl rfl rfl rfl) (dg_cons (de_var 10) (dg_cons de_int (dg_cons (de_var 11) dg_nil))))))) (dw_or1 (dt_cmpx (ox_neM hr) (DE.bor (de_fn h_gripped hr (takes_of rfl rfl rfl rfl) (dg_cons (de_var 10) (dg_cons de_int (dg_cons (de_var 11) dg_nil))))) (DE.bor (de_var 3)))))) (dss_one (ds_ret de_bool)) dss_nil)))))))))))))))
    (dss_one (ds_ret de_bool)))
end
/-! ### the head -/
def d_is_whole : He.DefD := ⟨("is_whole", none), "is_whole", "is_whole", defArgs s_is_whole, defBody s_is_whole, defScope s_is_whole, [], []⟩
def d_looks_into : He.DefD := ⟨("looks_into", none), "looks_into", "looks_into", defArgs s_looks_into, defBody s_looks_into, defScope s_looks_into, [], []⟩
def d_grips_into : He.DefD := ⟨("grips_into", none), "grips_into", "grips_into", defArgs s_grips_into, defBody s_grips_into, defScope s_grips_into, [], []⟩
def d_goes_by : He.DefD := ⟨("goes_by", none), "goes_by", "goes_by", defArgs s_goes_by, defBody s_goes_by, defScope s_goes_by, [], []⟩
def d_need_slot : He.DefD := ⟨("need_slot", none), "need_slot", "need_slot", defArgs s_need_slot, defBody s_need_slot, defScope s_need_slot, [], []⟩
def d_step_gripped : He.DefD := ⟨("step_gripped", none), "step_gripped", "step_gripped", defArgs s_step_gripped, defBody s_step_gripped, defScope s_step_gripped, [], []⟩
def d_gripped : He.DefD := ⟨("gripped", none), "gripped", "gripped", defArgs s_gripped, defBody s_gripped, defScope s_gripped, [], []⟩
def d__law_state : He.DefD := ⟨("_law_state", none), "_law_state", "_law_state", defArgs s__law_state, defBody s__law_state, defScope s__law_state, [], []⟩
def d__law_next : He.DefD := ⟨("_law_next", none), "_law_next", "_law_next", defArgs s__law_next, defBody s__law_next, defScope s__law_next, [], []⟩
def d__law_kept : He.DefD := ⟨("_law_kept", none), "_law_kept", "_law_kept", defArgs s__law_kept, defBody s__law_kept, defScope s__law_kept, [], []⟩
def d__law_words : He.DefD := ⟨("_law_words", none), "_law_words", "_law_words", defArgs s__law_words, defBody s__law_words, defScope s__law_words, [], []⟩
def d__law_any_sign : He.DefD := ⟨("_law_any_sign", none), "_law_any_sign", "_law_any_sign", defArgs s__law_any_sign, defBody s__law_any_sign, defScope s__law_any_sign, [], []⟩
def d__law_guard : He.DefD := ⟨("_law_guard", none), "_law_guard", "_law_guard", defArgs s__law_guard, defBody s__law_guard, defScope s__law_guard, [], []⟩
def d__law_relies : He.DefD := ⟨("_law_relies", none), "_law_relies", "_law_relies", defArgs s__law_relies, defBody s__law_relies, defScope s__law_relies, [], []⟩
def d__law_gripping : He.DefD := ⟨("_law_gripping", none), "_law_gripping", "_law_gripping", defArgs s__law_gripping, defBody s__law_gripping, defScope s__law_gripping, [], []⟩
def d__law_meddling : He.DefD := ⟨("_law_meddling", none), "_law_meddling", "_law_meddling", defArgs s__law_meddling, defBody s__law_meddling, defScope s__law_meddling, [], []⟩
def d__law_yard : He.DefD := ⟨("_law_yard", none), "_law_yard", "_law_yard", defArgs s__law_yard, defBody s__law_yard, defScope s__law_yard, [], []⟩
def d__law_spots : He.DefD := ⟨("_law_spots", none), "_law_spots", "_law_spots", defArgs s__law_spots, defBody s__law_spots, defScope s__law_spots, [], []⟩
def d__law_turned : He.DefD := ⟨("_law_turned", none), "_law_turned", "_law_turned", defArgs s__law_turned, defBody s__law_turned, defScope s__law_turned, [], []⟩
def d__law_refused : He.DefD := ⟨("_law_refused", none), "_law_refused", "_law_refused", defArgs s__law_refused, defBody s__law_refused, defScope s__law_refused, [], []⟩
def d__law_good : He.DefD := ⟨("_law_good", none), "_law_good", "_law_good", defArgs s__law_good, defBody s__law_good, defScope s__law_good, [], []⟩
def d_law : He.DefD := ⟨("law", none), "law", "law", defArgs s_law, defBody s_law, defScope s_law, [], []⟩
def fn : List He.DefD := [d_is_whole, d_looks_into, d_grips_into, d_goes_by, d_need_slot, d_step_gripped, d_gripped, d__law_state, d__law_next, d__law_kept, d__law_words, d__law_any_sign, d__law_guard, d__law_relies, d__law_gripping, d__law_meddling, d__law_yard, d__law_spots, d__law_turned, d__law_refused, d__law_good, d_law]
def fa : List He.Fa := [.glo "is_whole", .glo "looks_into", .glo "grips_into", .glo "goes_by", .glo "need_slot", .glo "step_gripped", .glo "gripped", .glo "_law_state", .glo "_law_next", .glo "_law_kept", .glo "_law_words", .glo "_law_any_sign", .glo "_law_guard", .glo "_law_relies", .glo "_law_gripping", .glo "_law_meddling", .glo "_law_yard", .glo "_law_spots", .glo "_law_turned", .glo "_law_refused", .glo "_law_good", .glo "law", .glo "StillError", .glo "NoRoom", .glo "NoYard", .glo "NoWeaving", .glo "NoUse", .glo "NoGap", .glo "NoSlot", .glo "NoText", .glo "TooMany", .free "ValueError", .free "bool", .free "enumerate", .free "int", .free "isinstance", .free "len", .free "max", .free "min", .free "range", .free "sorted", .free "sum", .free "tuple"]
abbrev R : PySem.W.OpenRow := PySem.W.OpenLaw.row PySem.Challenge.rw_stillso_k67_no_slot_to_grip
abbrev hk : PySem.W.Hook := hookX 4 fa fn exAll
def ob (s : PySem.W.SharedT) : He.AlD := obsXG 4 fa fn exAll (HandSHeadRun.getT s)
theorem ob_eq (s : PySem.W.SharedT) : ob s = hk.obs s.abs := obsXG_eq (HandSHeadRun.getT_eq s)
def loose : List PySem.Str := ["is_whole", "looks_into", "grips_into", "goes_by", "need_slot", "step_gripped", "gripped", "_law_state", "_law_next", "_law_kept", "_law_words", "_law_any_sign", "_law_guard", "_law_relies", "_law_gripping", "_law_meddling", "_law_yard", "_law_spots", "_law_turned", "_law_refused", "_law_good", "StillError", "NoRoom", "NoYard", "NoWeaving", "NoUse", "NoGap", "NoSlot", "NoText", "TooMany"]
theorem run (w : World) : HandSHeadRun.RunEq R (PySem.W.view R.prog [34]) hk ob 4000 loose w := by
  intro os
  kernel_rfl
theorem facts (law_pure : ∀ ns : List Int, ns.length ≤ 63 → ∃ s', B_law (lawEnv 13 ns) [] = .ret (.b true) s') {P : Program} {w : World} {K : PySem.W.Frag} {h : Heap} {mg : Str → Option Value} {f : Addr} (X : K.In h) (G : h.Ns mainGlobals mg) (hfa : mg ("law" : Str) = some (.ref f)) (c : SaysX fa fn exAll K) :
    ∃ fd : FuncData, (∀ (s : Shared) (v : Value), BindsTo s fd ⟨[v], []⟩ [("_law_script", v)]) ∧ (∀ (H : Hp) (a : Addr) (ns : List Int), ns.length ≤ 63 → Only H → SqL K H a (ns.map V.int) → spL K 13 B_law [.ref a] H (fun v _ => v = .bl true) fun _ _ _ => False) ∧ ∀ base : Heap, K.In base → base.Ns mainGlobals mg → FnOk P w K mg base (L2.CX P w) 6 f fd ["_law_script"] (spL K 13 B_law) := by
  obtain ⟨cd, ce⟩ := c.d
  have Z : Fs K mg := ⟨He.free_ok X G (cd.fact 31 rfl), He.free_ok X G (cd.fact 32 rfl), He.free_ok X G (cd.fact 33 rfl), He.free_ok X G (cd.fact 34 rfl), He.free_ok X G (cd.fact 35 rfl), He.free_ok X G (cd.fact 36 rfl), He.free_ok X G (cd.fact 37 rfl), He.free_ok X G (cd.fact 38 rfl), He.free_ok X G (cd.fact 39 rfl), He.free_ok X G (cd.fact 40 rfl), He.free_ok X G (cd.fact 41 rfl), He.free_ok X G (cd.fact 42 rfl), He.glo_ok X G (cd.fact 22 rfl), He.glo_ok X G (cd.fact 23 rfl), He.glo_ok X G (cd.fact 24 rfl), He.glo_ok X G (cd.fact 25 rfl), He.glo_ok X G (cd.fact 26 rfl), He.glo_ok X G (cd.fact 27 rfl), He.glo_ok X G (cd.fact 28 rfl), He.glo_ok X G (cd.fact 29 rfl), He.glo_ok X G (cd.fact 30 rfl), ce⟩
  obtain ⟨fd_is_whole, D_is_whole⟩ := cd.def_ 0 (d := d_is_whole) rfl
  obtain ⟨fd_looks_into, D_looks_into⟩ := cd.def_ 1 (d := d_looks_into) rfl
  obtain ⟨fd_grips_into, D_grips_into⟩ := cd.def_ 2 (d := d_grips_into) rfl
  obtain ⟨fd_goes_by, D_goes_by⟩ := cd.def_ 3 (d := d_goes_by) rfl
  obtain ⟨fd_need_slot, D_need_slot⟩ := cd.def_ 4 (d := d_need_slot) rfl
  obtain ⟨fd_step_gripped, D_step_gripped⟩ := cd.def_ 5 (d := d_step_gripped) rfl
  obtain ⟨fd_gripped, D_gripped⟩ := cd.def_ 6 (d := d_gripped) rfl
  obtain ⟨fd__law_state, D__law_state⟩ := cd.def_ 7 (d := d__law_state) rfl
  obtain ⟨fd__law_next, D__law_next⟩ := cd.def_ 8 (d := d__law_next) rfl
  obtain ⟨fd__law_kept, D__law_kept⟩ := cd.def_ 9 (d := d__law_kept) rfl
  obtain ⟨fd__law_words, D__law_words⟩ := cd.def_ 10 (d := d__law_words) rfl
  obtain ⟨fd__law_any_sign, D__law_any_sign⟩ := cd.def_ 11 (d := d__law_any_sign) rfl
  obtain ⟨fd__law_guard, D__law_guard⟩ := cd.def_ 12 (d := d__law_guard) rfl
  obtain ⟨fd__law_relies, D__law_relies⟩ := cd.def_ 13 (d := d__law_relies) rfl
  obtain ⟨fd__law_gripping, D__law_gripping⟩ := cd.def_ 14 (d := d__law_gripping) rfl
  obtain ⟨fd__law_meddling, D__law_meddling⟩ := cd.def_ 15 (d := d__law_meddling) rfl
  obtain ⟨fd__law_yard, D__law_yard⟩ := cd.def_ 16 (d := d__law_yard) rfl
  obtain ⟨fd__law_spots, D__law_spots⟩ := cd.def_ 17 (d := d__law_spots) rfl
  obtain ⟨fd__law_turned, D__law_turned⟩ := cd.def_ 18 (d := d__law_turned) rfl
  obtain ⟨fd__law_refused, D__law_refused⟩ := cd.def_ 19 (d := d__law_refused) rfl
  obtain ⟨fd__law_good, D__law_good⟩ := cd.def_ 20 (d := d__law_good) rfl
  obtain ⟨fd_law, D_law⟩ := cd.def_ 21 (d := d_law) rfl
  have el := hfa.symm.trans (He.glo_ok X G (cd.fact 21 (f := .glo "law") rfl))
  cases el
  refine ⟨fd_law, fun s v => FunD.bindsA (ps := ["_law_script"]) D_law (fun _ _ _ _ _ _ us hl => match us, hl with | [_], _ => rfl) s [v] rfl, fun H a ns hl hO hS => ⟨a, ns, rfl, hO, hS, law_pure ns hl, fun _ => rfl⟩, fun base _ _ => ?_⟩
  have h_is_whole : DefOk P w K mg base (clOf K) "is_whole" 1 [false] false F_is_whole [] := defOkN D_is_whole (ok_is_whole Z D_is_whole ) (He.glo_ok X G (cd.fact 0 (f := .glo "is_whole") rfl)) (fun _ _ _ _ _ _ us hl => match us, hl with | [_], _ => rfl)
  have h_looks_into : DefOk P w K mg base (clOf K) "looks_into" 1 [false, false] false F_looks_into [] := defOkN D_looks_into (ok_looks_into Z D_looks_into ) (He.glo_ok X G (cd.fact 1 (f := .glo "looks_into") rfl)) (fun _ _ _ _ _ _ us hl => match us, hl with | [_, _], _ => rfl)
  have h_grips_into : DefOk P w K mg base (clOf K) "grips_into" 1 [false, false] false F_grips_into [] := defOkN D_grips_into (ok_grips_into Z D_grips_into ) (He.glo_ok X G (cd.fact 2 (f := .glo "grips_into") rfl)) (fun _ _ _ _ _ _ us hl => match us, hl with | [_, _], _ => rfl)
  have h_goes_by : DefOk P w K mg base (clOf K) "goes_by" 1 [false, false] false F_goes_by [] := defOkN D_goes_by (ok_goes_by Z D_goes_by ) (He.glo_ok X G (cd.fact 3 (f := .glo "goes_by") rfl)) (fun _ _ _ _ _ _ us hl => match us, hl with | [_, _], _ => rfl)
  have h_need_slot : DefOk P w K mg base (clOf K) "need_slot" 2 [false, false] false F_need_slot [] := defOkN D_need_slot (ok_need_slot Z D_need_slot h_looks_into h_goes_by h_grips_into) (He.glo_ok X G (cd.fact 4 (f := .glo "need_slot") rfl)) (fun _ _ _ _ _ _ us hl => match us, hl with | [_, _], _ => rfl)
  have h_step_gripped : DefOk P w K mg base (clOf K) "step_gripped" 1 [false, false, false, false] false F_step_gripped [] := defOkN D_step_gripped (ok_step_gripped Z D_step_gripped ) (He.glo_ok X G (cd.fact 5 (f := .glo "step_gripped") rfl)) (fun _ _ _ _ _ _ us hl => match us, hl with | [_, _, _, _], _ => rfl)
  have h_gripped : DefOk P w K mg base (clOf K) "gripped" 3 [false, false, false] false F_gripped [] := defOkN D_gripped (ok_gripped Z D_gripped h_need_slot h_looks_into h_step_gripped h_is_whole) (He.glo_ok X G (cd.fact 6 (f := .glo "gripped") rfl)) (fun _ _ _ _ _ _ us hl => match us, hl with | [_, _, _], _ => rfl)
  have h__law_state : DefOk P w K mg base (clOf K) "_law_state" 1 [false, false] true F__law_state [] := defOkN D__law_state (ok__law_state Z D__law_state ) (He.glo_ok X G (cd.fact 7 (f := .glo "_law_state") rfl)) (fun _ _ _ _ _ _ us hl => match us, hl with | [_, _], _ => rfl)
  have h__law_next : DefOk P w K mg base (clOf K) "_law_next" 1 [true, false] false F__law_next [] := defOkN D__law_next (ok__law_next Z D__law_next ) (He.glo_ok X G (cd.fact 8 (f := .glo "_law_next") rfl)) (fun _ _ _ _ _ _ us hl => match us, hl with | [_, _], _ => rfl)
  have h__law_kept : DefOk P w K mg base (clOf K) "_law_kept" 1 [] false F__law_kept [] := defOkN D__law_kept (ok__law_kept Z D__law_kept ) (He.glo_ok X G (cd.fact 9 (f := .glo "_law_kept") rfl)) (fun _ _ _ _ _ _ us hl => match us, hl with | [], _ => rfl)
  have h__law_words : DefOk P w K mg base (clOf K) "_law_words" 2 [true, false] false F__law_words [] := defOkN D__law_words (ok__law_words Z D__law_words h__law_next h__law_kept) (He.glo_ok X G (cd.fact 10 (f := .glo "_law_words") rfl)) (fun _ _ _ _ _ _ us hl => match us, hl with | [_, _], _ => rfl)
  have h__law_any_sign : DefOk P w K mg base (clOf K) "_law_any_sign" 2 [true] false F__law_any_sign [] := defOkN D__law_any_sign (ok__law_any_sign Z D__law_any_sign h__law_next) (He.glo_ok X G (cd.fact 11 (f := .glo "_law_any_sign") rfl)) (fun _ _ _ _ _ _ us hl => match us, hl with | [_], _ => rfl)
  have h__law_guard : DefOk P w K mg base (clOf K) "_law_guard" 2 [true, false] false F__law_guard [] := defOkN D__law_guard (ok__law_guard Z D__law_guard h__law_next) (He.glo_ok X G (cd.fact 12 (f := .glo "_law_guard") rfl)) (fun _ _ _ _ _ _ us hl => match us, hl with | [_, _], _ => rfl)
  have h__law_relies : DefOk P w K mg base (clOf K) "_law_relies" 2 [true, false] false F__law_relies [] := defOkN D__law_relies (ok__law_relies Z D__law_relies h__law_next) (He.glo_ok X G (cd.fact 13 (f := .glo "_law_relies") rfl)) (fun _ _ _ _ _ _ us hl => match us, hl with | [_, _], _ => rfl)
  have h__law_gripping : DefOk P w K mg base (clOf K) "_law_gripping" 3 [true, false, false] false F__law_gripping [] := defOkN D__law_gripping (ok__law_gripping Z D__law_gripping h__law_next h__law_relies h__law_guard) (He.glo_ok X G (cd.fact 14 (f := .glo "_law_gripping") rfl)) (fun _ _ _ _ _ _ us hl => match us, hl with | [_, _, _], _ => rfl)
  have h__law_meddling : DefOk P w K mg base (clOf K) "_law_meddling" 2 [true, false] false F__law_meddling [] := defOkN D__law_meddling (ok__law_meddling Z D__law_meddling h__law_next) (He.glo_ok X G (cd.fact 15 (f := .glo "_law_meddling") rfl)) (fun _ _ _ _ _ _ us hl => match us, hl with | [_, _], _ => rfl)
  have h__law_yard : DefOk P w K mg base (clOf K) "_law_yard" 4 [true] false F__law_yard [] := defOkN D__law_yard (ok__law_yard Z D__law_yard h__law_words h__law_next h__law_gripping h__law_meddling) (He.glo_ok X G (cd.fact 16 (f := .glo "_law_yard") rfl)) (fun _ _ _ _ _ _ us hl => match us, hl with | [_], _ => rfl)
  have h__law_spots : DefOk P w K mg base (clOf K) "_law_spots" 1 [false] false F__law_spots [] := defOkN D__law_spots (ok__law_spots Z D__law_spots ) (He.glo_ok X G (cd.fact 17 (f := .glo "_law_spots") rfl)) (fun _ _ _ _ _ _ us hl => match us, hl with | [_], _ => rfl)
  have h__law_turned : DefOk P w K mg base (clOf K) "_law_turned" 2 [false, false, false] false F__law_turned [] := defOkN D__law_turned (ok__law_turned Z D__law_turned h__law_spots) (He.glo_ok X G (cd.fact 18 (f := .glo "_law_turned") rfl)) (fun _ _ _ _ _ _ us hl => match us, hl with | [_, _, _], _ => rfl)
  have h__law_refused : DefOk P w K mg base (clOf K) "_law_refused" 4 [false, false, false] false F__law_refused [] := defOkN D__law_refused (ok__law_refused Z D__law_refused h_gripped) (He.glo_ok X G (cd.fact 19 (f := .glo "_law_refused") rfl)) (fun _ _ _ _ _ _ us hl => match us, hl with | [_, _, _], _ => rfl)
  have h__law_good : DefOk P w K mg base (clOf K) "_law_good" 5 [true] false F__law_good [] := defOkN D__law_good (ok__law_good Z D__law_good h__law_yard) (He.glo_ok X G (cd.fact 20 (f := .glo "_law_good") rfl)) (fun _ _ _ _ _ _ us hl => match us, hl with | [_], _ => rfl)
  exact ok_law Z D_law h__law_state h__law_good h__law_turned h__law_next h__law_any_sign h_gripped h__law_refused
end G
open PySem PySem.W PySem.Calls PyProof.Rows
theorem holds_of (law_pure : ∀ ns : List Int, ns.length ≤ 63 → ∃ s', G.B_law (DL.lawEnv 13 ns) [] = .ret (.b true) s') : PySem.Challenge.rw_stillso_k67_no_slot_to_grip.Holds := by
  w_on; o_law
  refine HandSHeadRun.head_any (r := OpenLaw.row PySem.Challenge.rw_stillso_k67_no_slot_to_grip) (q := view (OpenLaw.row PySem.Challenge.rw_stillso_k67_no_slot_to_grip).prog [34]) (H := G.hk) (ob := G.ob) (M := 4000) (loose := G.loose) (d := HandSHeadRun.topDef (OpenLaw.row PySem.Challenge.rw_stillso_k67_no_slot_to_grip).prog 34) (kwd := []) G.ob_eq
    (by kernel_rfl) (fun s => by kernel_rfl) G.run (by kernel_rfl) (by kernel_rfl) (by kernel_rfl) (by rfl) (by first | assumption | decide +kernel) (by decide +kernel) ⟨rfl, rfl, rfl, rfl, rfl, by decide +kernel⟩ ?hw ?hc
  case hw => w_witness2
  case hc =>
    refine DL.walkX (l := PySem.Challenge.rw_stillso_k67_no_slot_to_grip) (n := 63) (k := 6) (x := "_law_script") (CX := fun w => L2.CX (PySem.Challenge.rw_stillso_k67_no_slot_to_grip).prog w) rfl (by decide) (by kernel_rfl) ⟨rfl, by decide, by decide⟩ ?F (fun w H s e s' z => DL.noCX z)
    intro w mg fa h Y G' hmg0
    obtain ⟨K, KX, c⟩ := Y
    have hmg : mg ("law" : PySem.Str) = some (.ref fa) := by
      have e : (HandSHeadRun.topDef (OpenLaw.row PySem.Challenge.rw_stillso_k67_no_slot_to_grip).prog 34).name = ("law" : PySem.Str) := by kernel_rfl
      rw [← e]
      exact hmg0
    obtain ⟨fd, hb, hsp, hF⟩ := G.facts law_pure (P := (PySem.Challenge.rw_stillso_k67_no_slot_to_grip).prog) (w := w) KX G' hmg c
    exact ⟨K, fd, _, KX, hb, hsp, hF⟩
end

/-! P0: to go through what a def does, in plain Lean. What comes behind a step stands as a name (k..) or unapplied, so that nothing is looked into ahead of its time. -/
namespace DL
open PySem

def pick {β : Type} (k : Bool) (a b : β) : β := if k = true then a else b
@[simp] theorem pick_true {β : Type} (a b : β) : pick true a b = a := id rfl
@[simp] theorem pick_false {β : Type} (a b : β) : pick false a b = b := id rfl
/-- one of two that are not yet gone into -/
def pickU {β : Type} (k : Bool) (a b : En → Sg → β) (r : En) (s : Sg) : β := if k = true then a r s else b r s
@[simp] theorem pickU_true {β : Type} (a b : En → Sg → β) (r : En) (s : Sg) : pickU true a b r s = a r s := id rfl
@[simp] theorem pickU_false {β : Type} (a b : En → Sg → β) (r : En) (s : Sg) : pickU false a b r s = b r s := id rfl
def optR {α : Type} : Option α → Sg → R α
  | some a, s => .ok a s
  | none, _ => .bad
@[simp] theorem optR_some {α : Type} (a : α) (s : Sg) : optR (some a) s = .ok a s := id rfl
def onO {α β : Type} : Option α → (α → R β) → R β
  | some a, f => f a
  | none, _ => .bad
@[simp] theorem onO_some {α β : Type} (a : α) (f : α → R β) : onO (some a) f = f a := id rfl
def onS {α : Type} : Option α → (α → O) → O
  | some a, f => f a
  | none, _ => .bad
@[simp] theorem onS_some {α : Type} (a : α) (f : α → O) : onS (some a) f = f a := id rfl
def R.out {α : Type} : R α → En → (α → Sg → O) → O
  | .ok a s, _, f => f a s
  | .exc c s, r, _ => .exc c r s
  | .bad, _, _ => .bad
@[simp] theorem R.out_ok {α : Type} (a : α) (s : Sg) (r : En) (f : α → Sg → O) : (R.ok a s).out r f = f a s := id rfl
@[simp] theorem R.out_exc {α : Type} (c : Nat) (s : Sg) (r : En) (f : α → Sg → O) : (R.exc c s : R α).out r f = .exc c r s := id rfl
def cOk {α : Type} (a : α) : En → Sg → R α := fun _ s => .ok a s
@[simp] theorem cOk_eq {α : Type} (a : α) (r : En) (s : Sg) : cOk a r s = .ok a s := id rfl
def valO : Option (Option Sl) → Option D
  | some (some (.val d)) => some d
  | _ => none
@[simp] theorem valO_v (d : D) : valO (some (some (.val d))) = some d := id rfl
def val1 : Option (Option Sl) → Option D
  | some (some (.val d)) => some d
  | some (some (.o1 d)) => some d
  | _ => none
@[simp] theorem val1_v (d : D) : val1 (some (some (.val d))) = some d := id rfl
@[simp] theorem val1_o (d : D) : val1 (some (some (.o1 d))) = some d := id rfl
def valB : Option (Option Sl) → Option D
  | some (some (.val d)) => some d
  | some (some (.o1 d)) => some d
  | some (some (.o2 d)) => some d
  | _ => none
@[simp] theorem valB_v (d : D) : valB (some (some (.val d))) = some d := id rfl
@[simp] theorem valB_o (d : D) : valB (some (some (.o1 d))) = some d := id rfl
@[simp] theorem valB_o2 (d : D) : valB (some (some (.o2 d))) = some d := id rfl
@[simp] theorem dVar_eq (j : Nat) (r : En) (s : Sg) : dVar j r s = optR (valO r[j]?) s := by
  unfold dVar valO; split <;> simp_all [optR]
@[simp] theorem dVar1_eq (j : Nat) (r : En) (s : Sg) : dVar1 j r s = optR (val1 r[j]?) s := by
  unfold dVar1 val1; split <;> simp_all [optR]
@[simp] theorem dVarB_eq (j : Nat) (r : En) (s : Sg) : dVarB j r s = optR (valB r[j]?) s := by
  unfold dVarB valB; split <;> simp_all [optR]
@[simp] theorem dC_eq (d : D) (r : En) (s : Sg) : dC d r s = .ok d s := id rfl
def kOp2 (f : D → D → Option D) (x : D) : D → Sg → R D := fun y s => optR (f x y) s
@[simp] theorem kOp2_eq (f : D → D → Option D) (x : D) (y : D) (s : Sg) : kOp2 f x y s = optR (f x y) s := id rfl
def kOp1 (f : D → D → Option D) (b : M) (r : En) : D → Sg → R D := fun x s => (b r s).bind (kOp2 f x)
@[simp] theorem kOp1_eq (f : D → D → Option D) (b : M) (r : En) (x : D) (s : Sg) : kOp1 f b r x s = (b r s).bind (kOp2 f x) := id rfl
@[simp] theorem dOp_eq (f : D → D → Option D) (a b : M) (r : En) (s : Sg) : dOp f a b r s = (a r s).bind (kOp1 f b r) := by
  unfold dOp kOp1 kOp2; congr; funext x s1; congr; funext y s2; cases f x y <;> rfl
@[simp] theorem dNil_eq (r : En) (s : Sg) : dNil r s = .ok [] s := id rfl
def kCons2 (d : D) : List D → Sg → R (List D) := fun ds s => .ok (d :: ds) s
@[simp] theorem kCons2_eq (d : D) (ds : List D) (s : Sg) : kCons2 d ds s = .ok (d :: ds) s := id rfl
def kCons1 (ms : Ml) (r : En) : D → Sg → R (List D) := fun d s => (ms r s).bind (kCons2 d)
@[simp] theorem kCons1_eq (ms : Ml) (r : En) (d : D) (s : Sg) : kCons1 ms r d s = (ms r s).bind (kCons2 d) := id rfl
@[simp] theorem dCons_eq (m : M) (ms : Ml) (r : En) (s : Sg) : dCons m ms r s = (m r s).bind (kCons1 ms r) := by
  rfl
def kTup  : List D → Sg → R D := fun ds s => pick (decide (ds.length ≤ sizeLine)) (.ok (.t ds) s) .bad
@[simp] theorem kTup_eq  (ds : List D) (s : Sg) : kTup  ds s = pick (decide (ds.length ≤ sizeLine)) (.ok (.t ds) s) .bad := id rfl
@[simp] theorem dTup_eq (ms : Ml) (r : En) (s : Sg) : dTup ms r s = (ms r s).bind kTup := by
  unfold dTup kTup pick; simp
def kLst  : List D → Sg → R D := fun ds s => pick (decide (ds.length ≤ sizeLine)) (.ok (.l ds) s) .bad
@[simp] theorem kLst_eq  (ds : List D) (s : Sg) : kLst  ds s = pick (decide (ds.length ≤ sizeLine)) (.ok (.l ds) s) .bad := id rfl
@[simp] theorem dLst_eq (ms : Ml) (r : En) (s : Sg) : dLst ms r s = (ms r s).bind kLst := by
  unfold dLst kLst pick; simp
def kCall (f : List D → Option D) : List D → Sg → R D := fun ds s => optR (f ds) s
@[simp] theorem kCall_eq (f : List D → Option D) (ds : List D) (s : Sg) : kCall f ds s = optR (f ds) s := id rfl
@[simp] theorem dCall_eq (f : List D → Option D) (ms : Ml) (r : En) (s : Sg) : dCall f ms r s = (ms r s).bind (kCall f) := by
  unfold dCall kCall; congr; funext ds s1; cases f ds <;> rfl
def kMeth2 (f : D → List D → Option D) (o : D) : List D → Sg → R D := fun ds s => optR (f o ds) s
@[simp] theorem kMeth2_eq (f : D → List D → Option D) (o : D) (ds : List D) (s : Sg) : kMeth2 f o ds s = optR (f o ds) s := id rfl
def kMethU (f : D → List D → Option D) (o : D) (ms : Ml) : En → Sg → R D := fun r s => (ms r s).bind (kMeth2 f o)
@[simp] theorem kMethU_eq (f : D → List D → Option D) (o : D) (ms : Ml) (r : En) (s : Sg) : kMethU f o ms r s = (ms r s).bind (kMeth2 f o) := id rfl
def cBad {α : Type} : En → Sg → R α := fun _ _ => .bad
def kMeth1 (f : D → List D → Option D) (ms : Ml) (t : String) (r : En) : D → Sg → R D := fun o s => pickU (decide (tyD o = some t)) (kMethU f o ms) cBad r s
@[simp] theorem kMeth1_eq (f : D → List D → Option D) (ms : Ml) (t : String) (r : En) (o : D) (s : Sg) : kMeth1 f ms t r o s = pickU (decide (tyD o = some t)) (kMethU f o ms) cBad r s := id rfl
@[simp] theorem dMeth_eq (f : D → List D → Option D) (m : M) (ms : Ml) (t : String) (r : En) (s : Sg) : dMeth f m ms t r s = (m r s).bind (kMeth1 f ms t r) := by
  unfold dMeth kMeth1 kMethU kMeth2 pickU cBad; congr; funext o s1; simp only [decide_eq_true_eq]; congr; funext ds s2; cases f o ds <;> rfl
def kTru  : D → Sg → R Bool := fun d s => optR (truth d) s
@[simp] theorem kTru_eq  (d : D) (s : Sg) : kTru  d s = optR (truth d) s := id rfl
@[simp] theorem mTru_eq (m : M) (r : En) (s : Sg) : mTru m r s = (m r s).bind kTru := by
  unfold mTru kTru; congr; funext d s1; cases truth d <;> rfl
def boolO : D → Option Bool
  | .b k => some k
  | _ => none
@[simp] theorem boolO_b (k : Bool) : boolO (.b k) = some k := id rfl
def kB  : D → Sg → R Bool := fun d s => optR (boolO d) s
@[simp] theorem kB_eq  (d : D) (s : Sg) : kB  d s = optR (boolO d) s := id rfl
@[simp] theorem mB_eq (m : M) (r : En) (s : Sg) : mB m r s = (m r s).bind kB := by
  unfold mB kB; congr; funext d s1; cases d <;> rfl
def kNot  : Bool → Sg → R Bool := fun k s => .ok (!k) s
@[simp] theorem kNot_eq  (k : Bool) (s : Sg) : kNot  k s = .ok (!k) s := id rfl
@[simp] theorem mNot_eq (m : Mt) (r : En) (s : Sg) : mNot m r s = (m r s).bind kNot := by
  rfl
def kAnd (b : Mt) (r : En) : Bool → Sg → R Bool := fun k s => pickU k b (cOk false) r s
@[simp] theorem kAnd_eq (b : Mt) (r : En) (k : Bool) (s : Sg) : kAnd b r k s = pickU k b (cOk false) r s := id rfl
@[simp] theorem mAnd_eq (a b : Mt) (r : En) (s : Sg) : mAnd a b r s = (a r s).bind (kAnd b r) := by
  rfl
def kOr (b : Mt) (r : En) : Bool → Sg → R Bool := fun k s => pickU k (cOk true) b r s
@[simp] theorem kOr_eq (b : Mt) (r : En) (k : Bool) (s : Sg) : kOr b r k s = pickU k (cOk true) b r s := id rfl
@[simp] theorem mOr_eq (a b : Mt) (r : En) (s : Sg) : mOr a b r s = (a r s).bind (kOr b r) := by
  rfl
@[simp] theorem mYes_eq (r : En) (s : Sg) : mYes r s = .ok true s := id rfl
def kDAnd2 (b : M) (r : En) (d : D) (s : Sg) : Bool → R D := fun k => pickU k b (cOk d) r s
@[simp] theorem kDAnd2_eq (b : M) (r : En) (d : D) (s : Sg) (k : Bool) : kDAnd2 b r d s k = pickU k b (cOk d) r s := id rfl
def kDAnd (b : M) (r : En) : D → Sg → R D := fun d s => onO (truth d) (kDAnd2 b r d s)
@[simp] theorem kDAnd_eq (b : M) (r : En) (d : D) (s : Sg) : kDAnd b r d s = onO (truth d) (kDAnd2 b r d s) := id rfl
@[simp] theorem dAnd_eq (a b : M) (r : En) (s : Sg) : dAnd a b r s = (a r s).bind (kDAnd b r) := by
  unfold dAnd kDAnd kDAnd2; congr; funext d s1; cases truth d with
  | none => rfl
  | some k => cases k <;> rfl
def kDOr2 (b : M) (r : En) (d : D) (s : Sg) : Bool → R D := fun k => pickU k (cOk d) b r s
@[simp] theorem kDOr2_eq (b : M) (r : En) (d : D) (s : Sg) (k : Bool) : kDOr2 b r d s k = pickU k (cOk d) b r s := id rfl
def kDOr (b : M) (r : En) : D → Sg → R D := fun d s => onO (truth d) (kDOr2 b r d s)
@[simp] theorem kDOr_eq (b : M) (r : En) (d : D) (s : Sg) : kDOr b r d s = onO (truth d) (kDOr2 b r d s) := id rfl
@[simp] theorem dOr_eq (a b : M) (r : En) (s : Sg) : dOr a b r s = (a r s).bind (kDOr b r) := by
  unfold dOr kDOr kDOr2; congr; funext d s1; cases truth d with
  | none => rfl
  | some k => cases k <;> rfl
def kDNot2 (s : Sg) : Bool → R D := fun k => .ok (.b (!k)) s
@[simp] theorem kDNot2_eq (s : Sg) (k : Bool) : kDNot2 s k = .ok (.b (!k)) s := id rfl
def kDNot  : D → Sg → R D := fun d s => onO (truth d) (kDNot2 s)
@[simp] theorem kDNot_eq  (d : D) (s : Sg) : kDNot  d s = onO (truth d) (kDNot2 s) := id rfl
@[simp] theorem dNot_eq (m : M) (r : En) (s : Sg) : dNot m r s = (m r s).bind kDNot := by
  unfold dNot kDNot kDNot2; congr; funext d s1; cases truth d <;> rfl
def kIfE (a b : M) (r : En) : Bool → Sg → R D := fun k s => pickU k a b r s
@[simp] theorem kIfE_eq (a b : M) (r : En) (k : Bool) (s : Sg) : kIfE a b r k s = pickU k a b r s := id rfl
@[simp] theorem dIf_eq (t : Mt) (a b : M) (r : En) (s : Sg) : dIf t a b r s = (t r s).bind (kIfE a b r) := by
  rfl
def kCh4 (g : D → D → Option D) (y : D) : D → Sg → R D := fun z s => optR (g y z) s
@[simp] theorem kCh4_eq (g : D → D → Option D) (y : D) (z : D) (s : Sg) : kCh4 g y z s = optR (g y z) s := id rfl
def kCh3 (g : D → D → Option D) (c : M) (y : D) : En → Sg → R D := fun r s => (c r s).bind (kCh4 g y)
@[simp] theorem kCh3_eq (g : D → D → Option D) (c : M) (y : D) (r : En) (s : Sg) : kCh3 g c y r s = (c r s).bind (kCh4 g y) := id rfl
def kCh2 (g : D → D → Option D) (c : M) (r : En) (y : D) (s : Sg) : Bool → R D := fun k => pickU k (kCh3 g c y) (cOk (.b false)) r s
@[simp] theorem kCh2_eq (g : D → D → Option D) (c : M) (r : En) (y : D) (s : Sg) (k : Bool) : kCh2 g c r y s k = pickU k (kCh3 g c y) (cOk (.b false)) r s := id rfl
def kCh1 (f g : D → D → Option D) (c : M) (r : En) (x : D) : D → Sg → R D := fun y s => onO ((f x y).bind boolO) (kCh2 g c r y s)
@[simp] theorem kCh1_eq (f g : D → D → Option D) (c : M) (r : En) (x : D) (y : D) (s : Sg) : kCh1 f g c r x y s = onO ((f x y).bind boolO) (kCh2 g c r y s) := id rfl
def kCh0 (f g : D → D → Option D) (b c : M) (r : En) : D → Sg → R D := fun x s => (b r s).bind (kCh1 f g c r x)
@[simp] theorem kCh0_eq (f g : D → D → Option D) (b c : M) (r : En) (x : D) (s : Sg) : kCh0 f g b c r x s = (b r s).bind (kCh1 f g c r x) := id rfl
@[simp] theorem dChain_eq (f g : D → D → Option D) (a b c : M) (r : En) (s : Sg) : dChain f g a b c r s = (a r s).bind (kCh0 f g b c r) := by
  unfold dChain kCh0 kCh1 kCh2 kCh3 kCh4; congr; funext x s1; congr; funext y s2
  cases f x y with
  | none => rfl
  | some d => cases d with
    | b k => cases k with
      | false => rfl
      | true =>
        show R.bind _ _ = R.bind _ _
        congr; funext z s3; cases g y z <;> rfl
    | _ => rfl
def kIsN  : D → Sg → R D := fun d s => .ok (.b (isNone d)) s
@[simp] theorem kIsN_eq  (d : D) (s : Sg) : kIsN  d s = .ok (.b (isNone d)) s := id rfl
@[simp] theorem dIsN_eq (m : M) (r : En) (s : Sg) : dIsN m r s = (m r s).bind kIsN := by
  rfl
def kNotN  : D → Sg → R D := fun d s => .ok (.b (!isNone d)) s
@[simp] theorem kNotN_eq  (d : D) (s : Sg) : kNotN  d s = .ok (.b (!isNone d)) s := id rfl
@[simp] theorem dNotN_eq (m : M) (r : En) (s : Sg) : dNotN m r s = (m r s).bind kNotN := by
  rfl
def negO : D → Option D
  | .i n => some (.i (-n))
  | _ => none
@[simp] theorem negO_i (n : Int) : negO (.i n) = some (.i (-n)) := id rfl
def intO : D → Option Int
  | .i n => some n
  | _ => none
@[simp] theorem intO_i (n : Int) : intO (.i n) = some n := id rfl
@[simp] theorem dDict0_eq (r : En) (s : Sg) : dDict0 r s = .ok (.m [] []) s := id rfl
def kDi2 (k : D) : D → Sg → R D := fun v s => pick (isStr k) (.ok (.m [k] [v]) s) .bad
@[simp] theorem kDi2_eq (k : D) (v : D) (s : Sg) : kDi2 k v s = pick (isStr k) (.ok (.m [k] [v]) s) .bad := id rfl
def kDi1 (b : M) (r : En) : D → Sg → R D := fun k s => (b r s).bind (kDi2 k)
@[simp] theorem kDi1_eq (b : M) (r : En) (k : D) (s : Sg) : kDi1 b r k s = (b r s).bind (kDi2 k) := id rfl
@[simp] theorem dDict1_eq (a b : M) (r : En) (s : Sg) : dDict1 a b r s = (a r s).bind (kDi1 b r) := by
  rfl
def kSortI  : D → Sg → R D := fun d s => optR (fSortI d) s
@[simp] theorem kSortI_eq  (d : D) (s : Sg) : kSortI  d s = optR (fSortI d) s := id rfl
@[simp] theorem dSortI_eq (m : M) (r : En) (s : Sg) : dSortI m r s = (m r s).bind kSortI := by
  unfold dSortI kSortI; congr; funext d s1; cases fSortI d <;> rfl
def kInV3 (neg : Bool) (s : Sg) : Bool → R D := fun b => .ok (.b (if neg = true then !b else b)) s
@[simp] theorem kInV3_eq (neg : Bool) (s : Sg) (b : Bool) : kInV3 neg s b = .ok (.b (if neg = true then !b else b)) s := id rfl
def kInV2 (neg : Bool) (x : D) : D → Sg → R D := fun d s => onO (fInV x d) (kInV3 neg s)
@[simp] theorem kInV2_eq (neg : Bool) (x : D) (d : D) (s : Sg) : kInV2 neg x d s = onO (fInV x d) (kInV3 neg s) := id rfl
def kInV1 (neg : Bool) (b : M) (r : En) : D → Sg → R D := fun x s => (b r s).bind (kInV2 neg x)
@[simp] theorem kInV1_eq (neg : Bool) (b : M) (r : En) (x : D) (s : Sg) : kInV1 neg b r x s = (b r s).bind (kInV2 neg x) := id rfl
@[simp] theorem dInVals_eq (neg : Bool) (a b : M) (r : En) (s : Sg) : dInVals neg a b r s = (a r s).bind (kInV1 neg b r) := by
  unfold dInVals kInV1 kInV2 kInV3; congr; funext x s1; congr; funext d s2; cases fInV x d <;> rfl
def kIsi2 (s : Sg) : Bool → R D := fun b => .ok (.b b) s
@[simp] theorem kIsi2_eq (s : Sg) (b : Bool) : kIsi2 s b = .ok (.b b) s := id rfl
def kIsi (ks : List Kc) : D → Sg → R D := fun d s => onO (isiA d ks) (kIsi2 s)
@[simp] theorem kIsi_eq (ks : List Kc) (d : D) (s : Sg) : kIsi ks d s = onO (isiA d ks) (kIsi2 s) := id rfl
@[simp] theorem dIsi_eq (m : M) (ks : List Kc) (r : En) (s : Sg) : dIsi m ks r s = (m r s).bind (kIsi ks) := by
  unfold dIsi kIsi kIsi2; congr; funext d s1; cases isiA d ks <;> rfl
@[simp] theorem oNo_eq (r : En) (s : Sg) : oNo r s = .ok none s := id rfl
def kYes2 (s : Sg) : Int → R (Option Int) := fun n => .ok (some n) s
@[simp] theorem kYes2_eq (s : Sg) (n : Int) : kYes2 s n = .ok (some n) s := id rfl
def kYes  : D → Sg → R (Option Int) := fun d s => onO (intO d) (kYes2 s)
@[simp] theorem kYes_eq  (d : D) (s : Sg) : kYes  d s = onO (intO d) (kYes2 s) := id rfl
@[simp] theorem oYes_eq (m : M) (r : En) (s : Sg) : oYes m r s = (m r s).bind kYes := by
  unfold oYes kYes kYes2; congr; funext d s1; cases d <;> rfl
def kNeg2 (s : Sg) : D → R D := fun d => .ok d s
@[simp] theorem kNeg2_eq (s : Sg) (d : D) : kNeg2 s d = .ok d s := id rfl
def kNeg  : D → Sg → R D := fun d s => onO (negO d) (kNeg2 s)
@[simp] theorem kNeg_eq  (d : D) (s : Sg) : kNeg  d s = onO (negO d) (kNeg2 s) := id rfl
@[simp] theorem dNeg_eq (m : M) (r : En) (s : Sg) : dNeg m r s = (m r s).bind kNeg := by
  unfold dNeg kNeg kNeg2; congr; funext d s1; cases d <;> rfl
def kSl3 (d : D) (l : Option Int) : Option Int → Sg → R D := fun h s => optR (fSl d l h) s
@[simp] theorem kSl3_eq (d : D) (l : Option Int) (h : Option Int) (s : Sg) : kSl3 d l h s = optR (fSl d l h) s := id rfl
def kSl2 (d : D) (hi : Mo) (r : En) : Option Int → Sg → R D := fun l s => (hi r s).bind (kSl3 d l)
@[simp] theorem kSl2_eq (d : D) (hi : Mo) (r : En) (l : Option Int) (s : Sg) : kSl2 d hi r l s = (hi r s).bind (kSl3 d l) := id rfl
def kSl1 (lo hi : Mo) (r : En) : D → Sg → R D := fun d s => (lo r s).bind (kSl2 d hi r)
@[simp] theorem kSl1_eq (lo hi : Mo) (r : En) (d : D) (s : Sg) : kSl1 lo hi r d s = (lo r s).bind (kSl2 d hi r) := id rfl
@[simp] theorem dSl_eq (m : M) (lo hi : Mo) (r : En) (s : Sg) : dSl m lo hi r s = (m r s).bind (kSl1 lo hi r) := by
  unfold dSl kSl1 kSl2 kSl3; congr; funext d s1; congr; funext l s2; congr; funext h s3; cases fSl d l h <;> rfl
def isSt : Option (Option Sl) → Bool
  | some (some .st) => true
  | _ => false
@[simp] theorem isSt_st : isSt (some (some .st)) = true := id rfl
@[simp] theorem dStIx_eq (j i : Nat) (r : En) (s : Sg) : dStIx j i r s = pick (isSt r[j]?) (optR s[i]? s) .bad := by
  unfold dStIx isSt; split <;> simp_all
  split <;> simp_all [optR]
@[simp] theorem dSt_eq (j : Nat) (ms : Ml) (r : En) (s : Sg) : dSt j ms r s = pickU (isSt r[j]?) ms cBad r s := by
  unfold dSt isSt pickU cBad; split <;> simp_all
/-- a call of a def that has no drawing state -/
def R.keep : R D → Sg → R D
  | .ok d _, s => .ok d s
  | .exc c _, s => .exc c s
  | .bad, _ => .bad
@[simp] theorem R.keep_ok (d : D) (s s1 : Sg) : (R.ok d s1).keep s = .ok d s := id rfl
@[simp] theorem R.keep_exc (c : Nat) (s s1 : Sg) : (R.exc c s1 : R D).keep s = .exc c s := id rfl
def kFn (F : Fn) (dd : List D) : List D → Sg → R D := fun ds s => (F (ds ++ dd) []).keep s
@[simp] theorem kFn_eq (F : Fn) (dd : List D) (ds : List D) (s : Sg) : kFn F dd ds s = (F (ds ++ dd) []).keep s := id rfl
@[simp] theorem dFn_eq (F : Fn) (ms : Ml) (dd : List D) (r : En) (s : Sg) : dFn F ms dd r s = (ms r s).bind (kFn F dd) := by
  unfold dFn kFn; congr; funext ds s1; cases F (ds ++ dd) [] <;> rfl
def kFnS (F : Fn) (dd : List D) : List D → Sg → R D := fun ds s => F (ds ++ dd) s
@[simp] theorem kFnS_eq (F : Fn) (dd : List D) (ds : List D) (s : Sg) : kFnS F dd ds s = F (ds ++ dd) s := id rfl
@[simp] theorem dFnS_eq (F : Fn) (ms : Ml) (dd : List D) (r : En) (s : Sg) : dFnS F ms dd r s = (ms r s).bind (kFnS F dd) := by
  rfl
def R.keep0 : R D → Sg → R D
  | .ok d _, s => .ok d s
  | _, _ => .bad
@[simp] theorem R.keep0_ok (d : D) (s s1 : Sg) : (R.ok d s1).keep0 s = .ok d s := id rfl
@[simp] theorem dFn0_eq (F : Fn) (r : En) (s : Sg) : dFn0 F r s = (F [] []).keep0 s := by
  unfold dFn0 R.keep0; cases F [] [] <;> rfl

/-! ### statements -/
theorem sE_out (m : M) (f : D → En → Sg → O) (r : En) (s : Sg) : sE m f r s = (m r s).out r fun d s1 => f d r s1 := by
  unfold sE R.out; cases m r s <;> rfl
@[simp] theorem sSeq_eq (m n : MS) (r : En) (s : Sg) : sSeq m n r s = (m r s).bind n := id rfl
@[simp] theorem sNil_eq (r : En) (s : Sg) : sNil r s = .nx r s := id rfl
@[simp] theorem sCont_eq (r : En) (s : Sg) : sCont r s = .cont r s := id rfl
@[simp] theorem sBreak_eq (r : En) (s : Sg) : sBreak r s = .brk r s := id rfl
@[simp] theorem sRaise_eq (c : Nat) (r : En) (s : Sg) : sRaise c r s = .exc c r s := id rfl
def kIf (a b : MS) (r : En) : Bool → Sg → O := fun k s => pickU k a b r s
@[simp] theorem kIf_eq (a b : MS) (r : En) (k : Bool) (s : Sg) : kIf a b r k s = pickU k a b r s := id rfl
@[simp] theorem sIf_eq (t : Mt) (a b : MS) (r : En) (s : Sg) : sIf t a b r s = (t r s).out r (kIf a b r) := by
  unfold sIf kIf R.out pickU; cases t r s <;> rfl
def kRet  : D → Sg → O := fun d s => .ret d s
@[simp] theorem kRet_eq  (d : D) (s : Sg) : kRet  d s = .ret d s := id rfl
@[simp] theorem sRet_eq (m : M) (r : En) (s : Sg) : sRet m r s = (m r s).out r kRet := by
  unfold sRet; rw [sE_out]; rfl
def kExpr (r : En) : D → Sg → O := fun d s => .nx r s
@[simp] theorem kExpr_eq (r : En) (d : D) (s : Sg) : kExpr r d s = .nx r s := id rfl
@[simp] theorem sExpr_eq (m : M) (r : En) (s : Sg) : sExpr m r s = (m r s).out r (kExpr r) := by
  unfold sExpr; rw [sE_out]; rfl
def kSet (j : Nat) (r : En) : D → Sg → O := fun d s => pick (decide (j < r.length)) (.nx (r.set j (some (.val d))) s) .bad
@[simp] theorem kSet_eq (j : Nat) (r : En) (d : D) (s : Sg) : kSet j r d s = pick (decide (j < r.length)) (.nx (r.set j (some (.val d))) s) .bad := id rfl
@[simp] theorem sSet_eq (j : Nat) (m : M) (r : En) (s : Sg) : sSet j m r s = (m r s).out r (kSet j r) := by
  unfold sSet kSet pick; rw [sE_out]; simp
def kSetO (j : Nat) (r : En) : D → Sg → O := fun d s => pick (decide (j < r.length)) (.nx (r.set j (some (.o1 d))) s) .bad
@[simp] theorem kSetO_eq (j : Nat) (r : En) (d : D) (s : Sg) : kSetO j r d s = pick (decide (j < r.length)) (.nx (r.set j (some (.o1 d))) s) .bad := id rfl
@[simp] theorem sSetO_eq (j : Nat) (m : M) (r : En) (s : Sg) : sSetO j m r s = (m r s).out r (kSetO j r) := by
  unfold sSetO kSetO pick; rw [sE_out]; simp
def kAsg2 (s : Sg) : En → O := fun r => .nx r s
@[simp] theorem kAsg2_eq (s : Sg) (r : En) : kAsg2 s r = .nx r s := id rfl
def kAsg (f : D → En → Option En) (r : En) : D → Sg → O := fun d s => onS (f d r) (kAsg2 s)
@[simp] theorem kAsg_eq (f : D → En → Option En) (r : En) (d : D) (s : Sg) : kAsg f r d s = onS (f d r) (kAsg2 s) := id rfl
@[simp] theorem sAsg_eq (f : D → En → Option En) (m : M) (r : En) (s : Sg) : sAsg f m r s = (m r s).out r (kAsg f r) := by
  unfold sAsg kAsg kAsg2; rw [sE_out]; congr; funext d s1; cases f d r <;> rfl
def ownO : Option (Option Sl) → Option (List D)
  | some (some (.o1 (.l ds))) => some ds
  | _ => none
@[simp] theorem ownO_l (ds : List D) : ownO (some (some (.o1 (.l ds)))) = some ds := id rfl
theorem ownL_eq (j : Nat) (f : List D → MS) (r : En) (s : Sg) : ownL j f r s = onS (ownO r[j]?) fun ds => f ds r s := by
  unfold ownL ownO; split <;> simp_all [onS]
def kApp2 (j : Nat) (ds : List D) (r : En) : D → Sg → O := fun d s => pick (decide (ds.length < sizeLine)) (.nx (r.set j (some (.o1 (.l (ds ++ [d]))))) s) .bad
@[simp] theorem kApp2_eq (j : Nat) (ds : List D) (r : En) (d : D) (s : Sg) : kApp2 j ds r d s = pick (decide (ds.length < sizeLine)) (.nx (r.set j (some (.o1 (.l (ds ++ [d]))))) s) .bad := id rfl
def kApp1 (j : Nat) (m : M) (r : En) (s : Sg) : List D → O := fun ds => (m r s).out r (kApp2 j ds r)
@[simp] theorem kApp1_eq (j : Nat) (m : M) (r : En) (s : Sg) (ds : List D) : kApp1 j m r s ds = (m r s).out r (kApp2 j ds r) := id rfl
@[simp] theorem sApp_eq (j : Nat) (m : M) (r : En) (s : Sg) : sApp j m r s = onS (ownO r[j]?) (kApp1 j m r s) := by
  unfold sApp kApp1 kApp2 pick; rw [ownL_eq]; simp only [sE_out, decide_eq_true_eq]
def kStSet (j i : Nat) (r : En) : D → Sg → O := fun d s => pick (isSt r[j]? && decide (i < s.length)) (.nx r (s.set i d)) .bad
@[simp] theorem kStSet_eq (j i : Nat) (r : En) (d : D) (s : Sg) : kStSet j i r d s = pick (isSt r[j]? && decide (i < s.length)) (.nx r (s.set i d)) .bad := id rfl
@[simp] theorem sStSet_eq (j i : Nat) (m : M) (r : En) (s : Sg) : sStSet j i m r s = (m r s).out r (kStSet j i r) := by
  unfold sStSet kStSet; rw [sE_out]; congr; funext d s1; unfold isSt pick; split <;> simp_all
def ownDO : Option (Option Sl) → Option (List D × List D)
  | some (some (.o1 (.m ks vs))) => some (ks, vs)
  | _ => none
@[simp] theorem ownDO_m (ks vs : List D) : ownDO (some (some (.o1 (.m ks vs)))) = some (ks, vs) := id rfl
theorem ownD_eq (j : Nat) (f : List D → List D → MS) (r : En) (s : Sg) : ownD j f r s = onS (ownDO r[j]?) fun p => f p.1 p.2 r s := by
  unfold ownD ownDO; split <;> simp_all [onS]
def kKey3 (j : Nat) (d : D) (p : List D × List D) (r : En) : D → Sg → O := fun k s => pick (txtKeys p.1 k && decide (p.2.length < sizeLine)) (.nx (r.set j (some (.o1 (.m (putD p.1 p.2 k d).1 (putD p.1 p.2 k d).2)))) s) .bad
@[simp] theorem kKey3_eq (j : Nat) (d : D) (p : List D × List D) (r : En) (k : D) (s : Sg) : kKey3 j d p r k s = pick (txtKeys p.1 k && decide (p.2.length < sizeLine)) (.nx (r.set j (some (.o1 (.m (putD p.1 p.2 k d).1 (putD p.1 p.2 k d).2)))) s) .bad := id rfl
def kKey2 (j : Nat) (d : D) (mi : M) (r : En) (s : Sg) : List D × List D → O := fun p => (mi r s).out r (kKey3 j d p r)
@[simp] theorem kKey2_eq (j : Nat) (d : D) (mi : M) (r : En) (s : Sg) (p : List D × List D) : kKey2 j d mi r s p = (mi r s).out r (kKey3 j d p r) := id rfl
def kKey1 (j : Nat) (mi : M) (r : En) : D → Sg → O := fun d s => onS (ownDO r[j]?) (kKey2 j d mi r s)
@[simp] theorem kKey1_eq (j : Nat) (mi : M) (r : En) (d : D) (s : Sg) : kKey1 j mi r d s = onS (ownDO r[j]?) (kKey2 j d mi r s) := id rfl
@[simp] theorem sSetKey_eq (j : Nat) (m mi : M) (r : En) (s : Sg) : sSetKey j m mi r s = (m r s).out r (kKey1 j mi r) := by
  unfold sSetKey kKey1 kKey2 kKey3 pick; rw [sE_out]; simp only [ownD_eq, sE_out]
/-- what a loop does with the end of a turn -/
def O.turn : O → (En → Sg → O) → O
  | .nx r s, f => f r s
  | .cont r s, f => f r s
  | .brk r s, _ => .nx r s
  | .ret d s, _ => .ret d s
  | .exc c r s, _ => .exc c r s
  | .bad, _ => .bad
@[simp] theorem O.turn_nx (r : En) (s : Sg) (f : En → Sg → O) : (O.nx r s).turn f = f r s := id rfl
@[simp] theorem O.turn_cont (r : En) (s : Sg) (f : En → Sg → O) : (O.cont r s).turn f = f r s := id rfl
@[simp] theorem O.turn_brk (r : En) (s : Sg) (f : En → Sg → O) : (O.brk r s).turn f = .nx r s := id rfl
@[simp] theorem O.turn_ret (d : D) (s : Sg) (f : En → Sg → O) : (O.ret d s).turn f = .ret d s := id rfl
@[simp] theorem O.turn_exc (c : Nat) (r : En) (s : Sg) (f : En → Sg → O) : (O.exc c r s).turn f = .exc c r s := id rfl
@[simp] theorem loopF_nil (f : D → En → Option En) (b : MS) (r : En) (s : Sg) : loopF f b [] r s = .nx r s := id rfl
def kTurn (f : D → En → Option En) (b : MS) (ds : List D) (s : Sg) : En → O := fun r1 => (b r1 s).turn (loopF f b ds)
@[simp] theorem kTurn_eq (f : D → En → Option En) (b : MS) (ds : List D) (s : Sg) (r1 : En) : kTurn f b ds s r1 = (b r1 s).turn (loopF f b ds) := id rfl
theorem loopF_cons (f : D → En → Option En) (b : MS) (d : D) (ds : List D) (r : En) (s : Sg) : loopF f b (d :: ds) r s = onS (f d r) (kTurn f b ds s) := by
  show (match f d r with | none => _ | some r1 => _) = _
  cases f d r with
  | none => rfl
  | some r1 =>
    show (match b r1 s with | .nx _ _ => _ | .cont _ _ => _ | .brk _ _ => _ | .ret _ _ => _ | .exc _ _ _ => _ | .bad => _) = (b r1 s).turn _
    cases h : b r1 s <;> rfl
def kFor (f : D → En → Option En) (b : MS) (r : En) : List D → Sg → O := fun ds s => loopF f b ds r s
@[simp] theorem kFor_eq (f : D → En → Option En) (b : MS) (r : En) (ds : List D) (s : Sg) : kFor f b r ds s = loopF f b ds r s := id rfl
@[simp] theorem sFor_eq (it : Ml) (f : D → En → Option En) (b : MS) (r : En) (s : Sg) : sFor it f b r s = (it r s).out r (kFor f b r) := by
  unfold sFor kFor R.out; cases it r s <;> rfl
/-- a loop that keeps what is said of its names -/
theorem loopF_inv {f : D → En → Option En} {b : MS} {I : En → Sg → Prop} : ∀ (ds : List D) {r : En} {s : Sg}, I r s → (∀ d ∈ ds, ∀ r s, I r s → ∃ r1 r2 s2, f d r = some r1 ∧ b r1 s = .nx r2 s2 ∧ I r2 s2) → ∃ r' s', loopF f b ds r s = .nx r' s' ∧ I r' s'
  | [], r, s, h, _ => ⟨r, s, rfl, h⟩
  | d :: ds, r, s, h, k => by
    obtain ⟨r1, r2, s2, e1, e2, h2⟩ := k d (by simp) r s h
    obtain ⟨r', s', e, h'⟩ := loopF_inv ds h2 fun x hx => k x (by simp [hx])
    exact ⟨r', s', by rw [loopF_cons, e1]; simp [e2, e], h'⟩
/-- a block's items -/
def R.opt {α : Type} : R α → Option α
  | .ok a _ => some a
  | _ => none
theorem compF_map {f : D → En → Option En} {t : Mt} {m : M} {r : En} {s : Sg} {p : D → Bool} {g : D → D} : ∀ ds : List D, (∀ d ∈ ds, ∃ r1, f d r = some r1 ∧ t r1 s = .ok (p d) s ∧ (p d = true → m r1 s = .ok (g d) s)) → compF f t m r ds s = .ok ((ds.filter p).map g) s
  | [], _ => rfl
  | d :: ds, h => by
    obtain ⟨r1, e1, e2, e3⟩ := h d (by simp)
    have ih := compF_map (m := m) ds fun x hx => h x (by simp [hx])
    show (match f d r with | none => _ | some r1 => _) = _
    rw [e1]
    show R.bind _ _ = _
    rw [e2]
    cases q : p d with
    | true => simp [q, e3 q, ih]
    | false => simp [q, ih]
@[simp] theorem noX_ok {α : Type} (a : α) (s : Sg) : noX (.ok a s) = .ok a s := id rfl
def kComp2  : List D → Sg → R D := fun xs s => pick (decide (xs.length ≤ sizeLine)) (.ok (.l xs) s) .bad
@[simp] theorem kComp2_eq  (xs : List D) (s : Sg) : kComp2  xs s = pick (decide (xs.length ≤ sizeLine)) (.ok (.l xs) s) .bad := id rfl
def kComp1 (vs : List Nat) (f : D → En → Option En) (t : Mt) (m : M) (r : En) : List D → Sg → R D := fun ds s => (noX (compF f t m (wipeE r vs) ds s)).bind kComp2
@[simp] theorem kComp1_eq (vs : List Nat) (f : D → En → Option En) (t : Mt) (m : M) (r : En) (ds : List D) (s : Sg) : kComp1 vs f t m r ds s = (noX (compF f t m (wipeE r vs) ds s)).bind kComp2 := id rfl
@[simp] theorem dComp_eq (it : Ml) (vs : List Nat) (f : D → En → Option En) (t : Mt) (m : M) (r : En) (s : Sg) : dComp it vs f t m r s = (it r s).bind (kComp1 vs f t m r) := by
  unfold dComp kComp1 kComp2 pick; simp only [decide_eq_true_eq]
@[simp] theorem compF_nil (f : D → En → Option En) (t : Mt) (m : M) (r : En) (s : Sg) : compF f t m r [] s = .ok [] s := id rfl
def kCf4 (x : D) : List D → Sg → R (List D) := fun xs s => .ok (x :: xs) s
@[simp] theorem kCf4_eq (x : D) (xs : List D) (s : Sg) : kCf4 x xs s = .ok (x :: xs) s := id rfl
def kCf3 (f : D → En → Option En) (t : Mt) (m : M) (r : En) (ds : List D) : D → Sg → R (List D) := fun x s => (compF f t m r ds s).bind (kCf4 x)
@[simp] theorem kCf3_eq (f : D → En → Option En) (t : Mt) (m : M) (r : En) (ds : List D) (x : D) (s : Sg) : kCf3 f t m r ds x s = (compF f t m r ds s).bind (kCf4 x) := id rfl
def kCf2 (f : D → En → Option En) (t : Mt) (m : M) (r : En) (ds : List D) : En → Sg → R (List D) := fun r1 s => (m r1 s).bind (kCf3 f t m r ds)
@[simp] theorem kCf2_eq (f : D → En → Option En) (t : Mt) (m : M) (r : En) (ds : List D) (r1 : En) (s : Sg) : kCf2 f t m r ds r1 s = (m r1 s).bind (kCf3 f t m r ds) := id rfl
def kCfN (f : D → En → Option En) (t : Mt) (m : M) (r : En) (ds : List D) : En → Sg → R (List D) := fun r1 s => compF f t m r ds s
@[simp] theorem kCfN_eq (f : D → En → Option En) (t : Mt) (m : M) (r : En) (ds : List D) (r1 : En) (s : Sg) : kCfN f t m r ds r1 s = compF f t m r ds s := id rfl
def kCf1 (f : D → En → Option En) (t : Mt) (m : M) (r : En) (ds : List D) (r1 : En) : Bool → Sg → R (List D) := fun k s => pickU k (kCf2 f t m r ds) (kCfN f t m r ds) r1 s
@[simp] theorem kCf1_eq (f : D → En → Option En) (t : Mt) (m : M) (r : En) (ds : List D) (r1 : En) (k : Bool) (s : Sg) : kCf1 f t m r ds r1 k s = pickU k (kCf2 f t m r ds) (kCfN f t m r ds) r1 s := id rfl
def kCf0 (f : D → En → Option En) (t : Mt) (m : M) (r : En) (ds : List D) (s : Sg) : En → R (List D) := fun r1 => (t r1 s).bind (kCf1 f t m r ds r1)
@[simp] theorem kCf0_eq (f : D → En → Option En) (t : Mt) (m : M) (r : En) (ds : List D) (s : Sg) (r1 : En) : kCf0 f t m r ds s r1 = (t r1 s).bind (kCf1 f t m r ds r1) := id rfl
theorem compF_cons (f : D → En → Option En) (t : Mt) (m : M) (r : En) (d : D) (ds : List D) (s : Sg) : compF f t m r (d :: ds) s = onO (f d r) (kCf0 f t m r ds s) := by
  show (match f d r with | none => _ | some r1 => _) = _
  cases f d r <;> rfl
def own1O : Option (Option Sl) → Option D
  | some (some (.o1 d)) => some d
  | _ => none
@[simp] theorem own1O_l (d : D) : own1O (some (some (.o1 d))) = some d := id rfl
/-- on, where a statement went through -/
def O.thn : O → (En → Sg → O) → O
  | .nx r s, f => f r s
  | o, _ => o
@[simp] theorem O.thn_nx (r : En) (s : Sg) (f : En → Sg → O) : (O.nx r s).thn f = f r s := id rfl
def kThen2 (j : Nat) (r : En) (s : Sg) : D → O := fun d => .nx (r.set j (some (.val d))) s
@[simp] theorem kThen2_eq (j : Nat) (r : En) (s : Sg) (d : D) : kThen2 j r s d = .nx (r.set j (some (.val d))) s := id rfl
def kThen (j : Nat) : En → Sg → O := fun r s => onS (own1O r[j]?) (kThen2 j r s)
@[simp] theorem kThen_eq (j : Nat) (r : En) (s : Sg) : kThen j r s = onS (own1O r[j]?) (kThen2 j r s) := id rfl
@[simp] theorem sThenF_eq (j : Nat) (m : MS) (r : En) (s : Sg) : sThenF j m r s = (m r s).thn (kThen j) := by
  unfold sThenF O.thn kThen kThen2
  cases h : m r s with
  | nx r2 s2 =>
    simp only
    unfold own1O; split <;> simp_all [onS]
  | _ => rfl
def kItems  : D → Sg → R (List D) := fun d s => optR (itemsOf d) s
@[simp] theorem kItems_eq  (d : D) (s : Sg) : kItems  d s = optR (itemsOf d) s := id rfl
@[simp] theorem iOf_eq (m : M) (r : En) (s : Sg) : iOf m r s = (m r s).bind kItems := by
  unfold iOf kItems; congr; funext d s1; cases itemsOf d <;> rfl
def kRg2 (s : Sg) : Int → R (List D) := fun n => pick (inR n) (.ok (intsD 0 n.toNat) s) .bad
@[simp] theorem kRg2_eq (s : Sg) (n : Int) : kRg2 s n = pick (inR n) (.ok (intsD 0 n.toNat) s) .bad := id rfl
def kRg1  : D → Sg → R (List D) := fun d s => onO (intO d) (kRg2 s)
@[simp] theorem kRg1_eq  (d : D) (s : Sg) : kRg1  d s = onO (intO d) (kRg2 s) := id rfl
@[simp] theorem iRange1_eq (m : M) (r : En) (s : Sg) : iRange1 m r s = (m r s).bind kRg1 := by
  unfold iRange1 kRg1 kRg2; congr; funext d s1; cases d <;> rfl
def enO : D → Option (List D)
  | .t ds => some (enumD 0 ds)
  | .l ds => some (enumD 0 ds)
  | _ => none
@[simp] theorem enO_t (ds : List D) : enO (.t ds) = some (enumD 0 ds) := id rfl
@[simp] theorem enO_l (ds : List D) : enO (.l ds) = some (enumD 0 ds) := id rfl
def kEn  : D → Sg → R (List D) := fun d s => optR (enO d) s
@[simp] theorem kEn_eq  (d : D) (s : Sg) : kEn  d s = optR (enO d) s := id rfl
@[simp] theorem iEn_eq (m : M) (r : En) (s : Sg) : iEn m r s = (m r s).bind kEn := by
  unfold iEn kEn; congr; funext d s1; cases d <;> rfl
/-- how a def ends -/
def O.fin : O → R D
  | .nx _ s => .ok .n s
  | .ret d s => .ok d s
  | .exc c _ s => .exc c s
  | _ => .bad
@[simp] theorem O.fin_nx (r : En) (s : Sg) : (O.nx r s).fin = .ok .n s := id rfl
@[simp] theorem O.fin_ret (d : D) (s : Sg) : (O.ret d s).fin = .ok d s := id rfl
@[simp] theorem O.fin_exc (c : Nat) (r : En) (s : Sg) : (O.exc c r s).fin = .exc c s := id rfl
@[simp] theorem runF_eq (sg : List Bool) (n : Nat) (m : MS) (ds : List D) (s : Sg) : runF sg n m ds s = pick (decide (ds.length = (sg.filter (!·)).length)) (m (envOf sg ds ++ List.replicate (n - sg.length) none) s).fin .bad := by
  unfold runF pick O.fin
  first
    | (simp only [decide_eq_true_eq]; done)
    | (simp only [decide_eq_true_eq]
       split
       · cases m (envOf sg ds ++ List.replicate (n - sg.length) none) s <;> rfl
       · rfl)
def O.finR : O → R D
  | .ret d s => .ok d s
  | .exc c _ s => .exc c s
  | _ => .bad
@[simp] theorem O.finR_ret (d : D) (s : Sg) : (O.ret d s).finR = .ok d s := id rfl
@[simp] theorem runFr_eq (sg : List Bool) (n : Nat) (m : MS) (ds : List D) (s : Sg) : runFr sg n m ds s = pick (decide (ds.length = (sg.filter (!·)).length)) (m (envOf sg ds ++ List.replicate (n - sg.length) none) s).finR .bad := by
  unfold runFr pick O.finR
  first
    | (simp only [decide_eq_true_eq]; done)
    | (simp only [decide_eq_true_eq]
       split
       · cases m (envOf sg ds ++ List.replicate (n - sg.length) none) s <;> rfl
       · rfl)
@[simp] theorem runG_eq (fr : Bool) (sg : List Bool) (n : Nat) (m : MS) (ds : List D) (s : Sg) : runG fr sg n m ds s = pick fr (runFr sg n m ds s) (runF sg n m ds s) := by
  cases fr <;> rfl
@[simp] theorem envOf_nil (ds : List D) : envOf [] ds = [] := id rfl
@[simp] theorem envOf_st (sg : List Bool) (ds : List D) : envOf (true :: sg) ds = some .st :: envOf sg ds := id rfl
@[simp] theorem envOf_val (sg : List Bool) (d : D) (ds : List D) : envOf (false :: sg) (d :: ds) = some (.val d) :: envOf sg ds := id rfl
@[simp] theorem gN_eq (j : Nat) (d : D) (r : En) : gN j d r = pick (decide (j < r.length)) (some (r.set j (some (.val d)))) none := by
  unfold gN pick; simp
@[simp] theorem gT_t (js : List Nat) (ds : List D) (r : En) : gT js (.t ds) r = gNs js ds r := id rfl
@[simp] theorem gL_l (js : List Nat) (ds : List D) (r : En) : gL js (.l ds) r = gNs js ds r := id rfl
@[simp] theorem gNs_nil (r : En) : gNs [] [] r = some r := id rfl
@[simp] theorem gNs_cons (j : Nat) (js : List Nat) (d : D) (ds : List D) (r : En) : gNs (j :: js) (d :: ds) r = pick (decide (j < r.length)) (gNs js ds (r.set j (some (.val d)))) none := by
  show (if j < r.length then _ else _) = _
  unfold pick; simp
@[simp] theorem wipeE_nil (r : En) : wipeE r [] = r := id rfl
@[simp] theorem wipeE_cons (r : En) (j : Nat) (js : List Nat) : wipeE r (j :: js) = (wipeE r js).set j none := id rfl
def R.outSt : R D → En → (List D → O) → O
  | .ok (.l ds) _, _, f => f ds
  | .ok _ _, _, _ => .bad
  | .exc c s, r, _ => .exc c r s
  | .bad, _, _ => .bad
@[simp] theorem R.outSt_ok (ds : List D) (s : Sg) (r : En) (f : List D → O) : (R.ok (.l ds) s).outSt r f = f ds := id rfl
def kSetSt (j : Nat) (r : En) : List D → O := fun ds => pick (decide (j < r.length) && noStE j r) (.nx (r.set j (some .st)) ds) .bad
@[simp] theorem kSetSt_eq (j : Nat) (r : En) (ds : List D) : kSetSt j r ds = pick (decide (j < r.length) && noStE j r) (.nx (r.set j (some .st)) ds) .bad := id rfl
@[simp] theorem sSetSt_eq (j : Nat) (m : M) (r : En) (s : Sg) : sSetSt j m r s = (m r s).outSt r (kSetSt j r) := by
  unfold sSetSt R.outSt kSetSt pick; cases m r s with
  | ok d s1 => cases d <;> rfl
  | _ => rfl
/-- the end of a suite that has a caught error's name -/
def O.after (j : Nat) : O → O
  | .nx r2 s2 => .nx (r2.set j none) s2
  | .brk r2 s2 => .brk (r2.set j none) s2
  | .cont r2 s2 => .cont (r2.set j none) s2
  | .ret d s2 => .ret d s2
  | .exc _ _ _ => .bad
  | .bad => .bad
@[simp] theorem O.after_nx (j : Nat) (r : En) (s : Sg) : (O.nx r s).after j = .nx (r.set j none) s := id rfl
@[simp] theorem O.after_cont (j : Nat) (r : En) (s : Sg) : (O.cont r s).after j = .cont (r.set j none) s := id rfl
@[simp] theorem O.after_ret (j : Nat) (d : D) (s : Sg) : (O.ret d s).after j = .ret d s := id rfl
def kCatch (j c : Nat) (m : MS) : MS := fun r s => (m (r.set j (some (.val (.x c)))) s).after j
@[simp] theorem kCatch_eq (j c : Nat) (m : MS) (r : En) (s : Sg) : kCatch j c m r s = (m (r.set j (some (.val (.x c)))) s).after j := id rfl
def kMiss (e c : Nat) : MS := fun r s => if c < 9 then (if taken e c = true then .bad else .exc c r s) else .bad
def O.catchB (o : O) (j e : Nat) (m : MS) : O := match o with
  | .exc c r1 s1 => pickU (decide (c < 9) && taken e c && decide (j < r1.length)) (kCatch j c m) (kMiss e c) r1 s1
  | o => o
@[simp] theorem catchB_nx (r : En) (s : Sg) (j e : Nat) (m : MS) : (O.nx r s).catchB j e m = .nx r s := id rfl
@[simp] theorem catchB_ret (d : D) (s : Sg) (j e : Nat) (m : MS) : (O.ret d s).catchB j e m = .ret d s := id rfl
@[simp] theorem catchB_exc (c : Nat) (r : En) (s : Sg) (j e : Nat) (m : MS) : (O.exc c r s).catchB j e m = pickU (decide (c < 9) && taken e c && decide (j < r.length)) (kCatch j c m) (kMiss e c) r s := id rfl
@[simp] theorem sTryAs_eq (j e : Nat) (b m : MS) (r : En) (sg : Sg) : sTryAs j e b m r sg = (b r sg).catchB j e m := by
  unfold sTryAs O.catchB
  cases b r sg with
  | exc c r1 s1 =>
    simp only [pickU, kCatch, kMiss]
    by_cases h1 : c < 9 <;> by_cases h2 : taken e c = true <;> by_cases h3 : j < r1.length <;> simp [h1, h2, h3]
    cases m (List.set r1 j (some (Sl.val (D.x c)))) s1 <;> rfl
  | _ => rfl
end DL

/-! P1: values, in plain Lean. -/
namespace DL
open PySem

@[simp] theorem size_le : decide ((0 : Nat) ≤ sizeLine) = true := id rfl
theorem le_size {n : Nat} (h : n ≤ 16777216) : n ≤ sizeLine := h
theorem lt_size {n : Nat} (h : n < 16777216) : n < sizeLine := h
@[simp] theorem sizeLine_eq : sizeLine = 16777216 := id rfl

/-! ### places -/
theorem atI_nat {α : Type} (xs : List α) (n : Nat) : L2.atI xs (n : Int) = xs[n]? := by
  unfold L2.atI L2.ixN
  rw [if_pos (Int.natCast_nonneg n)]
  by_cases h : n < xs.length
  · rw [if_pos (by omega)]; simp
  · rw [if_neg (by omega)]; simp; omega
theorem atI_pos {α : Type} (xs : List α) {i : Int} (h : 0 ≤ i) : L2.atI xs i = xs[i.toNat]? := by
  have := atI_nat xs i.toNat
  rwa [Int.toNat_of_nonneg h] at this
@[simp] theorem atI_0 {α : Type} (xs : List α) : L2.atI xs 0 = xs[0]? := atI_nat xs 0
@[simp] theorem atI_1 {α : Type} (xs : List α) : L2.atI xs 1 = xs[1]? := atI_nat xs 1
@[simp] theorem atI_2 {α : Type} (xs : List α) : L2.atI xs 2 = xs[2]? := atI_nat xs 2
@[simp] theorem atI_3 {α : Type} (xs : List α) : L2.atI xs 3 = xs[3]? := atI_nat xs 3
@[simp] theorem fIx_t (ds : List D) (i : Int) : fIx (.t ds) (.i i) = L2.atI ds i := id rfl
@[simp] theorem fIx_l (ds : List D) (i : Int) : fIx (.l ds) (.i i) = L2.atI ds i := id rfl
@[simp] theorem fIx_k (ds : List D) (i : Int) : fIx (.k ds) (.i i) = L2.atI ds i := id rfl
/-- one of those that stand there -/
theorem atI_mem {α : Type} {xs : List α} {i : Int} (h : 0 ≤ i) (h2 : i < xs.length) : ∃ x, L2.atI xs i = some x ∧ x ∈ xs := by
  rw [atI_pos xs h]
  have : i.toNat < xs.length := by omega
  exact ⟨xs[i.toNat], by simp [this], by simp⟩
/-- a text's sign -/
theorem fIx_s {z : Str} {i : Int} (hz : z.length ≤ 16777216) (h : 0 ≤ i) (h2 : i < z.length) : ∃ x : Str, fIx (.s z) (.i i) = some (.s x) ∧ x.length = 1 := by
  have e : z.cps.toList.length = z.length := by simp [Str.length]
  obtain ⟨x, e1, _⟩ := atI_mem (xs := z.cps.toList) h (by rw [e]; exact h2)
  refine ⟨⟨#[x]⟩, ?_, rfl⟩
  unfold fIx
  simp only
  rw [if_pos (le_size hz), e1]
  rfl

/-! ### slices -/
@[simp] theorem fSl_t (ds : List D) (lo hi : Option Int) : fSl (.t ds) lo hi = some (.t (cut ds lo hi)) := id rfl
@[simp] theorem fSl_l (ds : List D) (lo hi : Option Int) : fSl (.l ds) lo hi = some (.l (cut ds lo hi)) := id rfl
theorem cut_from (xs : List D) (n : Nat) : cut xs (some (n : Int)) none = xs.drop n := by
  unfold cut
  rw [HT.sIx_nat, HT.sIx_none]
  rcases Nat.le_total n xs.length with h | h
  · rw [Nat.min_eq_left h]
    exact List.take_of_length_le (by rw [List.length_drop]; omega)
  · rw [Nat.min_eq_right h, List.drop_length, List.drop_eq_nil_of_le h]; simp
theorem cut_to (xs : List D) (n : Nat) : cut xs none (some (n : Int)) = xs.take n := by
  unfold cut
  rw [HT.sIx_nat, HT.sIx_none]
  simp only [List.drop_zero, Nat.sub_zero]
  rcases Nat.le_total n xs.length with h | h
  · rw [Nat.min_eq_left h]
  · rw [Nat.min_eq_right h, List.take_length, List.take_of_length_le h]
@[simp] theorem cut_1 (xs : List D) : cut xs (some 1) none = xs.drop 1 := cut_from xs 1
@[simp] theorem cut_t0 (xs : List D) : cut xs none (some 0) = [] := cut_to xs 0
@[simp] theorem cut_t2 (xs : List D) : cut xs none (some 2) = xs.take 2 := cut_to xs 2
@[simp] theorem cut_t3 (xs : List D) : cut xs none (some 3) = xs.take 3 := cut_to xs 3

/-! ### numbers and texts -/
@[simp] theorem fLt_i (a b : Int) : fLt (.i a) (.i b) = some (.b (decide (a < b))) := id rfl
@[simp] theorem fLe_i (a b : Int) : fLe (.i a) (.i b) = some (.b (decide (a ≤ b))) := id rfl
@[simp] theorem fGt_i (a b : Int) : fGt (.i a) (.i b) = some (.b (decide (b < a))) := id rfl
@[simp] theorem fGe_i (a b : Int) : fGe (.i a) (.i b) = some (.b (decide (b ≤ a))) := id rfl
@[simp] theorem fSub_i (a b : Int) : fSub (.i a) (.i b) = some (.i (a - b)) := id rfl
@[simp] theorem fAdd_i (a b : Int) : fAdd (.i a) (.i b) = some (.i (a + b)) := id rfl
theorem fMul_i {a b : Int} (h : b.natAbs < 2 ^ 64) : fMul (.i a) (.i b) = some (.i (a * b)) := by
  unfold fMul; simp only
  rw [if_pos (by simp [h])]
theorem fMul_i' {a b : Int} (h : a.natAbs < 2 ^ 64) : fMul (.i a) (.i b) = some (.i (a * b)) := by
  unfold fMul; simp only
  rw [if_pos (by simp [h])]
theorem fMod_i {a b : Int} (h : 0 < b) : fMod (.i a) (.i b) = some (.i (a % b)) := by
  unfold fMod iBC; simp only
  rw [if_pos (by simpa using h)]
theorem fDiv_i {a b : Int} (h : 0 < b) (h2 : b < 1073741824) : fDiv (.i a) (.i b) = some (.i (a / b)) := by
  unfold fDiv iBC; simp only
  rw [if_pos (by simp [h, h2])]
theorem fAdd_s {a b : Str} (h : a.length + b.length ≤ 16777216) : fAdd (.s a) (.s b) = some (.s (a ++ b)) := by
  unfold fAdd; simp only; rw [if_pos (le_size h)]
theorem fAdd_t {a b : List D} (h : a.length + b.length ≤ 16777216) : fAdd (.t a) (.t b) = some (.t (a ++ b)) := by
  unfold fAdd; simp only; rw [if_pos (le_size h)]
theorem fAdd_l {a b : List D} (h : a.length + b.length ≤ 16777216) : fAdd (.l a) (.l b) = some (.l (a ++ b)) := by
  unfold fAdd; simp only; rw [if_pos (le_size h)]
theorem str_append_length (a b : Str) : (a ++ b).length = a.length + b.length := by
  show (Str.mk (a.cps ++ b.cps)).cps.size = _
  simp [Str.length]
@[simp] theorem fTuple_l (ds : List D) : fTuple [.l ds] = some (.t ds) := id rfl
@[simp] theorem fTuple_t (ds : List D) : fTuple [.t ds] = some (.t ds) := id rfl
@[simp] theorem fLen_t (ds : List D) : fLen [.t ds] = some (.i ds.length) := id rfl
@[simp] theorem fLen_l (ds : List D) : fLen [.l ds] = some (.i ds.length) := id rfl
@[simp] theorem fLen_k (ds : List D) : fLen [.k ds] = some (.i ds.length) := id rfl
theorem fLen_s {z : Str} (h : z.length ≤ 16777216) : fLen [.s z] = some (.i z.length) := by
  unfold fLen; simp only; rw [if_pos (le_size h)]
@[simp] theorem fInt_b (k : Bool) : fInt [.b k] = some (.i (if k then 1 else 0)) := id rfl
@[simp] theorem itemsOf_t (ds : List D) : itemsOf (.t ds) = some ds := id rfl
@[simp] theorem itemsOf_l (ds : List D) : itemsOf (.l ds) = some ds := id rfl
@[simp] theorem enumD_nil (k : Nat) : enumD k [] = [] := id rfl
@[simp] theorem enumD_cons (k : Nat) (d : D) (ds : List D) : enumD k (d :: ds) = .t [.i k, d] :: enumD (k + 1) ds := id rfl
theorem intsD_mem {n : Nat} {d : D} (h : d ∈ intsD 0 n) : ∃ k : Nat, k < n ∧ d = .i k := by
  unfold intsD at h
  obtain ⟨k, hk, rfl⟩ := List.mem_map.mp h
  exact ⟨k, List.mem_range.mp hk, by simp⟩
@[simp] theorem intsD_length (lo : Int) (n : Nat) : (intsD lo n).length = n := by simp [intsD]
theorem inR_nat {n : Nat} (h : n < 1073741824) : inR (n : Int) = true := by
  unfold inR; simp only [Bool.and_eq_true, decide_eq_true_eq]; omega
theorem inR_i {n : Int} (h : -1073741824 < n) (h2 : n < 1073741824) : inR n = true := by
  unfold inR; simp only [Bool.and_eq_true, decide_eq_true_eq]; omega
@[simp] theorem isNone_n : isNone .n = true := id rfl
@[simp] theorem isNone_t (ds : List D) : isNone (.t ds) = false := id rfl

/-! ### kinds -/
@[simp] theorem truth_n : truth .n = some false := id rfl
@[simp] theorem truth_b (k : Bool) : truth (.b k) = some k := id rfl
@[simp] theorem isiA_nil (d : D) : isiA d [] = some false := id rfl
theorem isiA_cons (d : D) (k : Kc) (ks : List Kc) : isiA d (k :: ks) = match isi1 d k with | some true => some true | some false => isiA d ks | none => none := rfl

/-! ### data -/
/-- data without dicts, at most n deep -/
def okn (n : Nat) (d : D) : Prop := (toPy d).plain = true ∧ (toPy d).depth ≤ n
theorem okn_n (n : Nat) : okn n .n := ⟨rfl, Nat.zero_le _⟩
theorem okn_b (n : Nat) (k : Bool) : okn n (.b k) := ⟨rfl, Nat.zero_le _⟩
theorem okn_i (n : Nat) (k : Int) : okn n (.i k) := ⟨rfl, Nat.zero_le _⟩
theorem okn_s (n : Nat) (k : Str) : okn n (.s k) := ⟨rfl, Nat.zero_le _⟩
theorem okn_all {n : Nat} : ∀ {ds : List D}, (∀ d ∈ ds, okn n d) → PyData.plainAll (toPys ds) = true ∧ PyData.depthAll (toPys ds) ≤ n
  | [], _ => ⟨rfl, Nat.zero_le _⟩
  | d :: ds, h => by
    obtain ⟨h1, h2⟩ := h d (by simp)
    obtain ⟨h3, h4⟩ := okn_all (ds := ds) fun x hx => h x (by simp [hx])
    exact ⟨by show ((toPy d).plain && _) = true; rw [h1, h3]; rfl, by show max (toPy d).depth _ ≤ n; omega⟩
theorem okn_t {n : Nat} {ds : List D} (h : ∀ d ∈ ds, okn n d) : okn (n + 1) (.t ds) := by
  obtain ⟨h1, h2⟩ := okn_all h
  exact ⟨h1, by show PyData.depthAll (toPys ds) + 1 ≤ n + 1; omega⟩
theorem okn_l {n : Nat} {ds : List D} (h : ∀ d ∈ ds, okn n d) : okn (n + 1) (.l ds) := by
  obtain ⟨h1, h2⟩ := okn_all h
  exact ⟨h1, by show PyData.depthAll (toPys ds) + 1 ≤ n + 1; omega⟩
theorem okn_mono {n m : Nat} {d : D} (h : okn n d) (hm : n ≤ m) : okn m d := ⟨h.1, Nat.le_trans h.2 hm⟩
theorem okn_ok {n : Nat} {d : D} (h : okn n d) (hn : n ≤ 100) : ok d = true := by
  unfold ok; rw [h.1]; simpa using Nat.le_trans h.2 hn
theorem plain_mem : ∀ {ds : List D}, PyData.plainAll (toPys ds) = true → ∀ d ∈ ds, (toPy d).plain = true
  | [], _, _, h => absurd h (by simp)
  | e :: ds, h, d, hd => by
    have h : ((toPy e).plain && PyData.plainAll (toPys ds)) = true := h
    rw [Bool.and_eq_true] at h
    rcases List.mem_cons.mp hd with rfl | hd
    · exact h.1
    · exact plain_mem h.2 d hd
theorem depth_mem : ∀ {ds : List D} {n : Nat}, PyData.depthAll (toPys ds) ≤ n → ∀ d ∈ ds, (toPy d).depth ≤ n
  | [], _, _, _, h => absurd h (by simp)
  | e :: ds, n, h, d, hd => by
    have h : max (toPy e).depth (PyData.depthAll (toPys ds)) ≤ n := h
    rcases List.mem_cons.mp hd with rfl | hd
    · omega
    · exact depth_mem (by omega) d hd
theorem okn_item {n : Nat} {ds : List D} {d : D} (h : okn (n + 1) (.t ds)) (hd : d ∈ ds) : okn n d :=
  ⟨plain_mem h.1 d hd, depth_mem (Nat.le_of_succ_le_succ h.2) d hd⟩
theorem fEqM_data {a b : D} (ha : ok a = true) (hb : (toPy b).plain = true) : fEqM a b = some (.b (eqv a b)) := by
  have e : fEqM a b = fEq a b := by
    unfold fEqM
    split
    · unfold ok at ha; simp [toPy, PyData.plain] at ha
    · simp [toPy, PyData.plain] at hb
    · rfl
  rw [e]; unfold fEq; rw [ha, hb]; rfl
theorem fNeM_data {a b : D} (ha : ok a = true) (hb : (toPy b).plain = true) : fNeM a b = some (.b (!eqv a b)) := by
  have e : fNeM a b = fNe a b := by
    unfold fNeM
    split
    · unfold ok at ha; simp [toPy, PyData.plain] at ha
    · simp [toPy, PyData.plain] at hb
    · rfl
  rw [e]; unfold fNe; rw [ha, hb]; rfl
theorem eqv_refl {d : D} (h : (toPy d).plain = true) : eqv d d = true := PySem.SeqAt.eqv_refl_plain _ h
@[simp] theorem eqv_ss (a b : Str) : eqv (.s a) (.s b) = (a == b) := id rfl
@[simp] theorem eqv_ii (a b : Int) : eqv (.i a) (.i b) = (a == b) := id rfl
@[simp] theorem eqv_ns (b : Str) : eqv .n (.s b) = false := id rfl
@[simp] theorem eqv_is (a : Int) (b : Str) : eqv (.i a) (.s b) = false := id rfl
@[simp] theorem eqv_ts (a : List D) (b : Str) : eqv (.t a) (.s b) = false := id rfl
@[simp] theorem eqv_tt (a b : List D) : eqv (.t a) (.t b) = PyData.eqvAll (toPys a) (toPys b) := id rfl
@[simp] theorem eqv_ll (a b : List D) : eqv (.l a) (.l b) = PyData.eqvAll (toPys a) (toPys b) := id rfl
@[simp] theorem eqvAll_nil : PyData.eqvAll (toPys []) (toPys []) = true := id rfl
@[simp] theorem eqvAll_cons (a b : D) (as bs : List D) : PyData.eqvAll (toPys (a :: as)) (toPys (b :: bs)) = (eqv a b && PyData.eqvAll (toPys as) (toPys bs)) := id rfl
@[simp] theorem eqvAll_cn (a : D) (as : List D) : PyData.eqvAll (toPys (a :: as)) (toPys []) = false := id rfl
@[simp] theorem eqvAll_nc (a : D) (as : List D) : PyData.eqvAll (toPys []) (toPys (a :: as)) = false := id rfl
@[simp] theorem plain_n : (toPy .n).plain = true := id rfl
@[simp] theorem plain_b (k : Bool) : (toPy (.b k)).plain = true := id rfl
@[simp] theorem plain_i (k : Int) : (toPy (.i k)).plain = true := id rfl
@[simp] theorem plain_s (k : Str) : (toPy (.s k)).plain = true := id rfl
@[simp] theorem plain_t (ds : List D) : (toPy (.t ds)).plain = PyData.plainAll (toPys ds) := id rfl
@[simp] theorem plain_l (ds : List D) : (toPy (.l ds)).plain = PyData.plainAll (toPys ds) := id rfl
@[simp] theorem plainAll_nil : PyData.plainAll (toPys []) = true := id rfl
@[simp] theorem plainAll_cons (d : D) (ds : List D) : PyData.plainAll (toPys (d :: ds)) = ((toPy d).plain && PyData.plainAll (toPys ds)) := id rfl
@[simp] theorem ok_n : ok .n = true := id rfl
@[simp] theorem ok_b (k : Bool) : ok (.b k) = true := id rfl
@[simp] theorem ok_i (k : Int) : ok (.i k) = true := id rfl
@[simp] theorem ok_s (k : Str) : ok (.s k) = true := id rfl
@[simp] theorem fEqM_nn   : fEqM (.n) (.n) = some (.b true) := id rfl
@[simp] theorem fNeM_nn   : fNeM (.n) (.n) = some (.b (!true)) := id rfl
@[simp] theorem eqv_nn   : eqv (.n) (.n) = true := id rfl
@[simp] theorem fEqM_nb  (q : Bool) : fEqM (.n) (.b q) = some (.b false) := id rfl
@[simp] theorem fNeM_nb  (q : Bool) : fNeM (.n) (.b q) = some (.b (!false)) := id rfl
@[simp] theorem eqv_nb  (q : Bool) : eqv (.n) (.b q) = false := id rfl
@[simp] theorem fEqM_ni  (q : Int) : fEqM (.n) (.i q) = some (.b false) := id rfl
@[simp] theorem fNeM_ni  (q : Int) : fNeM (.n) (.i q) = some (.b (!false)) := id rfl
@[simp] theorem eqv_ni  (q : Int) : eqv (.n) (.i q) = false := id rfl
@[simp] theorem fEqM_ns  (q : Str) : fEqM (.n) (.s q) = some (.b false) := id rfl
@[simp] theorem fNeM_ns  (q : Str) : fNeM (.n) (.s q) = some (.b (!false)) := id rfl
@[simp] theorem fEqM_bn (p : Bool)  : fEqM (.b p) (.n) = some (.b false) := id rfl
@[simp] theorem fNeM_bn (p : Bool)  : fNeM (.b p) (.n) = some (.b (!false)) := id rfl
@[simp] theorem eqv_bn (p : Bool)  : eqv (.b p) (.n) = false := id rfl
@[simp] theorem fEqM_bb (p : Bool) (q : Bool) : fEqM (.b p) (.b q) = some (.b (p == q)) := id rfl
@[simp] theorem fNeM_bb (p : Bool) (q : Bool) : fNeM (.b p) (.b q) = some (.b (!(p == q))) := id rfl
@[simp] theorem eqv_bb (p : Bool) (q : Bool) : eqv (.b p) (.b q) = (p == q) := id rfl
@[simp] theorem fEqM_bi (p : Bool) (q : Int) : fEqM (.b p) (.i q) = some (.b ((if p then 1 else 0) == q)) := id rfl
@[simp] theorem fNeM_bi (p : Bool) (q : Int) : fNeM (.b p) (.i q) = some (.b (!((if p then 1 else 0) == q))) := id rfl
@[simp] theorem eqv_bi (p : Bool) (q : Int) : eqv (.b p) (.i q) = ((if p then 1 else 0) == q) := id rfl
@[simp] theorem fEqM_bs (p : Bool) (q : Str) : fEqM (.b p) (.s q) = some (.b false) := id rfl
@[simp] theorem fNeM_bs (p : Bool) (q : Str) : fNeM (.b p) (.s q) = some (.b (!false)) := id rfl
@[simp] theorem eqv_bs (p : Bool) (q : Str) : eqv (.b p) (.s q) = false := id rfl
@[simp] theorem fEqM_in (p : Int)  : fEqM (.i p) (.n) = some (.b false) := id rfl
@[simp] theorem fNeM_in (p : Int)  : fNeM (.i p) (.n) = some (.b (!false)) := id rfl
@[simp] theorem eqv_in (p : Int)  : eqv (.i p) (.n) = false := id rfl
@[simp] theorem fEqM_ib (p : Int) (q : Bool) : fEqM (.i p) (.b q) = some (.b (p == (if q then 1 else 0))) := id rfl
@[simp] theorem fNeM_ib (p : Int) (q : Bool) : fNeM (.i p) (.b q) = some (.b (!(p == (if q then 1 else 0)))) := id rfl
@[simp] theorem eqv_ib (p : Int) (q : Bool) : eqv (.i p) (.b q) = (p == (if q then 1 else 0)) := id rfl
@[simp] theorem fEqM_ii (p : Int) (q : Int) : fEqM (.i p) (.i q) = some (.b (p == q)) := id rfl
@[simp] theorem fNeM_ii (p : Int) (q : Int) : fNeM (.i p) (.i q) = some (.b (!(p == q))) := id rfl
@[simp] theorem fEqM_is (p : Int) (q : Str) : fEqM (.i p) (.s q) = some (.b false) := id rfl
@[simp] theorem fNeM_is (p : Int) (q : Str) : fNeM (.i p) (.s q) = some (.b (!false)) := id rfl
@[simp] theorem fEqM_sn (p : Str)  : fEqM (.s p) (.n) = some (.b false) := id rfl
@[simp] theorem fNeM_sn (p : Str)  : fNeM (.s p) (.n) = some (.b (!false)) := id rfl
@[simp] theorem eqv_sn (p : Str)  : eqv (.s p) (.n) = false := id rfl
@[simp] theorem fEqM_sb (p : Str) (q : Bool) : fEqM (.s p) (.b q) = some (.b false) := id rfl
@[simp] theorem fNeM_sb (p : Str) (q : Bool) : fNeM (.s p) (.b q) = some (.b (!false)) := id rfl
@[simp] theorem eqv_sb (p : Str) (q : Bool) : eqv (.s p) (.b q) = false := id rfl
@[simp] theorem fEqM_si (p : Str) (q : Int) : fEqM (.s p) (.i q) = some (.b false) := id rfl
@[simp] theorem fNeM_si (p : Str) (q : Int) : fNeM (.s p) (.i q) = some (.b (!false)) := id rfl
@[simp] theorem eqv_si (p : Str) (q : Int) : eqv (.s p) (.i q) = false := id rfl
@[simp] theorem fEqM_ss (p : Str) (q : Str) : fEqM (.s p) (.s q) = some (.b (p == q)) := id rfl
@[simp] theorem fNeM_ss (p : Str) (q : Str) : fNeM (.s p) (.s q) = some (.b (!(p == q))) := id rfl
@[simp] theorem eqv_nt  (q : List D) : eqv (.n) (.t q) = false := id rfl
@[simp] theorem eqv_tn  (q : List D) : eqv (.t q) (.n) = false := id rfl
@[simp] theorem eqv_nl  (q : List D) : eqv (.n) (.l q) = false := id rfl
@[simp] theorem eqv_ln  (q : List D) : eqv (.l q) (.n) = false := id rfl
@[simp] theorem eqv_bt (p : Bool) (q : List D) : eqv (.b p) (.t q) = false := id rfl
@[simp] theorem eqv_tb (p : Bool) (q : List D) : eqv (.t q) (.b p) = false := id rfl
@[simp] theorem eqv_bl (p : Bool) (q : List D) : eqv (.b p) (.l q) = false := id rfl
@[simp] theorem eqv_lb (p : Bool) (q : List D) : eqv (.l q) (.b p) = false := id rfl
@[simp] theorem eqv_it (p : Int) (q : List D) : eqv (.i p) (.t q) = false := id rfl
@[simp] theorem eqv_ti (p : Int) (q : List D) : eqv (.t q) (.i p) = false := id rfl
@[simp] theorem eqv_il (p : Int) (q : List D) : eqv (.i p) (.l q) = false := id rfl
@[simp] theorem eqv_li (p : Int) (q : List D) : eqv (.l q) (.i p) = false := id rfl
@[simp] theorem eqv_st (p : Str) (q : List D) : eqv (.s p) (.t q) = false := id rfl
@[simp] theorem eqv_sl (p : Str) (q : List D) : eqv (.s p) (.l q) = false := id rfl
@[simp] theorem eqv_ls (p : Str) (q : List D) : eqv (.l q) (.s p) = false := id rfl
@[simp] theorem eqv_tl (p q : List D) : eqv (.t p) (.l q) = false := id rfl
@[simp] theorem eqv_lt (p q : List D) : eqv (.l p) (.t q) = false := id rfl
@[simp] theorem fEqM_sm (a : Str) (ks vs : List D) : fEqM (.s a) (.m ks vs) = some (.b false) := id rfl
@[simp] theorem fNeM_ms (a : Str) (ks vs : List D) : fNeM (.m ks vs) (.s a) = some (.b true) := id rfl

/-! ### the drawing state -/
def StO (s : Sg) : Prop := ∃ a b c : Int, s = [.i a, .i b, .i c]
end DL

/-! P2: texts; blocks. -/
namespace DL
open PySem

/-- it goes well, and so it ends -/
def R.sat {α : Type} (m : R α) (P : α → Sg → Prop) : Prop := ∃ a s, m = .ok a s ∧ P a s
@[simp] theorem R.sat_ok {α : Type} (a : α) (s : Sg) (P : α → Sg → Prop) : (R.ok a s).sat P ↔ P a s :=
  ⟨fun ⟨_, _, e, h⟩ => by cases e; exact h, fun h => ⟨_, _, rfl, h⟩⟩
/-- a text, at most n signs long -/
def Tx (n : Nat) (d : D) : Prop := ∃ w : Str, d = .s w ∧ w.length ≤ n
theorem cutS_le (z : Str) (lo hi : Option Int) : (L2.cutS z lo hi).length ≤ z.length := by
  unfold L2.cutS Str.length
  simp only [List.size_toArray, List.length_take, List.length_drop, Array.length_toList]
  omega
theorem fSl_s {z : Str} {lo hi : Option Int} (h : z.length ≤ 16777216) : fSl (.s z) lo hi = some (.s (L2.cutS z lo hi)) := by
  unfold fSl; simp only; rw [if_pos (le_size h)]
theorem repStr_length (x : Str) (n : Nat) : (repStr x n).length = n * x.length := by
  unfold repStr Str.length
  simp [List.length_flatten]
theorem small_i {n : Int} (h : -1000 ≤ n) (h2 : n ≤ 1000) : small n = true := by unfold small; simp [h, h2]
theorem fMul_s {x : Str} {n : Int} (h : -1000 ≤ n) (h2 : n ≤ 1000) (hx : x.length ≤ 1000) : fMul (.s x) (.i n) = some (.s (repStr x n.toNat)) := by
  unfold fMul; simp only; rw [if_pos (by simp [small_i h h2, hx])]
theorem fMul_l {x : List D} {n : Int} (h : -1000 ≤ n) (h2 : n ≤ 1000) (hx : x.length ≤ 1000) : fMul (.l x) (.i n) = some (.l (List.replicate n.toNat x).flatten) := by
  unfold fMul; simp only; rw [if_pos (by simp [small_i h h2, hx])]
theorem strsOf_ok {B : Nat} : ∀ xs : List D, (∀ x ∈ xs, Tx B x) → ∃ ys, strsOf xs = some ys ∧ (ys.map (·.length)).sum ≤ xs.length * B ∧ ys.length = xs.length
  | [], _ => ⟨[], rfl, Nat.zero_le _, rfl⟩
  | x :: xs, h => by
    obtain ⟨w, rfl, hw⟩ := h x (by simp)
    obtain ⟨ys, e, h1, h2⟩ := strsOf_ok xs fun y hy => h y (by simp [hy])
    refine ⟨w :: ys, by show (strsOf xs).map _ = _; rw [e]; rfl, ?_, by simp [h2]⟩
    simp only [List.map_cons, List.sum_cons, List.length_cons, Nat.succ_mul]
    omega
theorem fJoin_ok {B : Nat} {xs : List D} {z : Str} (hz : z.length = 0) (h : ∀ x ∈ xs, Tx B x) (hB : xs.length * B ≤ 16777216) : ∃ w, fJoin (.s z) [.l xs] = some (.s w) ∧ w.length ≤ xs.length * B := by
  obtain ⟨ys, e, h1, h2⟩ := strsOf_ok xs h
  unfold fJoin
  simp only [e, hz, Nat.mul_zero, Nat.add_zero]
  rw [if_pos (by omega)]
  refine ⟨_, rfl, ?_⟩
  show (Builtin.Str.glued z ys).length ≤ _
  rw [PySem.size_glued, hz]; omega
theorem enumD_mem {d : D} : ∀ (k : Nat) (ds : List D), d ∈ enumD k ds → ∃ (i : Nat) (e : D), d = .t [.i i, e] ∧ e ∈ ds
  | _, [], h => absurd h (by simp)
  | k, e :: ds, h => by
    rcases List.mem_cons.mp h with rfl | h
    · exact ⟨k, e, rfl, by simp⟩
    · obtain ⟨i, e', rfl, h'⟩ := enumD_mem (k + 1) ds h
      exact ⟨i, e', rfl, by simp [h']⟩
/-- a block of which each item goes well -/
theorem compF_all {f : D → En → Option En} {t : Mt} {m : M} {r : En} {s : Sg} {P : D → Prop} : ∀ ds : List D, (∀ d ∈ ds, ∃ r1 x, f d r = some r1 ∧ t r1 s = .ok true s ∧ m r1 s = .ok x s ∧ P x) → ∃ xs, compF f t m r ds s = .ok xs s ∧ xs.length = ds.length ∧ ∀ x ∈ xs, P x
  | [], _ => ⟨[], rfl, rfl, by simp⟩
  | d :: ds, h => by
    obtain ⟨r1, x, e1, e2, e3, hx⟩ := h d (by simp)
    obtain ⟨xs, e, hl, hp⟩ := compF_all (m := m) ds fun y hy => h y (by simp [hy])
    refine ⟨x :: xs, ?_, by simp [hl], ?_⟩
    · rw [compF_cons, e1]; simp [e2, e3, e]
    · intro y hy
      rcases List.mem_cons.mp hy with rfl | hy
      · exact hx
      · exact hp y hy
/-- .. of which none is taken -/
theorem compF_none {f : D → En → Option En} {t : Mt} {m : M} {r : En} {s : Sg} : ∀ ds : List D, (∀ d ∈ ds, ∃ r1, f d r = some r1 ∧ t r1 s = .ok false s) → compF f t m r ds s = .ok [] s
  | [], _ => rfl
  | d :: ds, h => by
    obtain ⟨r1, e1, e2⟩ := h d (by simp)
    have e := compF_none (m := m) ds fun y hy => h y (by simp [hy])
    rw [compF_cons, e1]; simp [e2, e]
@[simp] theorem tyD_s (z : Str) : tyD (.s z) = some "str" := id rfl
@[simp] theorem tyD_l (z : List D) : tyD (.l z) = some "list" := id rfl
theorem fIn_l {a : D} {ds : List D} (ha : ok a = true) (hd : ok (.l ds) = true) : ∃ k, fIn a (.l ds) = some (.b k) := by
  unfold fIn; simp only; rw [ha, hd]; exact ⟨_, rfl⟩
/-- by looking at it -/
def okB (n : Nat) (d : D) : Bool := (toPy d).plain && Nat.ble (toPy d).depth n
theorem okn_of {n : Nat} {d : D} (h : okB n d = true) : okn n d := by
  unfold okB at h
  rw [Bool.and_eq_true] at h
  exact ⟨h.1, Nat.le_of_ble_eq_true h.2⟩
theorem okn_mem {n : Nat} {ds : List D} {d : D} (h : ds.all (okB n) = true) (hd : d ∈ ds) : okn n d := okn_of (List.all_eq_true.mp h d hd)
/-- it went through, and so the names stand -/
def O.sat (o : O) (P : En → Sg → Prop) : Prop := ∃ r s, o = .nx r s ∧ P r s
@[simp] theorem O.sat_nx (r : En) (s : Sg) (P : En → Sg → Prop) : (O.nx r s).sat P ↔ P r s :=
  ⟨fun ⟨_, _, e, h⟩ => by cases e; exact h, fun h => ⟨_, _, rfl, h⟩⟩
theorem loopF_satN {f : D → En → Option En} {b : MS} {I : Nat → En → Sg → Prop} (N : Nat) : ∀ (ds : List D) (k : Nat) {r : En} {s : Sg}, k + ds.length ≤ N → I k r s → (∀ k d, k < N → d ∈ ds → ∀ r s, I k r s → (onS (f d r) fun r1 => b r1 s).sat (I (k + 1))) → (loopF f b ds r s).sat (I (k + ds.length))
  | [], k, r, s, _, h, _ => ⟨r, s, rfl, h⟩
  | d :: ds, k, r, s, hN, h, g => by
    rw [List.length_cons] at hN
    obtain ⟨r2, s2, e, h2⟩ := g k d (by omega) (by simp) r s h
    obtain ⟨r', s', e', h'⟩ := loopF_satN N ds (k + 1) (by omega) h2 fun k x hk hx => g k x hk (by simp [hx])
    rw [loopF_cons]
    cases q : f d r with
    | none => rw [q] at e; cases e
    | some r1 =>
      rw [q] at e
      have e : b r1 s = .nx r2 s2 := e
      refine ⟨r', s', ?_, by rw [List.length_cons, Nat.add_comm ds.length 1, ← Nat.add_assoc]; exact h'⟩
      show (b r1 s).turn _ = _
      rw [e]; exact e'
theorem loopF_sat {f : D → En → Option En} {b : MS} {I : Nat → En → Sg → Prop} (ds : List D) (k : Nat) {r : En} {s : Sg} (h : I k r s) (g : ∀ j d, j < k + ds.length → d ∈ ds → ∀ r s, I j r s → (onS (f d r) fun r1 => b r1 s).sat (I (j + 1))) : (loopF f b ds r s).sat (I (k + ds.length)) :=
  loopF_satN (k + ds.length) ds k (Nat.le_refl _) h g
/-- a loop that goes on through all items, whatever it does -/
theorem loopF_sat0 {f : D → En → Option En} {b : MS} {I : En → Sg → Prop} (ds : List D) {r : En} {s : Sg} (h : I r s) (g : ∀ d, d ∈ ds → ∀ r s, I r s → (onS (f d r) fun r1 => b r1 s).sat I) : (loopF f b ds r s).sat I :=
  loopF_sat (I := fun _ => I) ds 0 h fun _ d _ hd r s i => g d hd r s i
theorem at_of {α : Type} {xs : List α} {i : Int} {y : Option α} (h : L2.atI xs i = y) (h0 : 0 ≤ i) (h1 : i < xs.length) : ∃ x, y = some x ∧ x ∈ xs := by
  obtain ⟨x, e, m⟩ := atI_mem h0 h1
  exact ⟨x, by rw [← h, e], m⟩
theorem rep1_ok {x : D} {n : Int} (h0 : 0 ≤ n) (h1 : n < 1000) : ∃ ys, fMul (.l [x]) (.i n) = some (.l ys) ∧ ys.length ≤ 1000 ∧ ∀ y ∈ ys, y = x := by
  refine ⟨_, fMul_l (x := [x]) (n := n) (by omega) (by omega) (by simp), ?_, ?_⟩
  · simp [List.length_flatten]; omega
  · intro y hy
    simp at hy
    obtain ⟨l, hl, hy⟩ := hy
    simp_all
theorem okn_cons {n : Nat} {d : D} {ds : List D} (h : okn n d) (hs : ∀ x ∈ ds, okn n x) : ∀ x ∈ d :: ds, okn n x := fun x hx => by
  rcases List.mem_cons.mp hx with rfl | hx
  · exact h
  · exact hs x hx
theorem okn_nil {n : Nat} : ∀ x ∈ ([] : List D), okn n x := fun x hx => absurd hx (by simp)
theorem okn_app {n : Nat} {as bs : List D} (h : ∀ x ∈ as, okn n x) (h2 : ∀ x ∈ bs, okn n x) : ∀ x ∈ as ++ bs, okn n x := fun x hx => by
  rcases List.mem_append.mp hx with hx | hx
  · exact h x hx
  · exact h2 x hx
/-! ### == of what stands there -/
def okb (a b : D) : Bool := ok a && (toPy b).plain
theorem okb_eq (a b : D) : okb a b = ((toPy a).plain && decide ((toPy a).depth ≤ 100) && (toPy b).plain) := rfl
@[simp] theorem depth_n : (toPy .n).depth = 0 := id rfl
@[simp] theorem depth_b (k : Bool) : (toPy (.b k)).depth = 0 := id rfl
@[simp] theorem depth_i (k : Int) : (toPy (.i k)).depth = 0 := id rfl
@[simp] theorem depth_s (k : Str) : (toPy (.s k)).depth = 0 := id rfl
@[simp] theorem depth_t (ds : List D) : (toPy (.t ds)).depth = PyData.depthAll (toPys ds) + 1 := by simp only [toPy, PyData.depth]
@[simp] theorem depth_l (ds : List D) : (toPy (.l ds)).depth = PyData.depthAll (toPys ds) + 1 := by simp only [toPy, PyData.depth]
@[simp] theorem depthAll_nil : PyData.depthAll (toPys []) = 0 := id rfl
@[simp] theorem depthAll_cons (d : D) (ds : List D) : PyData.depthAll (toPys (d :: ds)) = max (toPy d).depth (PyData.depthAll (toPys ds)) := by simp only [toPys, PyData.depthAll]
@[simp] theorem fEqM_tx (p : List D) (b : D) : fEqM (.t p) b = pick (okb (.t p) b) (some (.b (eqv (.t p) b))) none := by
  unfold fEqM pick; cases b <;> rfl
@[simp] theorem fNeM_tx (p : List D) (b : D) : fNeM (.t p) b = pick (okb (.t p) b) (some (.b (!eqv (.t p) b))) none := by
  unfold fNeM pick; cases b <;> rfl
@[simp] theorem fEqM_lx (p : List D) (b : D) : fEqM (.l p) b = pick (okb (.l p) b) (some (.b (eqv (.l p) b))) none := by
  unfold fEqM pick; cases b <;> rfl
@[simp] theorem fNeM_lx (p : List D) (b : D) : fNeM (.l p) b = pick (okb (.l p) b) (some (.b (!eqv (.l p) b))) none := by
  unfold fNeM pick; cases b <;> rfl
@[simp] theorem fEqM_nt  (q : List D) : fEqM (.n) (.t q) = pick (okb (.n) (.t q)) (some (.b (eqv (.n) (.t q)))) none := by
  unfold fEqM pick; rfl
@[simp] theorem fNeM_nt  (q : List D) : fNeM (.n) (.t q) = pick (okb (.n) (.t q)) (some (.b (!eqv (.n) (.t q)))) none := by
  unfold fNeM pick; rfl
@[simp] theorem fEqM_nl  (q : List D) : fEqM (.n) (.l q) = pick (okb (.n) (.l q)) (some (.b (eqv (.n) (.l q)))) none := by
  unfold fEqM pick; rfl
@[simp] theorem fNeM_nl  (q : List D) : fNeM (.n) (.l q) = pick (okb (.n) (.l q)) (some (.b (!eqv (.n) (.l q)))) none := by
  unfold fNeM pick; rfl
@[simp] theorem fEqM_bt (p : Bool) (q : List D) : fEqM (.b p) (.t q) = pick (okb (.b p) (.t q)) (some (.b (eqv (.b p) (.t q)))) none := by
  unfold fEqM pick; rfl
@[simp] theorem fNeM_bt (p : Bool) (q : List D) : fNeM (.b p) (.t q) = pick (okb (.b p) (.t q)) (some (.b (!eqv (.b p) (.t q)))) none := by
  unfold fNeM pick; rfl
@[simp] theorem fEqM_bl (p : Bool) (q : List D) : fEqM (.b p) (.l q) = pick (okb (.b p) (.l q)) (some (.b (eqv (.b p) (.l q)))) none := by
  unfold fEqM pick; rfl
@[simp] theorem fNeM_bl (p : Bool) (q : List D) : fNeM (.b p) (.l q) = pick (okb (.b p) (.l q)) (some (.b (!eqv (.b p) (.l q)))) none := by
  unfold fNeM pick; rfl
@[simp] theorem fEqM_it (p : Int) (q : List D) : fEqM (.i p) (.t q) = pick (okb (.i p) (.t q)) (some (.b (eqv (.i p) (.t q)))) none := by
  unfold fEqM pick; rfl
@[simp] theorem fNeM_it (p : Int) (q : List D) : fNeM (.i p) (.t q) = pick (okb (.i p) (.t q)) (some (.b (!eqv (.i p) (.t q)))) none := by
  unfold fNeM pick; rfl
@[simp] theorem fEqM_il (p : Int) (q : List D) : fEqM (.i p) (.l q) = pick (okb (.i p) (.l q)) (some (.b (eqv (.i p) (.l q)))) none := by
  unfold fEqM pick; rfl
@[simp] theorem fNeM_il (p : Int) (q : List D) : fNeM (.i p) (.l q) = pick (okb (.i p) (.l q)) (some (.b (!eqv (.i p) (.l q)))) none := by
  unfold fNeM pick; rfl
@[simp] theorem fEqM_st (p : Str) (q : List D) : fEqM (.s p) (.t q) = pick (okb (.s p) (.t q)) (some (.b (eqv (.s p) (.t q)))) none := by
  unfold fEqM pick; rfl
@[simp] theorem fNeM_st (p : Str) (q : List D) : fNeM (.s p) (.t q) = pick (okb (.s p) (.t q)) (some (.b (!eqv (.s p) (.t q)))) none := by
  unfold fNeM pick; rfl
@[simp] theorem fEqM_sl (p : Str) (q : List D) : fEqM (.s p) (.l q) = pick (okb (.s p) (.l q)) (some (.b (eqv (.s p) (.l q)))) none := by
  unfold fEqM pick; rfl
@[simp] theorem fNeM_sl (p : Str) (q : List D) : fNeM (.s p) (.l q) = pick (okb (.s p) (.l q)) (some (.b (!eqv (.s p) (.l q)))) none := by
  unfold fNeM pick; rfl
@[simp] theorem fIn_t (a : D) (ds : List D) : fIn a (.t ds) = pick (ok a && ok (.t ds)) (some (.b (ds.any fun z => eqv z a))) none := by
  unfold fIn pick; rfl
@[simp] theorem fIn_l' (a : D) (ds : List D) : fIn a (.l ds) = pick (ok a && ok (.l ds)) (some (.b (ds.any fun z => eqv z a))) none := by
  unfold fIn pick; rfl
theorem ok_eq (a : D) : ok a = ((toPy a).plain && decide ((toPy a).depth ≤ 100)) := rfl
end DL

namespace G
open PySem DL
def Nx (n : Int) (d : D) (s : Sg) : Prop := ∃ i, d = .i i ∧ 0 ≤ i ∧ i < n ∧ StO s
theorem next_ok {n : Int} (h0 : 0 < n) (h1 : n < 1073741824) {s : Sg} (hs : StO s) : (F__law_next [.i n] s).sat (Nx n) := by
  obtain ⟨a, b, c, rfl⟩ := hs
  have m0 : ∀ x : Int, 0 ≤ x % n := fun x => Int.emod_nonneg x (by omega)
  have m1 : ∀ x : Int, x % n < n := fun x => Int.emod_lt_of_pos x h0
  simp -implicitDefEqProofs [F__law_next, B__law_next]
  by_cases h : a = 0
  · simp -implicitDefEqProofs [h, fMod_i h0, fDiv_i h0 h1]
    exact ⟨_, rfl, m0 _, m1 _, _, _, _, rfl⟩
  · have e : (a == 0) = false := by simpa using h
    have k1 : ∀ x : Int, 0 ≤ x % 2147483647 := fun x => Int.emod_nonneg x (by omega)
    have k2 : ∀ x : Int, x % 2147483647 < 2147483647 := fun x => Int.emod_lt_of_pos x (by omega)
    have j1 : ∀ x : Int, 0 ≤ x % 2147483629 := fun x => Int.emod_nonneg x (by omega)
    have j2 : ∀ x : Int, x % 2147483629 < 2147483629 := fun x => Int.emod_lt_of_pos x (by omega)
    have b1 : ∀ x y : Int, fMul (.i (x % 2147483647)) (.i y) = some (.i (x % 2147483647 * y)) := fun x y => fMul_i' (by have := k1 x; have := k2 x; omega)
    have b2 : ∀ x y : Int, fMul (.i (x % 2147483629)) (.i y) = some (.i (x % 2147483629 * y)) := fun x y => fMul_i' (by have := j1 x; have := j2 x; omega)
    simp -implicitDefEqProofs [e, fMul_i (a := b) (b := 48271) (by decide), fMod_i h0, fMod_i (b := 2147483647) (by decide), fMod_i (b := 2147483629) (by decide), fMod_i (b := 2147483587) (by decide), fDiv_i (b := 7) (by decide) (by decide), b1, b2]
    exact ⟨_, rfl, m0 _, m1 _, _, _, _, rfl⟩
def Kp (s : Sg) (d : D) (s' : Sg) : Prop := s' = s ∧ ∃ xs, d = .l xs ∧ ∀ x ∈ xs, ∃ w, x = D.s w
theorem kept_ok (s : Sg) : (F__law_kept [] s).sat (Kp s) := by
  have l1 : (Str.ofString "again alike as at blame box by cover end few free grip hand if kept least link look").length ≤ 1000 := by decide +kernel
  have l2 : (Str.ofString " make move name named none rely room rows run safe sheet sure there to uses worth").length ≤ 1000 := by decide +kernel
  have l3 : (Str.ofString " write").length ≤ 1000 := by decide +kernel
  have l4 : (Str.ofString " ").length = 1 := by decide +kernel
  simp -implicitDefEqProofs [F__law_kept, B__law_kept]
  generalize Str.ofString "again alike as at blame box by cover end few free grip hand if kept least link look" = z1 at *
  generalize Str.ofString " make move name named none rely room rows run safe sheet sure there to uses worth" = z2 at *
  generalize Str.ofString " write" = z3 at *
  generalize Str.ofString " " = z4 at *
  have e1 : fAdd (.s z1) (.s z2) = some (.s (z1 ++ z2)) := fAdd_s (by omega)
  have e2 : fAdd (.s (z1 ++ z2)) (.s z3) = some (.s (z1 ++ z2 ++ z3)) := fAdd_s (by rw [str_append_length]; omega)
  have e3 : fSplit (.s (z1 ++ z2 ++ z3)) [.s z4] = some (.l ((Txt.split (z1 ++ z2 ++ z3) z4).map D.s)) := by
    unfold fSplit; simp only
    rw [if_pos]
    simp -implicitDefEqProofs [l4, str_append_length]; omega
  simp -implicitDefEqProofs [e1, e2, e3, tyD]
  exact ⟨rfl, _, rfl, fun x hx => by obtain ⟨w, _, e⟩ := List.mem_map.mp hx; exact ⟨w, e.symm⟩⟩
/-- some texts -/
def Ws (n B : Nat) (d : D) (s : Sg) : Prop := StO s ∧ ∃ xs, d = .l xs ∧ xs.length = n ∧ ∀ x ∈ xs, Tx B x
theorem words_ok {n : Nat} (hn : n ≤ 6) {s : Sg} (hs : StO s) : (F__law_words [.i n] s).sat (Ws n 100) := by
  have l1 : (Str.ofString "abcdefghijklmnopqrstuvwxyz").length = 26 := by decide +kernel
  have l2 : (Str.ofString "").length = 0 := by decide +kernel
  have l3 : (Str.ofString "z").length = 1 := by decide +kernel
  simp -implicitDefEqProofs [F__law_words, B__law_words]
  generalize Str.ofString "abcdefghijklmnopqrstuvwxyz" = ab at *
  generalize Str.ofString "" = z0 at *
  generalize Str.ofString "z" = z1 at *
  obtain ⟨_, s1, e1, a, rfl, a0, a1, h1⟩ := next_ok (n := 26) (by decide) (by decide) hs
  simp -implicitDefEqProofs [e1]
  obtain ⟨_, s2, e2, b, rfl, b0, b1, h2⟩ := next_ok (n := 4) (by decide) (by decide) h1
  simp -implicitDefEqProofs [e2]
  have hlt : ((n : Int) < 7) := by omega
  have ch : ∀ i : Int, 0 ≤ i → i < 26 → ∃ x : Str, fIx (.s ab) (.i i) = some (.s x) ∧ x.length = 1 := fun i h h' => fIx_s (by omega) h (by omega)
  have hn2 : n ≤ 16777216 := by omega
  by_cases hb : b = 0
  · simp -implicitDefEqProofs [hb, hlt, inR_nat (n := n) (by omega)]
    generalize hz : compF _ _ _ _ _ _ = z
    obtain ⟨xs, rfl, hl, hp⟩ : ∃ xs, z = .ok xs s2 ∧ xs.length = (intsD 0 n).length ∧ ∀ x ∈ xs, Tx 100 x := by
      subst hz
      refine compF_all _ fun d hd => ?_
      obtain ⟨k, hk, rfl⟩ := intsD_mem hd
      obtain ⟨x, ex, lx⟩ := ch a a0 a1
      have e := fMul_s (x := x) (n := 1 + k) (by omega) (by omega) (by omega)
      simp -implicitDefEqProofs [ex, e]
      exact ⟨_, rfl, by rw [repStr_length, lx]; omega⟩
    rw [intsD_length] at hl
    simp -implicitDefEqProofs [hl, hn2]
    exact ⟨h2, _, rfl, hl, hp⟩
  · have hb : (b == 0) = false := by simpa using hb
    simp -implicitDefEqProofs [hb]
    obtain ⟨_, s3, e3, c, rfl, c0, c1, h3⟩ := next_ok (n := 6) (by decide) (by decide) h2
    simp -implicitDefEqProofs [e3]
    obtain ⟨_, s4, e4, d, rfl, d0, d1, h4⟩ := next_ok (n := 1 + c) (by omega) (by omega) h3
    simp -implicitDefEqProofs [e4, inR_i (n := 1 + c) (by omega) (by omega)]
    have chm : ∀ i : Int, ∃ x : Str, fIx (.s ab) (.i (i % 26)) = some (.s x) ∧ x.length = 1 := fun i => ch _ (Int.emod_nonneg i (by omega)) (Int.emod_lt_of_pos i (by omega))
    generalize hz : compF _ _ _ _ _ _ = z
    obtain ⟨xs, rfl, hl, hp⟩ : ∃ xs, z = .ok xs s4 ∧ xs.length = (intsD 0 (1 + c).toNat).length ∧ ∀ x ∈ xs, Tx 1 x := by
      subst hz
      refine compF_all _ fun y hd => ?_
      obtain ⟨k, hk, rfl⟩ := intsD_mem hd
      have e := fMul_i' (a := 7) (b := k) (by decide)
      obtain ⟨x, ex, lx⟩ := chm (a + 7 * k)
      simp -implicitDefEqProofs [e, fMod_i (b := 26) (by decide), ex]
      exact ⟨_, rfl, by omega⟩
    rw [intsD_length] at hl
    have hl6 : xs.length ≤ 6 := by omega
    have hl7 : xs.length ≤ 16777216 := by omega
    obtain ⟨base, ej, lj⟩ := fJoin_ok l2 hp (by omega)
    simp -implicitDefEqProofs [hl7, ej, inR_nat (n := n) (by omega)]
    generalize hz : compF _ _ _ _ _ _ = z
    obtain ⟨ys, rfl, hyl, hyp⟩ : ∃ xs, z = .ok xs s4 ∧ xs.length = (intsD 0 n).length ∧ ∀ x ∈ xs, Tx 1 x := by
      subst hz
      refine compF_all _ fun y hd => ?_
      obtain ⟨k, hk, rfl⟩ := intsD_mem hd
      have e := fMul_i' (a := 3) (b := k) (by decide)
      obtain ⟨x, ex, lx⟩ := chm (a + 5 + 3 * k)
      simp -implicitDefEqProofs [e, fMod_i (b := 26) (by decide), ex]
      exact ⟨_, rfl, by omega⟩
    rw [intsD_length] at hyl
    simp -implicitDefEqProofs [hyl, hn2]
    generalize hz : compF _ _ _ _ _ _ = z
    obtain ⟨zs, rfl, hzl, hzp⟩ : ∃ xs, z = .ok xs s4 ∧ xs.length = ys.length ∧ ∀ x ∈ xs, Tx 50 x := by
      subst hz
      refine compF_all _ fun y hd => ?_
      obtain ⟨w, rfl, lw⟩ := hyp y hd
      have f1 := fSl_s (z := base) (lo := none) (hi := some d) (by omega)
      have f2 := fSl_s (z := base) (lo := some (d + 1)) (hi := none) (by omega)
      have g1 := cutS_le base none (some d)
      have g2 := cutS_le base (some (d + 1)) none
      have a1 := fAdd_s (a := L2.cutS base none (some d)) (b := w) (by omega)
      have a2 := fAdd_s (a := L2.cutS base none (some d) ++ w) (b := L2.cutS base (some (d + 1)) none) (by rw [str_append_length]; omega)
      simp -implicitDefEqProofs [f1, f2, a1, a2]
      exact ⟨_, rfl, by rw [str_append_length, str_append_length]; omega⟩
    have hzl2 : zs.length ≤ 16777216 := by omega
    simp -implicitDefEqProofs [hzl2]
    generalize hz : compF _ _ _ _ _ _ = z
    obtain ⟨vs, rfl, hvl, hvp⟩ : ∃ xs, z = .ok xs s4 ∧ xs.length = zs.length ∧ ∀ x ∈ xs, Tx 100 x := by
      subst hz
      refine compF_all _ fun y hd => ?_
      obtain ⟨w, rfl, lw⟩ := hzp y hd
      obtain ⟨_, _, ek, rfl, ks, rfl, hk⟩ := kept_ok []
      have ok1 : ok (.l ks) = true := okn_ok (n := 1) (okn_l fun x hx => by obtain ⟨w, rfl⟩ := hk x hx; exact okn_s 0 w) (by decide)
      obtain ⟨k, ef⟩ := fIn_l (a := .s w) rfl ok1
      have em : ∀ i : Nat, i ≤ 1 → fMul (.s z1) (.i i) = some (.s (repStr z1 i)) := fun i hi => fMul_s (x := z1) (n := i) (by omega) (by omega) (by omega)
      have ea : ∀ i : Nat, i ≤ 1 → fAdd (.s w) (.s (repStr z1 i)) = some (.s (w ++ repStr z1 i)) := fun i hi => fAdd_s (by rw [repStr_length, l3]; omega)
      cases k
      · simp -implicitDefEqProofs [ek, ef, em 0 (by decide), ea 0 (by decide), show fMul (.s z1) (.i 0) = some (.s (repStr z1 0)) from em 0 (by decide)]
        exact ⟨_, rfl, by rw [str_append_length, repStr_length, l3]; omega⟩
      · simp -implicitDefEqProofs [ek, ef, ea 1 (by decide), show fMul (.s z1) (.i 1) = some (.s (repStr z1 1)) from em 1 (by decide)]
        exact ⟨_, rfl, by rw [str_append_length, repStr_length, l3]; omega⟩
    have hvl2 : vs.length ≤ 16777216 := by omega
    simp -implicitDefEqProofs [hvl2]
    exact ⟨h4, _, rfl, by omega, hvp⟩
end G

namespace G
open PySem DL
def Ok (n : Nat) (d : D) (s : Sg) : Prop := StO s ∧ okn n d
theorem any_sign_ok {s : Sg} (hs : StO s) : (F__law_any_sign [] s).sat (fun d s' => StO s' ∧ Tx 1 d) := by
  have l1 : (Str.ofString " !\"#$&'()*+,-./0123456789:;<=>?@ABCDEFGHIJKLMNOPQRSTUVWXYZ[\\]^_`").length = 64 := by decide +kernel
  have l2 : (Str.ofString "abcdefghijklmnopqrstuvwxyz{|}~\n").length = 31 := by decide +kernel
  simp -implicitDefEqProofs [F__law_any_sign, B__law_any_sign]
  generalize Str.ofString " !\"#$&'()*+,-./0123456789:;<=>?@ABCDEFGHIJKLMNOPQRSTUVWXYZ[\\]^_`" = z1 at *
  generalize Str.ofString "abcdefghijklmnopqrstuvwxyz{|}~\n" = z2 at *
  have e1 : fAdd (.s z1) (.s z2) = some (.s (z1 ++ z2)) := fAdd_s (by omega)
  have l3 : (z1 ++ z2).length = 95 := by rw [str_append_length]; omega
  have e2 := fLen_s (z := z1 ++ z2) (by omega)
  simp -implicitDefEqProofs [e1, e2]
  obtain ⟨_, s1, e3, a, rfl, a0, a1, h1⟩ := next_ok (n := ((z1 ++ z2).length : Nat)) (by omega) (by omega) hs
  obtain ⟨x, ex, lx⟩ := fIx_s (z := z1 ++ z2) (i := a) (by omega) a0 a1
  simp -implicitDefEqProofs [e3, ex]
  exact ⟨h1, _, rfl, by omega⟩
theorem guard_ok {a b : Str} {s : Sg} (hs : StO s) : (F__law_guard [.l [.s a, .s b]] s).sat (Ok 3) := by
  simp -implicitDefEqProofs [F__law_guard, B__law_guard, fAdd]
  obtain ⟨_, s1, e1, d, rfl, d0, d1, h1⟩ := next_ok (n := 7) (by decide) (by decide) hs
  simp -implicitDefEqProofs [e1]
  generalize hy : L2.atI _ d = y
  obtain ⟨x, rfl, hx⟩ := at_of hy d0 (by simpa using d1)
  simp -implicitDefEqProofs
  exact ⟨h1, okn_mem rfl hx⟩
theorem relies_ok {a b : Str} {s : Sg} (hs : StO s) : (F__law_relies [.l [.s a, .s b]] s).sat (Ok 3) := by
  simp -implicitDefEqProofs [F__law_relies, B__law_relies, fAdd]
  obtain ⟨_, s1, e1, d, rfl, d0, d1, h1⟩ := next_ok (n := 4) (by decide) (by decide) hs
  simp -implicitDefEqProofs [e1]
  obtain ⟨_, s2, e2, c, rfl, c0, c1, h2⟩ := next_ok (n := 2) (by decide) (by decide) h1
  simp -implicitDefEqProofs [e2]
  generalize hy : L2.atI _ c = y
  obtain ⟨x, rfl, hx⟩ := at_of hy c0 (by simpa using c1)
  obtain ⟨by1, rfl, hb⟩ : ∃ i : Int, x = .i i ∧ i.natAbs < 4 := by
    simp at hx
    rcases hx with rfl | rfl
    · exact ⟨1, rfl, by decide⟩
    · exact ⟨3, rfl, by decide⟩
  simp -implicitDefEqProofs
  obtain ⟨_, s3, e3, k, rfl, k0, k1, h3⟩ := next_ok (n := 4) (by decide) (by decide) h2
  simp -implicitDefEqProofs [e3, inR_i (n := k) (by omega) (by omega)]
  generalize hz : compF _ _ _ _ _ _ = z
  obtain ⟨xs, rfl, hl, hp⟩ : ∃ xs, z = .ok xs s3 ∧ xs.length = (intsD 0 k.toNat).length ∧ ∀ x ∈ xs, okn 2 x := by
    subst hz
    refine compF_all _ fun y hd => ?_
    obtain ⟨i, hi, rfl⟩ := intsD_mem hd
    have e := fMul_i (a := i) (b := by1) (by omega)
    simp -implicitDefEqProofs [e, fMod_i (b := 4) (by decide)]
    generalize hy : L2.atI _ _ = y
    obtain ⟨x, rfl, hx⟩ := at_of hy (Int.emod_nonneg _ (by decide)) (by have := Int.emod_lt_of_pos (d + i * by1) (b := 4) (by decide); simpa using this)
    exact ⟨x, rfl, okn_mem rfl hx⟩
  rw [intsD_length] at hl
  have hl2 : xs.length ≤ 16777216 := by omega
  simp -implicitDefEqProofs [hl2]
  exact ⟨h3, okn_t hp⟩
def Jg (a b c d e : Str) (k : Nat) (r : En) (s : Sg) : Prop := StO s ∧ ∃ ds x5 x6 x7 x8 x9, ds.length ≤ k ∧ (∀ x ∈ ds, okn 5 x) ∧
  r = [some .st, some (.val (.l [.s a, .s b])), some (.val (.l [.s c, .s d, .s e])), some (.val (.t [.n, .s c])), some (.o1 (.l ds)), x5, x6, x7, x8, x9]
theorem gripping_ok {a b c d e : Str} {s : Sg} (hs : StO s) : (F__law_gripping [.l [.s a, .s b], .l [.s c, .s d, .s e]] s).sat (fun d s => StO s ∧ okn 10 d ∧ ∃ ds, d = .t ds) := by
  simp -implicitDefEqProofs [F__law_gripping, B__law_gripping]
  obtain ⟨_, s1, e1, i, rfl, i0, i1, h1⟩ := next_ok (n := 3) (by decide) (by decide) hs
  simp -implicitDefEqProofs [e1]
  generalize hz : pickU _ _ _ _ _ = z
  obtain ⟨r2, s2, rfl, h2, ds, x5, x6, x7, x8, x9, hl, hk, rfl⟩ : z.sat (Jg a b c d e 2) := by
    subst hz
    cases i == 0
    · simp -implicitDefEqProofs
      exact ⟨h1, _, _, _, _, _, _, by simp, fun x hx => okn_mem (ds := [_]) rfl hx, rfl⟩
    · simp -implicitDefEqProofs
      exact ⟨h1, _, _, _, _, _, _, by simp, fun x hx => okn_mem (ds := [_, _]) rfl hx, rfl⟩
  simp -implicitDefEqProofs
  obtain ⟨_, s3, e3, n, rfl, n0, n1, h3⟩ := next_ok (n := 5) (by decide) (by decide) h2
  simp -implicitDefEqProofs [e3, inR_i (n := 2 + n - ds.length) (by omega) (by omega)]
  generalize hz : loopF _ _ _ _ _ = z
  obtain ⟨m, hm, r4, s4, rfl, h4, ds, x5, x6, x7, x8, x9, hl, hk, rfl⟩ : ∃ m, m ≤ 10 ∧ z.sat (Jg a b c d e (2 + m)) := by
    subst hz
    refine ⟨_, ?_, loopF_sat (I := Jg a b c d e) _ 2 ⟨h3, ds, _, _, _, _, _, by omega, hk, rfl⟩ ?_⟩
    · rw [intsD_length]; omega
    rintro k q hkN hq r s ⟨hs, ds, x5, x6, x7, x8, x9, hl, hk, rfl⟩
    rw [intsD_length] at hkN
    have hk16 : k ≤ 16 := by omega
    obtain ⟨m, hm, rfl⟩ := intsD_mem hq
    simp -implicitDefEqProofs
    obtain ⟨_, s5, e5, n5, rfl, n50, n51, h5⟩ := next_ok (n := 2) (by decide) (by decide) hs
    obtain ⟨ys, ey, ly, my⟩ := rep1_ok (x := .t [.s a, .s (Str.ofString "worth")]) (n := n5) n50 (by omega)
    simp -implicitDefEqProofs [e5, ey, fAdd_t (a := [_]) (b := ys) (by simp; omega)]
    obtain ⟨_, s6, e6, n6, rfl, n60, n61, h6⟩ := next_ok (n := 10) (by decide) (by decide) h5
    simp -implicitDefEqProofs [e6, fMul_i' (a := 10) (b := m) (by decide)]
    obtain ⟨_, s7, e7, n7, rfl, n70, n71, h7⟩ := next_ok (n := 3) (by decide) (by decide) h6
    simp -implicitDefEqProofs [e7]
    generalize hy : L2.atI _ _ = y
    obtain ⟨x, rfl, hx⟩ := at_of hy n70 (by simpa using n71)
    obtain ⟨v, rfl⟩ : ∃ v, x = .i v := by
      simp at hx
      rcases hx with rfl | rfl | rfl <;> exact ⟨_, rfl⟩
    simp -implicitDefEqProofs [fAdd]
    obtain ⟨_, s8, e8, n8, rfl, n80, n81, h8⟩ := next_ok (n := 11) (by decide) (by decide) h7
    simp -implicitDefEqProofs [e8]
    generalize hy : L2.atI _ _ = y
    obtain ⟨deed, rfl, hdeed⟩ := at_of hy n80 (by simpa using n81)
    have kd : okn 4 deed := okn_mem rfl hdeed
    simp -implicitDefEqProofs
    obtain ⟨_, s9, e9, n9, rfl, n90, n91, h9⟩ := next_ok (n := 4) (by decide) (by decide) h8
    simp -implicitDefEqProofs [e9]
    have kys : okn 4 (.t (.t [.s a, .s (Str.ofString "named")] :: ys)) := okn_t (okn_cons (okn_of rfl) fun y hy => by rw [my y hy]; exact okn_of rfl)
    generalize (D.t (.t [.s a, .s (Str.ofString "named")] :: ys)) = rl at *
    generalize (D.l [.t [.s (Str.ofString "write"), _, _], _, _, _, _, _, _, _, _, _, _]) = l8
    generalize hz : pickU _ _ _ _ _ = z
    obtain ⟨ra, sa, rfl, ha, rl, krl, rfl⟩ : z.sat (fun r s => StO s ∧ ∃ rl, okn 4 rl ∧ r = [some .st, some (.val (.l [.s a, .s b])), some (.val (.l [.s c, .s d, .s e])), some (.val (.t [.n, .s c])), some (.o1 (.l ds)), some (.val (.i m)), some (.val rl), some (.val (.i v)), some (.val l8), some (.val deed)]) := by
      subst hz
      cases n9 == 0
      · simp -implicitDefEqProofs
        exact ⟨h9, kys⟩
      · simp -implicitDefEqProofs
        obtain ⟨q, s10, e10, h10, kq⟩ := relies_ok (a := a) (b := b) h9
        simp -implicitDefEqProofs [e10]
        exact ⟨h10, okn_mono kq (by decide)⟩
    simp -implicitDefEqProofs
    obtain ⟨q, s10, e10, h10, kq⟩ := guard_ok (a := a) (b := b) ha
    have hlt : ds.length < 16777216 := by omega
    simp -implicitDefEqProofs [e10, hlt]
    exact ⟨h10, _, _, _, _, _, _, by rw [List.length_append, List.length_singleton]; omega, okn_app hk (okn_cons (okn_t (okn_cons (okn_mono kq (by decide)) (okn_cons kd (okn_cons krl okn_nil)))) okn_nil), rfl⟩
  have hl2 : ds.length ≤ 16777216 := by omega
  simp -implicitDefEqProofs [hl2]
  exact ⟨h4, okn_mono (okn_t hk) (by decide)⟩
end G

namespace G
open PySem DL
/-- a deed that is no look -/
def Dd (x : D) : Prop := ∃ w p ps, x = .t (.s w :: p :: ps) ∧ (w == Str.ofString "look") = false ∧ okn 4 x
/-- a meddler's step -/
def Md (x : D) : Prop := ∃ y, x = .t [.n, y, .t []] ∧ Dd y
def Jm (a b c : Str) (k : Nat) (r : En) (s : Sg) : Prop := StO s ∧ ∃ ds x3 x7 x8 x9, ds.length ≤ k ∧ (∀ x ∈ ds, Md x) ∧
  r = [some .st, some (.val (.l [.s a, .s b, .s c])), some (.o1 (.l ds)), x3, some (.val (.t [.n, .s a])), some (.val (.t [.n, .s b])), some (.val (.t [.n, .s c])), x7, x8, x9]
theorem meddling_ok {a b c : Str} {s : Sg} (hs : StO s) : (F__law_meddling [.l [.s a, .s b, .s c]] s).sat (fun d s => StO s ∧ ∃ ds, d = .t ds ∧ ∀ x ∈ ds, Md x) := by
  simp -implicitDefEqProofs [F__law_meddling, B__law_meddling, compF_cons]
  obtain ⟨_, s3, e3, n, rfl, n0, n1, h3⟩ := next_ok (n := 3) (by decide) (by decide) hs
  simp -implicitDefEqProofs [e3, inR_i (n := 1 + n) (by omega) (by omega)]
  generalize hz : loopF _ _ _ _ _ = z
  obtain ⟨m, hm, r4, s4, rfl, h4, ds, x3, x7, x8, x9, hl, hk, rfl⟩ : ∃ m, m ≤ 10 ∧ z.sat (Jm a b c m) := by
    subst hz
    refine ⟨_, ?_, loopF_sat (I := Jm a b c) _ 0 ⟨h3, [], _, _, _, _, by simp, by simp, rfl⟩ ?_⟩
    · rw [intsD_length]; omega
    rintro k q hkN hq r s ⟨hs, ds, x3, x7, x8, x9, hl, hk, rfl⟩
    rw [intsD_length] at hkN
    have hk16 : k ≤ 16 := by omega
    obtain ⟨m, hm, rfl⟩ := intsD_mem hq
    simp -implicitDefEqProofs
    obtain ⟨_, s5, e5, n5, rfl, n50, n51, h5⟩ := next_ok (n := 9) (by decide) (by decide) hs
    simp -implicitDefEqProofs [e5, fAdd]
    obtain ⟨_, s6, e6, n6, rfl, n60, n61, h6⟩ := next_ok (n := 10) (by decide) (by decide) h5
    simp -implicitDefEqProofs [e6]
    generalize hy : L2.atI _ _ = y
    obtain ⟨x, rfl, hx⟩ := at_of hy n60 (by simpa using n61)
    have hd : Dd x := by
      have kx : okn 4 x := okn_mem rfl hx
      simp only [List.mem_cons, List.not_mem_nil, or_false] at hx
      rcases hx with rfl | rfl | rfl | rfl | rfl | rfl | rfl | rfl | rfl | rfl <;> exact ⟨_, _, _, rfl, by decide +kernel, kx⟩
    have hlt : ds.length < 16777216 := by omega
    simp -implicitDefEqProofs [hlt]
    exact ⟨h6, _, _, _, _, _, by rw [List.length_append, List.length_singleton]; omega, fun y hy => by
      rcases List.mem_append.mp hy with hy | hy
      · exact hk y hy
      · obtain rfl := List.mem_singleton.mp hy
        exact ⟨_, rfl, hd⟩, rfl⟩
  have hl2 : ds.length ≤ 16777216 := by omega
  simp -implicitDefEqProofs [hl2]
  exact ⟨h4, hk⟩
end G

namespace G
open PySem DL
def ksO (ps : List (Str × Int)) : List D := ps.map fun p => D.s p.1
def vsO (ps : List (Str × Int)) : List D := ps.map fun p => D.t [.i (-1), .i p.2]
def rwO (ps : List (Str × Int)) : List D := ps.map fun p => D.t [.s p.1, .t [.i (-1), .i p.2]]
theorem rowsD_own : ∀ ps, rowsD (ksO ps) (vsO ps) = rwO ps
  | [] => rfl
  | p :: ps => by
    show D.t [.s p.1, .t [.i (-1), .i p.2]] :: rowsD (ksO ps) (vsO ps) = _
    rw [rowsD_own ps]; rfl
theorem rwO_mem {ps : List (Str × Int)} {x : D} (h : x ∈ rwO ps) : ∃ p : Str × Int, x = .t [.s p.1, .t [.i (-1), .i p.2]] := by
  obtain ⟨p, _, e⟩ := List.mem_map.mp h
  exact ⟨p, e.symm⟩
theorem own_sort {ps : List (Str × Int)} (h : ps.length ≤ 10) : ∃ xs, fSortI (.m (ksO ps) (vsO ps)) = some (.l xs) ∧ xs.length ≤ 10 ∧ ∀ x ∈ xs, okn 3 x := by
  refine ⟨sortD (rwO ps), ?_, ?_, ?_⟩
  · unfold fSortI
    simp only
    rw [rowsD_own, if_pos]
    unfold sortOk
    simp only [Bool.and_eq_true, Bool.or_eq_true]
    refine ⟨⟨⟨?_, ?_⟩, .inl ?_⟩, ?_⟩
    · rw [List.all_eq_true]; intro x hx; obtain ⟨p, rfl⟩ := rwO_mem hx; rfl
    · unfold alikeD
      rw [List.all_eq_true]; intro x hx; obtain ⟨p, rfl⟩ := rwO_mem hx
      rw [List.all_eq_true]; intro y hy; obtain ⟨q, rfl⟩ := rwO_mem hy; rfl
    · rw [List.all_eq_true]; intro x hx; obtain ⟨p, rfl⟩ := rwO_mem hx; rfl
    · rw [decide_eq_true_eq]; exact le_size (by simp [rwO]; omega)
  · unfold sortD; rw [List.length_mergeSort]; simpa [rwO] using h
  · intro x hx
    unfold sortD at hx
    obtain ⟨p, rfl⟩ := rwO_mem (List.mem_mergeSort.mp hx)
    exact okn_of rfl
theorem own_in {ps : List (Str × Int)} {i : Int} : ∃ k, fInV (.t [.i (-1), .i i]) (.m (ksO ps) (vsO ps)) = some k := by
  unfold fInV
  simp only
  rw [if_pos]
  · exact ⟨_, rfl⟩
  · rw [Bool.and_eq_true, List.all_eq_true]
    refine ⟨rfl, fun x hx => ?_⟩
    obtain ⟨p, _, rfl⟩ := List.mem_map.mp hx
    rfl
theorem two_of {n : Nat} {xs : List D} (h : xs.length = 2) (k : ∀ x ∈ xs, Tx n x) : ∃ a b : Str, xs = [.s a, .s b] ∧ a.length ≤ n ∧ b.length ≤ n := by
  match xs, h with
  | [x, y], _ =>
    obtain ⟨a, rfl, ha⟩ := k x (by simp)
    obtain ⟨b, rfl, hb⟩ := k y (by simp)
    exact ⟨a, b, rfl, ha, hb⟩
theorem three_of {n : Nat} {xs : List D} (h : xs.length = 3) (k : ∀ x ∈ xs, Tx n x) : ∃ a b c : Str, xs = [.s a, .s b, .s c] ∧ a.length ≤ n ∧ b.length ≤ n ∧ c.length ≤ n := by
  match xs, h with
  | [x, y, z], _ =>
    obtain ⟨a, rfl, ha⟩ := k x (by simp)
    obtain ⟨b, rfl, hb⟩ := k y (by simp)
    obtain ⟨c, rfl, hc⟩ := k z (by simp)
    exact ⟨a, b, c, rfl, ha, hb, hc⟩
theorem own_put {ps : List (Str × Int)} {c : Str} (h : ps = [] ∨ ∃ i, ps = [(c, i)]) (d : Str) (i : Int) : ∃ qs : List (Str × Int), qs.length ≤ 2 ∧ putD (ksO ps) (vsO ps) (.s d) (.t [.i (-1), .i i]) = (ksO qs, vsO qs) ∧ txtKeys (ksO ps) (.s d) = true ∧ (vsO ps).length < 16777216 := by
  rcases h with rfl | ⟨j, rfl⟩
  · exact ⟨[(d, i)], by simp, rfl, rfl, by decide⟩
  · by_cases h : eqv (.s c) (.s d) = true
    · refine ⟨[(c, i)], by simp, ?_, rfl, by show 1 < 16777216; decide⟩
      show (if eqv (.s c) (.s d) = true then _ else _) = _
      rw [if_pos h]; rfl
    · refine ⟨[(c, j), (d, i)], by simp, ?_, rfl, by show 1 < 16777216; decide⟩
      show (if eqv (.s c) (.s d) = true then _ else _) = _
      rw [if_neg h]; rfl
def Jy (a b c d e : Str) (inner : D) (rows : List D) (r : En) (s : Sg) : Prop := StO s ∧ ∃ ps : List (Str × Int), (ps = [] ∨ ∃ i, ps = [(c, i)]) ∧
  r = [some .st, some (.val (.l [.s a, .s b])), some (.val (.l [.s c, .s d, .s e])), some (.val inner), some (.val (.l rows)), some (.o1 (.m (ksO ps) (vsO ps))), none, none, none, none]
def Jz (a b c d e : Str) (inner : D) (rows : List D) (other : D) (r : En) (s : Sg) : Prop := StO s ∧ ∃ ps : List (Str × Int), ps.length ≤ 2 ∧
  r = [some .st, some (.val (.l [.s a, .s b])), some (.val (.l [.s c, .s d, .s e])), some (.val inner), some (.val (.l rows)), some (.o1 (.m (ksO ps) (vsO ps))), some (.val other), none, none, none]
/-- a hand that has no look, with steps of data -/
def Mh (x : D) : Prop := ∃ ds, x = .t ds ∧ ∀ y ∈ ds, Md y
theorem Mh_ok {x : D} (h : Mh x) : okn 8 x := by
  obtain ⟨ds, rfl, hd⟩ := h
  refine okn_mono (okn_t (n := 6) fun y hy => ?_) (by decide)
  obtain ⟨z, rfl, w, p, ps, rfl, _, kz⟩ := hd y hy
  exact okn_mono (okn_t (okn_cons (okn_of rfl) (okn_cons kz (okn_cons (okn_of rfl) okn_nil)))) (by decide)
def Jh (a b c d e : Str) (x3 x4 x5 x6 x7 : Option Sl) (g : D) (k : Nat) (r : En) (s : Sg) : Prop := StO s ∧ ∃ ms x9, ms.length = k ∧ (∀ x ∈ ms, Mh x) ∧
  r = [some .st, some (.val (.l [.s a, .s b])), some (.val (.l [.s c, .s d, .s e])), x3, x4, x5, x6, x7, some (.o1 (.l (g :: ms))), x9]
/-- a yard as it is drawn -/
def Yd (d : D) (s : Sg) : Prop := StO s ∧ ∃ room g m ms a b c dd e, d = .t [.t [room, .t (g :: m :: ms)], .l [.s a, .s b], .l [.s c, .s dd, .s e]] ∧ okn 12 room ∧ Mh m ∧ (∀ x ∈ ms, Mh x) ∧ ms.length ≤ 10 ∧ a.length ≤ 100 ∧ c.length ≤ 100
theorem yard_ok {s : Sg} (hs : StO s) : (F__law_yard [] s).sat Yd := by
  simp -implicitDefEqProofs [F__law_yard, B__law_yard]
  obtain ⟨_, s1, e1, h1, xs, rfl, xl, xp⟩ := words_ok (n := 2) (by decide) hs
  obtain ⟨a, b, rfl, la, lb⟩ := two_of xl xp
  simp -implicitDefEqProofs [show F__law_words [D.i 2] s = _ from e1]
  obtain ⟨_, s2, e2, h2, xs, rfl, xl, xp⟩ := words_ok (n := 3) (by decide) h1
  obtain ⟨c, d, e, rfl, lc, ld, le⟩ := three_of xl xp
  simp -implicitDefEqProofs [show F__law_words [D.i 3] s1 = _ from e2]
  obtain ⟨_, s3, e3, n3, rfl, n30, n31, h3⟩ := next_ok (n := 2) (by decide) (by decide) h2
  simp -implicitDefEqProofs [e3]
  generalize hy : L2.atI _ _ = y
  obtain ⟨inner, rfl, hx⟩ := at_of hy n30 (by simpa using n31)
  have kin : okn 5 inner := okn_mem rfl hx
  simp -implicitDefEqProofs
  obtain ⟨_, s4, e4, n4, rfl, n40, n41, h4⟩ := next_ok (n := 3) (by decide) (by decide) h3
  simp -implicitDefEqProofs [e4]
  generalize hy : L2.atI _ _ = y
  obtain ⟨sv, rfl, hx⟩ := at_of hy n40 (by simpa using n41)
  have ksv : okn 5 sv := okn_mem rfl hx
  simp -implicitDefEqProofs
  obtain ⟨_, s5, e5, n5, rfl, n50, n51, h5⟩ := next_ok (n := 4) (by decide) (by decide) h4
  simp -implicitDefEqProofs [e5]
  generalize hy : L2.atI _ _ = y
  obtain ⟨ov, rfl, hx⟩ := at_of hy n50 (by simpa using n51)
  obtain ⟨oi, rfl⟩ : ∃ i, ov = .t [.i (-1), .i i] := by
    simp at hx
    rcases hx with rfl | rfl | rfl <;> exact ⟨_, rfl⟩
  simp -implicitDefEqProofs [isStr]
  obtain ⟨_, s6, e6, n6, rfl, n60, n61, h6⟩ := next_ok (n := 5) (by decide) (by decide) h5
  simp -implicitDefEqProofs [e6]
  have krows : ∀ x ∈ ([.t [.t [.i (-1), .i 1], .t [.s (Str.ofString "sheet"), sv]], .t [.t [.i (-1), .i 2], .t [.s (Str.ofString "sheet"), .i 7]], .t [.t [.i (-1), .i 3], .t [.s (Str.ofString "box"), inner]]] : List D), okn 8 x :=
    okn_cons (okn_mono (okn_t (okn_cons (okn_of rfl) (okn_cons (okn_t (okn_cons (okn_of rfl) (okn_cons ksv okn_nil))) okn_nil))) (by decide))
      (okn_cons (okn_of rfl) (okn_cons (okn_mono (okn_t (okn_cons (okn_of rfl) (okn_cons (okn_t (okn_cons (okn_of rfl) (okn_cons kin okn_nil))) okn_nil))) (by decide)) okn_nil))
  have lrows : ([.t [.t [.i (-1), .i 1], .t [.s (Str.ofString "sheet"), sv]], .t [.t [.i (-1), .i 2], .t [.s (Str.ofString "sheet"), .i 7]], .t [.t [.i (-1), .i 3], .t [.s (Str.ofString "box"), inner]]] : List D).length = 3 := rfl
  generalize ([.t [.t [.i (-1), .i 1], .t [.s (Str.ofString "sheet"), sv]], .t [.t [.i (-1), .i 2], .t [.s (Str.ofString "sheet"), .i 7]], .t [.t [.i (-1), .i 3], .t [.s (Str.ofString "box"), inner]]] : List D) = rows at *
  generalize hz : pickU _ _ _ _ _ = z
  obtain ⟨r7, s7, rfl, h7, ps, hps, rfl⟩ : z.sat (Jy a b c d e inner rows) := by
    subst hz
    cases n6 == 0
    · simp -implicitDefEqProofs
      exact ⟨h6, [(c, oi)], .inr ⟨_, rfl⟩, rfl⟩
    · simp -implicitDefEqProofs
      exact ⟨h6, [], .inl rfl, rfl⟩
  simp -implicitDefEqProofs
  obtain ⟨_, s8, e8, n8, rfl, n80, n81, h8⟩ := next_ok (n := 3) (by decide) (by decide) h7
  simp -implicitDefEqProofs [e8]
  generalize hy : L2.atI _ _ = y
  obtain ⟨other, rfl, hx⟩ := at_of hy n80 (by simpa using n81)
  simp -implicitDefEqProofs
  generalize hz : R.out _ _ _ = z
  obtain ⟨r9, s9, rfl, h9, qs, hqs, rfl⟩ : z.sat (Jz a b c d e inner rows other) := by
    subst hz
    have hps2 : ps.length ≤ 2 := by rcases hps with rfl | ⟨_, rfl⟩ <;> simp
    simp only [List.mem_cons, List.not_mem_nil, or_false] at hx
    rcases hx with rfl | rfl | rfl
    · obtain ⟨qs, hq, e1, e2, e3⟩ := own_put hps d 2
      simp -implicitDefEqProofs [fEqM_data (a := .t [.i (-1), .i 2]) (b := .t [.i (-1), .i 2]) rfl rfl, e1, e2, e3]
      exact ⟨h8, qs, hq, rfl⟩
    · obtain ⟨qs, hq, e1, e2, e3⟩ := own_put hps d 3
      obtain ⟨k, ek⟩ := own_in (ps := ps) (i := 3)
      simp -implicitDefEqProofs [fEqM_data (a := .t [.i (-1), .i 3]) (b := .t [.i (-1), .i 2]) rfl rfl, ek]
      cases k
      · simp -implicitDefEqProofs [e1, e2, e3]
        exact ⟨h8, qs, hq, rfl⟩
      · simp -implicitDefEqProofs
        exact ⟨h8, ps, hps2, rfl⟩
    · simp -implicitDefEqProofs
      exact ⟨h8, ps, hps2, rfl⟩
  obtain ⟨xs, ex, lx, kx⟩ := own_sort (ps := qs) (by omega)
  simp -implicitDefEqProofs [ex, fAdd, lrows]
  obtain ⟨g, s10, e10, h10, kg, gs, rfl⟩ := gripping_ok (a := a) (b := b) (c := c) (d := d) (e := e) h9
  simp -implicitDefEqProofs [e10]
  obtain ⟨_, s11, e11, n11, rfl, n110, n111, h11⟩ := next_ok (n := 3) (by decide) (by decide) h10
  have hdiv : 0 ≤ n11 / 2 ∧ n11 / 2 ≤ 1 := by omega
  simp -implicitDefEqProofs [e11, fDiv_i (b := 2) (by decide) (by decide), inR_i (n := 1 + n11 / 2) (by omega) (by omega)]
  generalize hz : loopF _ _ _ _ _ = z
  have kroom : okn 12 (D.t (.t [.t [.i (-1), .i 0], .t [.s (Str.ofString "box"), .t xs]] :: rows)) :=
    okn_mono (okn_t (n := 8) (okn_cons (okn_mono (okn_t (okn_cons (okn_of rfl) (okn_cons (okn_t (okn_cons (okn_of rfl) (okn_cons (okn_t kx) okn_nil))) okn_nil))) (by decide)) krows)) (by decide)
  generalize (D.t (.t [.t [.i (-1), .i 0], .t [.s (Str.ofString "box"), .t xs]] :: rows)) = room at *
  obtain ⟨m, hm0, hm, r4, s4, rfl, h4, ms, x9, hl, hk, rfl⟩ : ∃ m, 0 < m ∧ m ≤ 10 ∧ z.sat (Jh a b c d e (some (.val inner)) (some (.val (.l rows))) (some (.o1 (.m (ksO qs) (vsO qs)))) (some (.val other)) (some (.val room)) (.t gs) (0 + m)) := by
    subst hz
    refine ⟨_, ?_, ?_, loopF_sat (I := Jh a b c d e (some (.val inner)) (some (.val (.l rows))) (some (.o1 (.m (ksO qs) (vsO qs)))) (some (.val other)) (some (.val room)) (.t gs)) _ 0 ⟨h11, [], _, rfl, by simp, rfl⟩ ?_⟩
    · rw [intsD_length]; omega
    · rw [intsD_length]; omega
    rintro k q hkN hq r s ⟨hs, ms, x9, hl, hk, rfl⟩
    rw [intsD_length] at hkN
    have hk16 : k ≤ 16 := by omega
    obtain ⟨m, hm, rfl⟩ := intsD_mem hq
    simp -implicitDefEqProofs
    obtain ⟨md, s5, e5, h5, ds, rfl, hd⟩ := meddling_ok (a := c) (b := d) (c := e) hs
    have hlt : ms.length + 1 < 16777216 := by omega
    simp -implicitDefEqProofs [e5, hlt]
    exact ⟨h5, ms ++ [.t ds], _, by simp [hl], fun x hx => by
      rcases List.mem_append.mp hx with hx | hx
      · exact hk x hx
      · obtain rfl := List.mem_singleton.mp hx
        exact ⟨_, rfl, hd⟩, rfl⟩
  have hl2 : ms.length + 1 ≤ 16777216 := by omega
  simp -implicitDefEqProofs [hl2]
  match ms, hl, hk with
  | [], hl, _ => simp at hl; omega
  | m1 :: ms, hl, hk => exact ⟨h4, _, _, _, _, _, _, _, _, _, rfl, kroom, hk m1 (by simp), fun x hx => hk x (by simp [hx]), by simp at hl; omega, la, lc⟩
def Gd (d : D) (s : Sg) : Prop := StO s ∧ ∃ room m ms a c, d = .t [.t [room, .t (.t [.t [.n, .t [.s (Str.ofString "look"), .s a, .t [.n, .s c]], .t []], .t [.n, .t [.s (Str.ofString "write"), .t [.n, .s c], .i 5], .t [.t [.s a, .s (Str.ofString "named")]]]] :: m :: ms)], .s a] ∧ okn 12 room ∧ Mh m ∧ (∀ x ∈ ms, Mh x) ∧ ms.length ≤ 10 ∧ a.length ≤ 100
theorem good_ok {s : Sg} (hs : StO s) : (F__law_good [] s).sat Gd := by
  simp -implicitDefEqProofs [F__law_good, B__law_good]
  obtain ⟨_, s1, e1, h1, room, g, m, ms, a, b, c, d, e, rfl, kr, km, kms, lms, la, lc⟩ := yard_ok hs
  have hl : 1 + (ms.length + 1) ≤ 16777216 := by omega
  simp -implicitDefEqProofs [e1, fAdd, hl]
  exact ⟨h1, _, _, _, _, _, rfl, kr, km, kms, lms, la⟩
end G

namespace G
open PySem DL
abbrev tx (z : String) : Str := Str.ofString z
/-- the yard that the law hands in, and what it is turned to -/
def St1 (a c : Str) : D := .t [.t [.n, .t [.s (Str.ofString "look"), .s a, .t [.n, .s c]], .t []], .t [.n, .t [.s (Str.ofString "write"), .t [.n, .s c], .i 5], .t [.t [.s a, .s (Str.ofString "named")]]]]
def St2 (a c : Str) : D := .t [.t [.n, .t [.s (Str.ofString "grip"), .s a, .t [.n, .s c]], .t []], .t [.n, .t [.s (Str.ofString "write"), .t [.s a], .i 5], .t []]]
theorem n_wl : (Str.ofString "write" == Str.ofString "look") = false := by decide +kernel
theorem n_lg : (Str.ofString "look" == Str.ofString "grip") = false := by decide +kernel
theorem n_wg : (Str.ofString "write" == Str.ofString "grip") = false := by decide +kernel
theorem n_lw : (Str.ofString "look" == Str.ofString "write") = false := by decide +kernel
theorem looks1 {a c : Str} {s : Sg} : F_looks_into [St1 a c, .s a] s = .ok (.l [.i 0]) s := by
  simp -implicitDefEqProofs [F_looks_into, B_looks_into, St1, compF_cons, n_wl]
theorem grips1 {a c : Str} {x : D} {s : Sg} : F_grips_into [St1 a c, x] s = .ok (.l []) s := by
  simp -implicitDefEqProofs [F_grips_into, B_grips_into, St1, compF_cons, n_wg, n_lg]
theorem goes1 {a c : Str} {s : Sg} : F_goes_by [St1 a c, .s a] s = .ok (.b false) s := by
  simp -implicitDefEqProofs [F_goes_by, B_goes_by, St1, loopF_cons, isiA, isi1, isErr, isTuple]
theorem need1 {a c : Str} {s : Sg} : F_need_slot [St1 a c, .s a] s = .ok (.t [.n, .s c]) s := by
  have k1 := looks1 (a := a) (c := c) (s := [])
  have k2 := grips1 (a := a) (c := c) (x := .s a) (s := [])
  have k3 := goes1 (a := a) (c := c) (s := [])
  unfold St1 at k1 k2 k3 ⊢
  simp -implicitDefEqProofs [F_need_slot, B_need_slot, k1, k2, k3, okb_eq, compF_cons]
theorem en1 {a c : Str} : enO (St1 a c) = some [.t [.i 0, .t [.n, .t [.s (Str.ofString "look"), .s a, .t [.n, .s c]], .t []]], .t [.i 1, .t [.n, .t [.s (Str.ofString "write"), .t [.n, .s c], .i 5], .t [.t [.s a, .s (Str.ofString "named")]]]]] := rfl
theorem step1 {a c : Str} {s : Sg} : F_step_gripped [.t [.n, .t [.s (Str.ofString "look"), .s a, .t [.n, .s c]], .t []], .s a, .t [.n, .s c], .b false] s = .ok (.t [.n, .t [.s (Str.ofString "grip"), .s a, .t [.n, .s c]], .t []]) s := by
  simp -implicitDefEqProofs [F_step_gripped, B_step_gripped, okb_eq, ok_eq, n_wl, compF_cons]
theorem step2 {a c : Str} {s : Sg} : F_step_gripped [.t [.n, .t [.s (Str.ofString "write"), .t [.n, .s c], .i 5], .t [.t [.s a, .s (Str.ofString "named")]]], .s a, .t [.n, .s c], .b true] s = .ok (.t [.n, .t [.s (Str.ofString "write"), .t [.s a], .i 5], .t []]) s := by
  simp -implicitDefEqProofs [F_step_gripped, B_step_gripped, okb_eq, ok_eq, n_wl, compF_cons]
theorem gripped_good {room m : D} {ms : List D} {a c : Str} {s : Sg} (hl : ms.length ≤ 10) : F_gripped [.t [room, .t (St1 a c :: m :: ms)], .i 0, .s a] s = .ok (.t [room, .t (St2 a c :: m :: ms)]) s := by
  have h1 : (0 : Int) < ms.length + 1 + 1 := by omega
  have h2 : 1 + (ms.length + 1) ≤ 16777216 := by omega
  simp -implicitDefEqProofs [F_gripped, B_gripped, F_is_whole, B_is_whole, isiA, isi1, isErr, isInt, isBool, h1, need1, looks1, en1, compF_cons, step1, step2, fAdd, h2, St2]
theorem turned_good {room m : D} {ms : List D} {a c : Str} {s : Sg} (hl : ms.length ≤ 10) : F__law_turned [.t [room, .t (St1 a c :: m :: ms)], .i 0, .s a] s = .ok (.t [room, .t (St2 a c :: m :: ms)]) s := by
  have h1 : (0 : Int) < ms.length + 1 + 1 := by omega
  have h2 : 1 + (ms.length + 1) ≤ 16777216 := by omega
  have i2 : intsD 0 2 = [.i 0, .i 1] := rfl
  simp -implicitDefEqProofs [F__law_turned, B__law_turned, St1, St2, i2, inR, compF_cons, loopF_cons, okb_eq, ok_eq, n_wl, n_wg, n_lg, n_lw, F__law_spots, B__law_spots, isiA, isi1, isErr, isTuple, fAdd, h2]
/-- what is no hand of n -/
def Hb (n : Nat) (d : D) : Prop := (isErr d = none ∧ (isInt d && !isBool d) = false) ∨ ∃ i : Int, d = .i i ∧ (i < 0 ∨ (n : Int) ≤ i)
theorem is_whole_ok {d : D} (h : isErr d = none) (s : Sg) : F_is_whole [d] s = .ok (.b (isInt d && !isBool d)) s := by
  have e1 : isiA d [.ty "int"] = some (isInt d) := by cases d <;> first | (simp [isErr] at h; done) | rfl
  have e2 : isiA d [.ty "bool"] = some (isBool d) := by cases d <;> first | (simp [isErr] at h; done) | rfl
  simp -implicitDefEqProofs [F_is_whole, B_is_whole, e1, e2]
  cases isInt d <;> simp -implicitDefEqProofs [e2]
theorem gripped_hand {room x : D} {hs : List D} {d : D} {s : Sg} (h : Hb hs.length d) : F_gripped [.t [room, .t hs], d, x] s = .exc 6 s := by
  rcases h with ⟨h1, h2⟩ | ⟨i, rfl, h⟩
  · simp -implicitDefEqProofs [F_gripped, B_gripped, is_whole_ok h1, h2]
  · have e := is_whole_ok (d := .i i) rfl []
    simp -implicitDefEqProofs [F_gripped, B_gripped, e, isInt, isBool]
    by_cases h0 : 0 ≤ i
    · have h1 : ¬ i < hs.length := by omega
      simp -implicitDefEqProofs [h0, h1]
    · simp -implicitDefEqProofs [h0]
theorem looksX {a c : Str} {x : D} {s : Sg} (h : fEqM (.s a) x = some (.b false)) : F_looks_into [St1 a c, x] s = .ok (.l []) s := by
  simp -implicitDefEqProofs [F_looks_into, B_looks_into, St1, compF_cons, n_wl, h]
theorem looksM {hs : List D} {x : D} {s : Sg} (h : ∀ y ∈ hs, Md y) : F_looks_into [.t hs, x] s = .ok (.l []) s := by
  simp -implicitDefEqProofs [F_looks_into, B_looks_into]
  generalize hz : compF _ _ _ _ _ _ = z
  obtain rfl : z = .ok [] s := by
    subst hz
    refine compF_none _ fun d hd => ?_
    obtain ⟨i, e, rfl, he⟩ := enumD_mem _ _ hd
    obtain ⟨y, rfl, w, p, ps, rfl, hw, _⟩ := h e he
    simp -implicitDefEqProofs [hw]
  simp -implicitDefEqProofs
theorem need_none {st x : D} {s : Sg} (h : F_looks_into [st, x] [] = .ok (.l []) []) : F_need_slot [st, x] s = .exc 6 s := by
  simp -implicitDefEqProofs [F_need_slot, B_need_slot, h, okb_eq]
theorem gripped_none {room st x : D} {hs : List D} {i : Nat} {s : Sg} (hi : hs[i]? = some st) (h : F_looks_into [st, x] [] = .ok (.l []) []) : F_gripped [.t [room, .t hs], .i i, x] s = .exc 6 s := by
  have e := is_whole_ok (d := .i i) rfl []
  obtain ⟨hl, hg⟩ := List.getElem?_eq_some_iff.mp hi
  simp -implicitDefEqProofs [F_gripped, B_gripped, e, isInt, isBool, hl, atI_nat, hg, need_none h]
theorem refused_of {y h x : D} {s s' : Sg} (g : F_gripped [y, h, x] [] = .exc 6 s') : F__law_refused [y, h, x] s = .ok (.b true) s := by
  simp -implicitDefEqProofs [F__law_refused, B__law_refused, g, taken, isiA, isi1, isErr]
theorem state_ok {ns : List Int} {k : Int} (h0 : 0 ≤ k) (h1 : k ≤ 100) (hn : ns.length ≤ 63) {s : Sg} : (F__law_state [.k (ns.map D.i), .i k] s).sat (fun d _ => ∃ a b c, d = .l [.i a, .i b, .i c]) := by
  have es : fSum [.k (ns.map D.i)] = some (.i ns.sum) := by
    have e : ∀ ns : List Int, intsOf (ns.map D.i) = some ns := fun ns => by
      induction ns with
      | nil => rfl
      | cons n ns ih => show (intsOf (ns.map D.i)).map _ = _; rw [ih]; rfl
    show (intsOf (ns.map D.i)).map _ = _
    rw [e]; rfl
  have ep : fPow (.i 10) (.i 18) = some (.i 1000000000000000000) := rfl
  simp -implicitDefEqProofs [F__law_state, B__law_state, es, fMod_i (b := 1000003) (by decide), fMul_i' (a := 104729) (b := k) (by decide)]
  generalize hz : pickU _ _ _ _ _ = z
  obtain ⟨r1, s1, rfl, cell, rfl⟩ : z.sat (fun r _ => ∃ cell, r = [some (.val (.k (ns.map D.i))), some (.val (.i k)), some (.val (.i cell))]) := by
    subst hz
    by_cases hk : k < ns.length
    · obtain ⟨x, e, hx⟩ := atI_mem (xs := ns.map D.i) (i := k) h0 (by simpa using hk)
      obtain ⟨v, _, rfl⟩ := List.mem_map.mp hx
      simp -implicitDefEqProofs [hk, e]
    · simp -implicitDefEqProofs [hk]
  simp -implicitDefEqProofs [ep]
  have e1 : ∀ x : Int, fMul (.i x) (.i 48271) = some (.i (x * 48271)) := fun x => fMul_i (by decide)
  have e2 : fMul (.i 7919) (.i k) = some (.i (7919 * k)) := fMul_i' (by decide)
  by_cases hc : 1000000000000000000 ≤ cell
  · simp -implicitDefEqProofs [hc, ep]
  · simp -implicitDefEqProofs [hc, e1, e2, fMod_i (b := 2147483647) (by decide)]
end G

namespace G
open PySem DL
def ns : Option Sl → Bool
  | some .st => false
  | _ => true
def Jl (zs : List D) (r : En) (s : Sg) : Prop := ∃ x1 x2 x3 x4 x5 x6 x7 x8 x9 x10 x11 x12, r = [some (.val (.k zs)), x1, x2, x3, x4, x5, x6, x7, x8, x9, x10, x11, x12] ∧
  ns x1 = true ∧ ns x3 = true ∧ ns x4 = true ∧ ns x5 = true ∧ ns x6 = true ∧ ns x7 = true ∧ ns x8 = true ∧ ns x9 = true ∧ ns x10 = true ∧ ns x11 = true ∧ ns x12 = true
theorem noStE_eq (j : Nat) (r : En) : noStE j r = (r.set j none).all ns := by
  unfold noStE; congr
@[simp] theorem ns_v (d : D) : ns (some (.val d)) = true := id rfl
@[simp] theorem ns_n : ns none = true := id rfl
/-- what is no slot of this hand, or this one -/
def Al (a : Str) (x : D) : Prop := fNeM x (.s a) = some (.b false) ∨ (fNeM x (.s a) = some (.b true) ∧ fEqM (.s a) x = some (.b false))
theorem Al_s (a w : Str) : Al a (.s w) := by
  by_cases h : w = a
  · subst h; exact .inl (by simp)
  · refine .inr ⟨?_, ?_⟩
    · have : (w == a) = false := by simpa using h
      simp [this]
    · have : (a == w) = false := by simpa using fun e : a = w => h e.symm
      simp [this]
def Gf (d : D) (s : Sg) : Prop := StO s ∧ ∃ Y due hs a, d = .t [Y, .s a] ∧ (∀ s, F__law_turned [Y, .i 0, .s a] s = .ok due s) ∧ (∀ s, F_gripped [Y, .i 0, .s a] s = .ok due s) ∧ isNone due = false ∧ fNeM due due = some (.b false) ∧
  fIx Y (.i 1) = some (.t hs) ∧ 2 ≤ hs.length ∧ hs.length ≤ 12 ∧ (∀ d s, Hb hs.length d → F__law_refused [Y, d, .s a] s = .ok (.b true) s) ∧
  (∀ x s, fEqM (.s a) x = some (.b false) → F__law_refused [Y, .i 0, x] s = .ok (.b true) s) ∧ (∀ s, F__law_refused [Y, .i 1, .s a] s = .ok (.b true) s) ∧ a.length ≤ 100
theorem good_ok2 {s : Sg} (hs : StO s) : (F__law_good [] s).sat Gf := by
  obtain ⟨_, s2, e2, h2, room, m, ms, a, c, rfl, kr, km, kms, lms, la⟩ := good_ok hs
  have kdue : okn 20 (.t [room, .t (St2 a c :: m :: ms)]) := by
    refine okn_mono (okn_t (n := 14) (okn_cons (okn_mono kr (by decide)) (okn_cons (okn_mono (okn_t (n := 12) (okn_cons (okn_of rfl) (okn_cons (okn_mono (Mh_ok km) (by decide)) fun x hx => okn_mono (Mh_ok (kms x hx)) (by decide)))) (by decide)) okn_nil))) (by decide)
  refine ⟨_, s2, e2, h2, .t [room, .t (St1 a c :: m :: ms)], .t [room, .t (St2 a c :: m :: ms)], St1 a c :: m :: ms, a, rfl, fun s => turned_good lms, fun s => gripped_good lms, rfl, ?_, rfl, by simp, by simp; omega, ?_, ?_, ?_, la⟩
  · rw [fNeM_data (okn_ok kdue (by decide)) kdue.1, eqv_refl kdue.1]; rfl
  · exact fun d s h => refused_of (gripped_hand h)
  · exact fun x s h => refused_of (gripped_none (i := 0) (hs := St1 a c :: m :: ms) rfl (looksX h))
  · intro s
    obtain ⟨ds, rfl, hd⟩ := km
    exact refused_of (gripped_none (i := 1) (hs := St1 a c :: .t ds :: ms) rfl (looksM hd))
theorem law_pure (zs : List Int) (hz : zs.length ≤ 63) : ∃ s', B_law (lawEnv 13 zs) [] = .ret (.b true) s' := by
  obtain ⟨m, em, m0, m1⟩ : ∃ m : Int, fMin2 [.i zs.length, .i 12] = some (.i m) ∧ 0 ≤ m ∧ m ≤ 12 := by
    refine ⟨_, rfl, ?_, ?_⟩ <;> split <;> omega
  obtain ⟨n, en, n0, n1⟩ : ∃ n : Int, fMax2 [.i 3, .i m] = some (.i n) ∧ 0 ≤ n ∧ n ≤ 12 := by
    refine ⟨_, rfl, ?_, ?_⟩ <;> split <;> omega
  simp -implicitDefEqProofs [B_law, lawEnv, em, en, inR_i (n := n) (by omega) (by omega)]
  generalize hz : loopF _ _ _ _ _ = z
  obtain ⟨r, s, rfl, _⟩ : z.sat (Jl (zs.map D.i)) := by
    subst hz
    refine loopF_sat0 (I := Jl (zs.map D.i)) _ ⟨_, _, _, _, _, _, _, _, _, _, _, _, rfl, rfl, rfl, rfl, rfl, rfl, rfl, rfl, rfl, rfl, rfl, rfl⟩ ?_
    rintro q hq r s ⟨x1, x2, x3, x4, x5, x6, x7, x8, x9, x10, x11, x12, rfl, g1, g3, g4, g5, g6, g7, g8, g9, g10, g11, g12⟩
    obtain ⟨k, hk, rfl⟩ := intsD_mem hq
    obtain ⟨_, s1, e1, a, b, c, rfl⟩ := state_ok (ns := zs) (k := k) (by omega) (by omega) (by assumption) (s := [])
    simp -implicitDefEqProofs [e1, noStE_eq, g3, g4, g5, g6, g7, g8, g9, g10, g11, g12]
    obtain ⟨_, s2, e2, h2, Y, due, hs, a', rfl, tY, gY, nY, eY, hY, l1, l2, rH, rX, r1, la⟩ := good_ok2 (s := [.i a, .i b, .i c]) ⟨_, _, _, rfl⟩
    have ep : fPow (.i 10) (.i 6) = some (.i 1000000) := rfl
    have eq : fPow (.i 10) (.i 59) = some (.i 100000000000000000000000000000000000000000000000000000000000) := rfl
    simp -implicitDefEqProofs [e2, tY, gY, nY, eY, hY, ep]
    obtain ⟨_, s3, e3, n3, rfl, n30, n31, h3⟩ := next_ok (n := 1000000) (by decide) (by decide) h2
    simp -implicitDefEqProofs [e3, eq]
    generalize hz : compF _ _ _ _ _ _ = z
    obtain rfl : z = .ok [] s3 := by
      subst hz
      refine compF_none _ fun d hd => ?_
      have hb : Hb hs.length d := by
        simp only [List.mem_cons, List.not_mem_nil, or_false] at hd
        rcases hd with rfl | rfl | rfl | rfl | rfl | rfl | rfl | rfl | rfl | rfl | rfl | rfl | rfl <;> first | exact .inl ⟨rfl, rfl⟩ | exact .inr ⟨_, rfl, by omega⟩
      have e := rH d [] hb
      simp -implicitDefEqProofs [e]
    have el := fLen_s (z := a') (by omega)
    simp -implicitDefEqProofs [okb_eq, el]
    generalize (D.l [.i (hs.length : Int), _, _, _, _, _, _, _, _, _, _, _, _]) = hv
    obtain ⟨_, s4, e4, n4, rfl, n40, n41, h4⟩ := next_ok (n := (a'.length : Int) + 1) (by omega) (by omega) h3
    simp -implicitDefEqProofs [e4]
    obtain ⟨_, s5, e5, h5, w, rfl, lw⟩ := any_sign_ok h4
    have f1 := fSl_s (z := a') (lo := none) (hi := some n4) (by omega)
    have f2 := fSl_s (z := a') (lo := some n4) (hi := none) (by omega)
    have f3 := fSl_s (z := a') (lo := some (n4 + 1)) (hi := none) (by omega)
    have g1 := cutS_le a' none (some n4)
    have g2 := cutS_le a' (some n4) none
    have g3' := cutS_le a' (some (n4 + 1)) none
    generalize L2.cutS a' none (some n4) = c1 at *
    generalize L2.cutS a' (some n4) none = c2 at *
    generalize L2.cutS a' (some (n4 + 1)) none = c3 at *
    have a1 := fAdd_s (a := c1) (b := w) (by omega)
    have a2 := fAdd_s (a := c1 ++ w) (b := c2) (by rw [str_append_length]; omega)
    have a3 := fAdd_s (a := c1) (b := c3) (by omega)
    have a4 := fAdd_s (a := a') (b := a') (by omega)
    have a5 : fUpper (.s a') [] = some (.s (Txt.upper a')) := by
      unfold fUpper; simp only; rw [if_pos (by omega)]
    have a6 : ∀ xs ys : List D, xs.length + ys.length ≤ 16777216 → fAdd (.l xs) (.l ys) = some (.l (xs ++ ys)) := fun xs ys h => fAdd_l h
    simp -implicitDefEqProofs [e5, f1, f2, f3, a1, a2, a3, a4, a5, a6]
    generalize hz : loopF _ _ _ _ _ = z
    obtain ⟨r6, s6, rfl, h6, x9, g9', ot, rfl⟩ : z.sat (fun r s => StO s ∧ ∃ x9, ns x9 = true ∧ ∃ ot, r = [some (.val (.k (zs.map D.i))), some (.val (.i k)), some .st, some (.val due), some (.val (.i hs.length)), some (.val hv), some (.val (.i n4)), some (.val (.s w)), some (.val ot), x9, some (.val Y), some (.val (.s a')), x12]) := by
      subst hz
      refine loopF_sat0 (I := fun r s => StO s ∧ ∃ x9, ns x9 = true ∧ ∃ ot, r = [some (.val (.k (zs.map D.i))), some (.val (.i k)), some .st, some (.val due), some (.val (.i hs.length)), some (.val hv), some (.val (.i n4)), some (.val (.s w)), some (.val ot), x9, some (.val Y), some (.val (.s a')), x12]) _ ⟨h5, _, g9, _, rfl⟩ ?_
      rintro d hd r s ⟨hs', x9, g9', ot, rfl⟩
      have al : Al a' d := by
        simp only [List.mem_cons, List.not_mem_nil, or_false] at hd
        rcases hd with rfl | rfl | rfl | rfl | rfl | rfl | rfl | rfl | rfl | rfl | rfl | rfl | rfl | rfl <;> first | exact Al_s _ _ | exact .inr ⟨rfl, rfl⟩
      rcases al with e | ⟨e, e'⟩
      · simp -implicitDefEqProofs [e]
        exact hs'
      · have er := rX d [] e'
        simp -implicitDefEqProofs [e, er]
        exact hs'
    have er := r1 []
    simp -implicitDefEqProofs [er, gY, eY]
    exact ⟨_, _, _, _, _, _, _, _, _, _, _, _, rfl, rfl, rfl, rfl, rfl, rfl, rfl, rfl, g9', rfl, rfl, g12⟩
  simp -implicitDefEqProofs
end G
theorem PySem.Challenge.cw_stillso_k67_no_slot_to_grip_holds : PySem.Challenge.rw_stillso_k67_no_slot_to_grip.Holds := by
  exact holds_of G.law_pure
