import PyProof.Rows.All
import Wide.All
import OpenK.AllK
import Wide.FinOn
import HandS.ForMost
import HandS.Flow
import HandS.Exc
import HandS.TryOnly
import HandS.ExcOwn
import HandS.WordsExc
import HandS.IsInst
import HandS.TupAny
import HandS.HeadWalk
import HandS.Defaults
import HandS.Conv
import HandS.HeadEnd
import HandS.Head0
import HandS.Head1
import HandS.Head2
import HandS.HeadHook1
import HandS.HeadHook2
import PySem.Challenge.RW_flowboxes_k25_floats_height_by_height
set_option Elab.async false
set_option linter.all false
set_option maxRecDepth 100000
set_option maxHeartbeats 4000000
/-! Data of a program by value, the store of its changing things, and how the layer's heap bears both. -/
namespace DI
open L2 PySem PySem.Spec PyProof.Rows

/-- values: tuples by value, changing things by their number in the store, defs and classes by their number in the program -/
inductive D where
  | non | bl (b : Bool) | int (i : Int) | str (x : Str) | ty (n : String)
  | tup (xs : List D) | rl (xs : List D) | loc (n : Nat) | fn (j : Nat) | cl (j : Nat)
inductive Cell where
  | lst (xs : List D) | dk (kvs : List (Key × D)) | dt (kvs : List (List Key × D)) | ins (c : Nat) (fs : List (Str × D))
abbrev Sto := List Cell
/-- where the program's defs and classes stand -/
structure Ad where
  K : PySem.W.Frag
  fn : Nat → Addr
  cl : Nat → Addr

def RoL (K : PySem.W.Frag) (H : Hp) (a : Addr) (xs : List V) : Prop := (∃ o, H a = some (.frz o (.lst xs))) ∨ ∀ H' : Hp, SqL K H' a xs
theorem RoL.sq {K : PySem.W.Frag} {H : Hp} {a : Addr} {xs : List V} (h : RoL K H a xs) : SqL K H a xs := by
  rcases h with ⟨o, h⟩ | h
  · exact .inl (.inr ⟨o, h⟩)
  · exact h H
theorem RoL.of_only {K : PySem.W.Frag} {H : Hp} {a : Addr} {xs : List V} (o : Only H) (h : SqL K H a xs) : RoL K H a xs := by
  rcases h with (h | ⟨o', h⟩) | h
  · rcases o a with z | ⟨ob, ys, z⟩
    · rw [z] at h; cases h
    · rw [z] at h; cases h
  · exact .inl ⟨o', h⟩
  · exact .inr fun H' => .inr h

mutual
inductive RepD (A : Ad) (m : List Addr) (H : Hp) : D → V → Prop
  | non : RepD A m H .non .non
  | bl (b : Bool) : RepD A m H (.bl b) (.bl b)
  | int (i : Int) : RepD A m H (.int i) (.int i)
  | str (x : Str) : RepD A m H (.str x) (.str x)
  | ty (n : String) : RepD A m H (.ty n) (.ty n)
  | tup {xs : List D} {a : Addr} {vs : List V} : SqT A.K H a vs → RepL A m H xs vs → RepD A m H (.tup xs) (.ref a)
  | rl {xs : List D} {a : Addr} {vs : List V} : RoL A.K H a vs → RepL A m H xs vs → RepD A m H (.rl xs) (.ref a)
  | loc {i : Nat} {a : Addr} : m[i]? = some a → RepD A m H (.loc i) (.ref a)
  | fn (j : Nat) : RepD A m H (.fn j) (.ref (A.fn j))
  | cl (j : Nat) : RepD A m H (.cl j) (.ref (A.cl j))
inductive RepL (A : Ad) (m : List Addr) (H : Hp) : List D → List V → Prop
  | nil : RepL A m H [] []
  | cons {d : D} {ds : List D} {v : V} {vs : List V} : RepD A m H d v → RepL A m H ds vs → RepL A m H (d :: ds) (v :: vs)
end
abbrev RepK {κ : Type} (A : Ad) (m : List Addr) (H : Hp) : List (κ × D) → List (κ × V) → Prop := Paired fun p q => p.1 = q.1 ∧ RepD A m H p.2 q.2

/-- what stays of a heap -/
structure Ext (A : Ad) (m : List Addr) (H : Hp) (m' : List Addr) (H' : Hp) : Prop where
  loc : ∀ (i : Nat) (a : Addr), m[i]? = some a → m'[i]? = some a
  tup : ∀ a xs, SqT A.K H a xs → SqT A.K H' a xs
  rol : ∀ a xs, RoL A.K H a xs → RoL A.K H' a xs

inductive RepC (A : Ad) (m : List Addr) (H : Hp) (a : Addr) : Cell → Prop
  | lst {xs : List D} {vs : List V} : H a = some (.lst vs) → RepL A m H xs vs → RepC A m H a (.lst xs)
  | dk {kvs : List (Key × D)} {ws : List (Key × V)} : H a = some (.dK ws) → RepK A m H kvs ws → RepC A m H a (.dk kvs)
  | dt {kvs : List (List Key × D)} {ws : List (List Key × V)} : H a = some (.dT ws) → RepK A m H kvs ws → RepC A m H a (.dt kvs)
  | ins {c : Nat} {fs : List (Str × D)} {dx : Addr} {ws : List (Str × V)} : H a = some (.ins (A.cl c) dx ws) → RepK A m H fs ws → RepC A m H a (.ins c fs)

structure Rep (A : Ad) (m : List Addr) (S : Sto) (H : Hp) : Prop where
  cell : ∀ (i : Nat) (c : Cell), S[i]? = some c → ∃ a, m[i]? = some a ∧ RepC A m H a c
  len : m.length = S.length
  nd : m.Nodup

section
variable {A : Ad} {m m' m'' : List Addr} {H H' H'' : Hp} {S S' : Sto} {d : D} {v : V} {ds ds' : List D} {vs vs' : List V}
theorem Ext.refl : Ext A m H m H := ⟨fun _ _ h => h, fun _ _ h => h, fun _ _ h => h⟩
theorem Ext.trans (a : Ext A m H m' H') (b : Ext A m' H' m'' H'') : Ext A m H m'' H'' := ⟨fun i x h => b.loc i x (a.loc i x h), fun x xs h => b.tup x xs (a.tup x xs h), fun x xs h => b.rol x xs (a.rol x xs h)⟩
mutual
theorem RepD.mono (e : Ext A m H m' H') : ∀ {d : D} {v : V}, RepD A m H d v → RepD A m' H' d v
  | _, _, .non => .non
  | _, _, .bl b => .bl b
  | _, _, .int i => .int i
  | _, _, .str x => .str x
  | _, _, .ty n => .ty n
  | _, _, .tup h l => .tup (e.tup _ _ h) (RepL.mono e l)
  | _, _, .rl h l => .rl (e.rol _ _ h) (RepL.mono e l)
  | _, _, .loc h => .loc (e.loc _ _ h)
  | _, _, .fn j => .fn j
  | _, _, .cl j => .cl j
theorem RepL.mono (e : Ext A m H m' H') : ∀ {ds : List D} {vs : List V}, RepL A m H ds vs → RepL A m' H' ds vs
  | _, _, .nil => .nil
  | _, _, .cons a b => .cons (RepD.mono e a) (RepL.mono e b)
end
theorem RepK.mono {κ : Type} (e : Ext A m H m' H') : ∀ {kvs : List (κ × D)} {ws : List (κ × V)}, RepK A m H kvs ws → RepK A m' H' kvs ws
  | _, _, .nil => .nil
  | _, _, .cons a b => .cons ⟨a.1, a.2.mono e⟩ (RepK.mono e b)
theorem RepL.length : ∀ {ds : List D} {vs : List V}, RepL A m H ds vs → vs.length = ds.length
  | _, _, .nil => rfl
  | _, _, .cons _ b => by rw [List.length_cons, List.length_cons, RepL.length b]
theorem RepL.get : ∀ {ds : List D} {vs : List V} {i : Nat} {d : D}, RepL A m H ds vs → ds[i]? = some d → ∃ v, vs[i]? = some v ∧ RepD A m H d v
  | _, _, _, _, .nil, h => by simp at h
  | _, _, 0, _, .cons a _, h => by simp at h; subst h; exact ⟨_, rfl, a⟩
  | _, _, i + 1, d, .cons _ b, h => by
    obtain ⟨v, h1, h2⟩ := RepL.get (i := i) (d := d) b (by simpa using h)
    exact ⟨v, by simpa using h1, h2⟩
theorem RepL.app : ∀ {ds : List D} {vs : List V}, RepL A m H ds vs → RepL A m H ds' vs' → RepL A m H (ds ++ ds') (vs ++ vs')
  | _, _, .nil, r => r
  | _, _, .cons a b, r => .cons a (RepL.app b r)
theorem RepL.set (r : RepD A m H d v) : ∀ {ds : List D} {vs : List V} (i : Nat), RepL A m H ds vs → RepL A m H (ds.set i d) (vs.set i v)
  | _, _, _, .nil => .nil
  | _, _, 0, .cons _ b => .cons r b
  | _, _, i + 1, .cons a b => .cons a (RepL.set r i b)
theorem RepL.take : ∀ {ds : List D} {vs : List V} (n : Nat), RepL A m H ds vs → RepL A m H (ds.take n) (vs.take n)
  | _, _, 0, _ => .nil
  | _, _, _ + 1, .nil => .nil
  | _, _, n + 1, .cons a b => .cons a (RepL.take n b)
theorem RepL.drop : ∀ {ds : List D} {vs : List V} (n : Nat), RepL A m H ds vs → RepL A m H (ds.drop n) (vs.drop n)
  | _, _, 0, r => r
  | _, _, _ + 1, .nil => .nil
  | _, _, n + 1, .cons _ b => RepL.drop n b
theorem RepL.rev : ∀ {ds : List D} {vs : List V}, RepL A m H ds vs → RepL A m H ds.reverse vs.reverse
  | _, _, .nil => .nil
  | _, _, .cons a b => by rw [List.reverse_cons, List.reverse_cons]; exact (RepL.rev b).app (.cons a .nil)
theorem RepL.dropLast : ∀ {ds : List D} {vs : List V}, RepL A m H ds vs → RepL A m H ds.dropLast vs.dropLast
  | _, _, .nil => .nil
  | _, _, .cons _ .nil => .nil
  | _, _, .cons a (.cons b c) => .cons a (RepL.dropLast (.cons b c))
theorem RepL.ints : ∀ (ns : List Int), RepL A m H (ns.map D.int) (ns.map V.int)
  | [] => .nil
  | n :: ns => .cons (.int n) (RepL.ints ns)
theorem RepL.toInts : ∀ {ns : List Int} {vs : List V}, RepL A m H (ns.map D.int) vs → vs = ns.map V.int
  | [], _, .nil => rfl
  | _ :: _, _, .cons (.int _) b => by rw [List.map_cons, RepL.toInts b]

theorem RepC.there {a : Addr} {c : Cell} (r : RepC A m H a c) : ∃ o, H a = some o := by
  cases r <;> exact ⟨_, by assumption⟩
/-- an object's address as it was, and what stays -/
theorem RepC.mono {a : Addr} {c : Cell} (r : RepC A m H a c) (e : Ext A m H m' H') (h : H' a = H a) : RepC A m' H' a c := by
  cases r with
  | lst x l => exact .lst (h.trans x) (l.mono e)
  | dk x l => exact .dk (h.trans x) (RepK.mono e l)
  | dt x l => exact .dt (h.trans x) (RepK.mono e l)
  | ins x l => exact .ins (h.trans x) (RepK.mono e l)
theorem Rep.there (R : Rep A m S H) {a : Addr} (h : a ∈ m) : ∃ o, H a = some o := by
  obtain ⟨i, hi, rfl⟩ := List.getElem_of_mem h
  have : i < S.length := by rw [← R.len]; exact hi
  obtain ⟨a, h1, h2⟩ := R.cell i _ (List.getElem?_eq_getElem this)
  rw [List.getElem?_eq_getElem hi] at h1
  cases h1
  exact h2.there
theorem Rep.fresh (R : Rep A m S H) {p : Addr} (h : H p = none) : p ∉ m := fun hm => by
  obtain ⟨o, e⟩ := R.there hm
  rw [h] at e; cases e
theorem sqT_upd {K : PySem.W.Frag} {p a : Addr} {o : HO} {xs : List V} (hp : ∀ ys, H p ≠ some (.tup ys)) (hf : ∀ ob u, H p ≠ some (.frz ob u)) (h : SqT K H a xs) : SqT K (upd H p o) a xs := by
  rcases h with (h | ⟨ob, h⟩) | h
  · refine .inl (.inl ?_)
    rw [upd_ne (fun e => hp xs (by rw [← e]; exact h))]; exact h
  · refine .inl (.inr ⟨ob, ?_⟩)
    rw [upd_ne (fun e => hf ob _ (by rw [← e]; exact h))]; exact h
  · exact .inr h
theorem roL_upd {K : PySem.W.Frag} {p a : Addr} {o : HO} {xs : List V} (hf : ∀ ob u, H p ≠ some (.frz ob u)) (h : RoL K H a xs) : RoL K (upd H p o) a xs := by
  rcases h with ⟨ob, h⟩ | h
  · refine .inl ⟨ob, ?_⟩
    rw [upd_ne (fun e => hf ob _ (by rw [← e]; exact h))]; exact h
  · exact .inr h
/-- a new object, not in the store -/
theorem Ext.new {p : Addr} {o : HO} (h : H p = none) : Ext A m H m (upd H p o) :=
  ⟨fun _ _ h => h, fun _ _ => sqT_upd (fun _ e => nomatch h.symm.trans e) (fun _ _ e => nomatch h.symm.trans e), fun _ _ => roL_upd (fun _ _ e => nomatch h.symm.trans e)⟩
theorem Ext.more {r : List Addr} (e : Ext A m H m' H') : Ext A m H (m' ++ r) H' :=
  ⟨fun i a h => by have := e.loc i a h; rw [List.getElem?_append_left (List.getElem?_eq_some_iff.mp this).1]; exact this, e.tup, e.rol⟩
theorem Rep.new (R : Rep A m S H) {p : Addr} {o : HO} (h : H p = none) : Rep A m S (upd H p o) := by
  refine ⟨fun i c hc => ?_, R.len, R.nd⟩
  obtain ⟨a, h1, h2⟩ := R.cell i c hc
  refine ⟨a, h1, h2.mono (Ext.new h) (upd_ne fun e => ?_)⟩
  obtain ⟨u, hu⟩ := h2.there
  rw [e, h] at hu
  cases hu
/-- a new cell -/
theorem Rep.alloc (R : Rep A m S H) {p : Addr} {o : HO} {c : Cell} (h : H p = none) (new : RepC A (m ++ [p]) (upd H p o) p c) : Rep A (m ++ [p]) (S ++ [c]) (upd H p o) := by
  refine ⟨fun i c' hc => ?_, by rw [List.length_append, List.length_append, R.len] <;> rfl, ?_⟩
  · by_cases hi : i < S.length
    · rw [List.getElem?_append_left hi] at hc
      obtain ⟨a, h1, h2⟩ := R.cell i c' hc
      refine ⟨a, (Ext.refl (A := A) (H := H)).more.loc i a h1, h2.mono (Ext.new h).more (upd_ne fun e => ?_)⟩
      obtain ⟨u, hu⟩ := h2.there
      rw [e, h] at hu; cases hu
    · rw [List.getElem?_append_right (by omega)] at hc
      have e : i - S.length = 0 := by
        cases q : i - S.length with
        | zero => rfl
        | succ n => rw [q] at hc; simp at hc
      have ei : i = S.length := by omega
      subst ei
      rw [e] at hc
      cases hc
      exact ⟨p, by rw [← R.len, List.getElem?_append_right (Nat.le_refl _), Nat.sub_self] <;> rfl, new⟩
  · rw [List.nodup_append]
    refine ⟨R.nd, List.nodup_cons.mpr ⟨by simp, List.nodup_nil⟩, fun a ha b hb e => ?_⟩
    rw [List.mem_singleton] at hb
    subst hb; subst e
    exact R.fresh h ha
/-- a cell is written -/
theorem Ext.write {p : Addr} {o u : HO} (h : H p = some u) (nt : ∀ ys, u ≠ .tup ys) (nf : ∀ ob w, u ≠ .frz ob w) : Ext A m H m (upd H p o) :=
  ⟨fun _ _ h => h, fun _ _ => sqT_upd (fun ys e => nt ys (Option.some.inj (h.symm.trans e))) fun ob w e => nf ob w (Option.some.inj (h.symm.trans e)),
    fun _ _ => roL_upd fun ob w e => nf ob w (Option.some.inj (h.symm.trans e))⟩
theorem Rep.write (R : Rep A m S H) {i : Nat} {p : Addr} {o : HO} {c : Cell} (hi : m[i]? = some p) (e : Ext A m H m (upd H p o)) (new : RepC A m (upd H p o) p c) : Rep A m (S.set i c) (upd H p o) := by
  refine ⟨fun j c' hc => ?_, by rw [List.length_set]; exact R.len, R.nd⟩
  by_cases hj : i = j
  · subst hj
    have hl : i < S.length := by rw [← R.len]; exact (List.getElem?_eq_some_iff.mp hi).1
    rw [List.getElem?_set_self hl] at hc
    cases hc
    exact ⟨p, hi, new⟩
  · rw [List.getElem?_set_ne hj] at hc
    obtain ⟨a, h1, h2⟩ := R.cell j c' hc
    refine ⟨a, h1, h2.mono e (upd_ne fun z => hj ?_)⟩
    subst z
    have h3 := (List.getElem?_eq_some_iff.mp hi)
    have h4 := (List.getElem?_eq_some_iff.mp h1)
    exact nd_ix R.nd hi h1
end
end DI

set_option Elab.async false
set_option linter.all false
set_option maxRecDepth 100000
set_option maxHeartbeats 4000000
/-! A small language of programs, what its texts do to data and store, and when a text of the model is one of it. -/
namespace DI
open L2 PySem PySem.Spec PyProof.Rows

/-! ### values -/
def cutL {α : Type} (xs : List α) (lo hi : Option Int) : List α := (xs.drop (HT.sIx xs.length 0 lo)).take (HT.sIx xs.length xs.length hi - HT.sIx xs.length 0 lo)
/-- the pm-th of a list, in pm's order -/
def pmL {α : Type} (pm : List Nat) (xs : List α) : List α := pm.filterMap fun i => xs[i]?
def opSem (o : Operator) (x y : D) (S : Sto) : Option (D × Sto) :=
  match o, x, y with
  | .Add, .int i, .int j => some (.int (i + j), S)
  | .Add, .str i, .str j => if i.length + j.length ≤ sizeLine then some (.str (i ++ j), S) else none
  | .Add, .tup xs, .tup ys => if xs.length + ys.length ≤ sizeLine then some (.tup (xs ++ ys), S) else none
  | .Add, .loc a, .loc b => match S[a]?, S[b]? with
    | some (.lst xs), some (.lst ys) => if xs.length + ys.length ≤ sizeLine then some (.loc S.length, S ++ [.lst (xs ++ ys)]) else none
    | _, _ => none
  | .Sub, .int i, .int j => some (.int (i - j), S)
  | .Mult, .int i, .int j => if (-(2 ^ 64) < i ∧ i < 2 ^ 64) ∨ (-(2 ^ 64) < j ∧ j < 2 ^ 64) then some (.int (i * j), S) else none
  | .Mult, .loc a, .int k => match S[a]? with
    | some (.lst xs) => if -(2 ^ 63) ≤ k ∧ k < 2 ^ 63 ∧ xs.length * k.toNat ≤ sizeLine then some (.loc S.length, S ++ [.lst (List.replicate k.toNat xs).flatten]) else none
    | _ => none
  | .FloorDiv, .int i, .int j => if 0 < j ∧ j < 1073741824 then some (.int (i / j), S) else none
  | .Mod, .int i, .int j => if 0 < j then some (.int (i % j), S) else none
  | .Pow, .int i, .int j => if 0 ≤ j ∧ j ≤ 1000000 ∧ i.natAbs < 2 ^ 64 then some (.int (i ^ j.toNat), S) else none
  | _, _, _ => none
/-- as data of the library, lists down to a depth -/
def toP (S : Sto) : Nat → D → Option PyData
  | 0, _ => none
  | _ + 1, .non => some .none
  | _ + 1, .bl b => some (.bool b)
  | _ + 1, .int i => some (.int i)
  | _ + 1, .str x => some (.str x)
  | n + 1, .tup xs => (xs.mapM (toP S n)).map PyData.tuple
  | n + 1, .rl xs => (xs.mapM (toP S n)).map PyData.list
  | n + 1, .loc a => match S[a]? with
    | some (.lst xs) => (xs.mapM (toP S n)).map PyData.list
    | _ => none
  | _ + 1, _ => none
def eqSem (x y : D) (S : Sto) : Option Bool :=
  match toP S 32 x, toP S 32 y with
  | some p, some q => if SeqAt.shaped p = true ∧ SeqAt.shaped q = true then some (PyData.eqv p q) else none
  | _, _ => none
def flatD : D → Bool
  | .non => true | .bl _ => true | .int _ => true | .str _ => true | _ => false
def eqF : D → D → Bool
  | .non, .non => true
  | .bl a, .bl b => a == b
  | .bl a, .int b => (if a then 1 else 0) == b
  | .int a, .bl b => a == (if b then 1 else 0)
  | .int a, .int b => a == b
  | .str a, .str b => a == b
  | _, _ => false
def keyD : D → Option Key
  | .int i => some (.inl i)
  | .str x => some (.inr x)
  | _ => none
def keysD : List D → Option (List Key)
  | [] => some []
  | d :: r => match keyD d, keysD r with
    | some k, some ks => some (k :: ks)
    | _, _ => none
def lookK {κ : Type} [DecidableEq κ] (kvs : List (κ × D)) (k : κ) : Option D := (kvs.find? fun kv => decide (kv.1 = k)).map (·.2)
def putD {κ : Type} [DecidableEq κ] (kvs : List (κ × D)) (k : κ) (d : D) : List (κ × D) :=
  if (kvs.any fun kv => decide (kv.1 = k)) = true then kvs.map (fun kv => if kv.1 = k then (kv.1, d) else kv) else kvs ++ [(k, d)]
/-- what a dict holds under a key: none is «no key of it» -/
def dictAt (c : Cell) (k : D) : Option (Option D) :=
  match c, k with
  | .dk kvs, .int i => some (lookK kvs (.inl i))
  | .dk kvs, .str x => some (lookK kvs (.inr x))
  | _, _ => none
def inSem (x y : D) (S : Sto) : Option Bool :=
  match y with
  | .tup xs => if flatD x = true ∧ xs.all flatD = true then some (xs.any fun z => eqF z x) else none
  | .rl xs => if flatD x = true ∧ xs.all flatD = true then some (xs.any fun z => eqF z x) else none
  | .loc a => match S[a]? with
    | some (.lst xs) => if flatD x = true ∧ xs.all flatD = true then some (xs.any fun z => eqF z x) else none
    | some c => (dictAt c x).map (·.isSome)
    | none => none
  | _ => none
def cmpSem (o : CmpOp) (x y : D) (S : Sto) : Option Bool :=
  match o with
  | .Eq => eqSem x y S
  | .NotEq => (eqSem x y S).map (!·)
  | .Lt => match x, y with | .int i, .int j => some (decide (i < j)) | _, _ => none
  | .LtE => match x, y with | .int i, .int j => some (decide (i ≤ j)) | _, _ => none
  | .Gt => match x, y with | .int i, .int j => some (decide (j < i)) | _, _ => none
  | .GtE => match x, y with | .int i, .int j => some (decide (j ≤ i)) | _, _ => none
  | .Is => match y with | .non => some (match x with | .non => true | _ => false) | _ => none
  | .IsNot => match y with | .non => some (match x with | .non => false | _ => true) | _ => none
  | .In => inSem x y S
  | .NotIn => (inSem x y S).map (!·)
def truSem (x : D) (S : Sto) : Option Bool :=
  match x with
  | .non => some false
  | .bl b => some b
  | .int i => some (i != 0)
  | .str y => if y.length ≤ sizeLine then some ((y.length : Int) != 0) else none
  | .tup xs => some (!xs.isEmpty)
  | .rl xs => some (!xs.isEmpty)
  | .loc a => match S[a]? with
    | some (.lst xs) => some (!xs.isEmpty)
    | some (.dk kvs) => some (!kvs.isEmpty)
    | _ => none
  | _ => none
def itemSem (x y : D) (S : Sto) : Option D :=
  match x, y with
  | .tup xs, .int i => atI xs i
  | .rl xs, .int i => atI xs i
  | .loc a, y => match S[a]?, y with
    | some (.lst xs), .int i => atI xs i
    | some (.lst _), _ => none
    | some c, k => (dictAt c k).bind id
    | none, _ => none
  | _, _ => none
def sliceSem (x : D) (lo hi : Option Int) (S : Sto) : Option (D × Sto) :=
  match x with
  | .tup xs => some (.tup (cutL xs lo hi), S)
  | .rl xs => some (.loc S.length, S ++ [.lst (cutL xs lo hi)])
  | .loc a => match S[a]? with
    | some (.lst xs) => some (.loc S.length, S ++ [.lst (cutL xs lo hi)])
    | _ => none
  | _ => none
/-- a list's or tuple's items -/
def seqD (x : D) (S : Sto) : Option (List D) :=
  match x with
  | .tup xs => some xs
  | .rl xs => some xs
  | .loc a => match S[a]? with | some (.lst xs) => some xs | _ => none
  | _ => none
def listD (x : D) (S : Sto) : Option (List D) :=
  match x with
  | .rl xs => some xs
  | .loc a => match S[a]? with | some (.lst xs) => some xs | _ => none
  | _ => none
def intsD : List D → Option (List Int)
  | [] => some []
  | .int i :: r => (intsD r).map (i :: ·)
  | _ :: _ => none
def blsD : List D → Option (List Bool)
  | [] => some []
  | .bl i :: r => (blsD r).map (i :: ·)
  | _ :: _ => none
def maxL : List Int → Option Int
  | [] => none
  | i :: r => some (r.foldl max i)
def minL : List Int → Option Int
  | [] => none
  | i :: r => some (r.foldl min i)
def tyName (x : D) (S : Sto) : Option String :=
  match x with
  | .non => some "NoneType" | .bl _ => some "bool" | .int _ => some "int" | .str _ => some "str" | .tup _ => some "tuple" | .rl _ => some "list"
  | .loc a => match S[a]? with | some (.lst _) => some "list" | some (.dk _) => some "dict" | some (.dt _) => some "dict" | _ => none
  | _ => none
/-- built-ins, by their names -/
inductive BI where
  | len | int_ | str_ | abs_ | max1 | max2 | min1 | min2 | sum_ | all_ | any_ | list_ | tuple_ | isi
  deriving DecidableEq
def BI.name : BI → Str
  | .len => "len" | .int_ => "int" | .str_ => "str" | .abs_ => "abs" | .max1 => "max" | .max2 => "max" | .min1 => "min" | .min2 => "min" | .sum_ => "sum" | .all_ => "all" | .any_ => "any"
  | .list_ => "list" | .tuple_ => "tuple" | .isi => "isinstance"
def biSem (b : BI) (ds : List D) (S : Sto) : Option (D × Sto) :=
  match b, ds with
  | .len, [.str x] => if x.length ≤ sizeLine then some (.int x.length, S) else none
  | .len, [.loc a] => match S[a]? with
    | some (.lst xs) => some (.int xs.length, S)
    | some (.dk kvs) => some (.int kvs.length, S)
    | _ => none
  | .len, [.tup xs] => some (.int xs.length, S)
  | .len, [.rl xs] => some (.int xs.length, S)
  | .int_, [.int i] => some (.int i, S)
  | .int_, [.bl b] => some (.int (if b then 1 else 0), S)
  | .str_, [.int i] => if i.natAbs.log2 < 1920 then some (.str (toString i), S) else none
  | .abs_, [.int i] => some (.int (if i < 0 then -i else i), S)
  | .max2, [.int i, .int j] => some (.int (max i j), S)
  | .min2, [.int i, .int j] => some (.int (min i j), S)
  | .max1, [x] => ((listD x S).bind fun xs => (intsD xs).bind maxL).map fun i => (.int i, S)
  | .min1, [x] => ((listD x S).bind fun xs => (intsD xs).bind minL).map fun i => (.int i, S)
  | .sum_, [x] => ((listD x S).bind intsD).map fun ns => (.int ns.sum, S)
  | .all_, [x] => ((listD x S).bind blsD).map fun bs => (.bl (bs.all id), S)
  | .any_, [x] => ((listD x S).bind blsD).map fun bs => (.bl (bs.any id), S)
  | .list_, [x] => (seqD x S).map fun xs => (.loc S.length, S ++ [.lst xs])
  | .tuple_, [x] => (seqD x S).map fun xs => (.tup xs, S)
  | .isi, [x, .ty n] => (tyName x S).bind fun t => (kitB t n).map fun b => (.bl b, S)
  | _, _ => none
/-- methods of built-in types -/
inductive BM where
  | append | extend | pop | reverse
  deriving DecidableEq
def BM.name : BM → Str
  | .append => "append" | .extend => "extend" | .pop => "pop" | .reverse => "reverse"
def bmSem (b : BM) (x : D) (ds : List D) (S : Sto) : Option (D × Sto) :=
  match x with
  | .loc a => match S[a]? with
    | some (.lst xs) => match b, ds with
      | .append, [d] => if xs.length < sizeLine then some (.non, S.set a (.lst (xs ++ [d]))) else none
      | .extend, [.loc c] => match S[c]? with
        | some (.lst ys) => if xs.length + ys.length ≤ sizeLine then some (.non, S.set a (.lst (xs ++ ys))) else none
        | _ => none
      | .pop, [] => xs[xs.length - 1]?.map fun d => (d, S.set a (.lst xs.dropLast))
      | .reverse, [] => some (.non, S.set a (.lst xs.reverse))
      | _, _ => none
    | _ => none
  | _ => none
/-- o[i] = d -/
def setSem (x y d : D) (S : Sto) : Option Sto :=
  match x with
  | .loc a => match S[a]?, y with
    | some (.lst xs), .int i => (ixN xs.length i).map fun j => S.set a (.lst (xs.set j d))
    | some (.dk kvs), .int i => if kvs.length < sizeLine then some (S.set a (.dk (putD kvs (.inl i) d))) else none
    | some (.dk kvs), .str z => if kvs.length < sizeLine then some (S.set a (.dk (putD kvs (.inr z) d))) else none
    | _, _ => none
  | _ => none
def putA (f : Str) (d : D) : List (Str × D) → List (Str × D)
  | [] => [(f, d)]
  | (g, x) :: r => if g = f then (g, d) :: r else (g, x) :: putA f d r
/-- o.f -/
def fldSem (x : D) (c : Nat) (f : Str) (S : Sto) : Option D :=
  match x with
  | .loc a => match S[a]? with
    | some (.ins c' fs) => if c' = c then fs.lookup f else none
    | _ => none
  | _ => none
/-- o.f = d -/
def putSem (x : D) (c : Nat) (f : Str) (d : D) (S : Sto) : Option Sto :=
  match x with
  | .loc a => match S[a]? with
    | some (.ins c' fs) => if c' = c ∧ fs.length < 1000 then some (S.set a (.ins c (putA f d fs))) else none
    | _ => none
  | _ => none
/-! ### the language -/
inductive Lit where
  | non | bl (b : Bool) | int (i : Int) | str (x : Str)
  deriving DecidableEq
def Lit.d : Lit → D
  | .non => .non | .bl b => .bl b | .int i => .int i | .str x => .str x
inductive Tg where
  | nm (i : Nat) | tp (is : List Nat)
  deriving DecidableEq
mutual
inductive Ex where
  | cst (l : Lit) | var (i : Nat) | glo (x : Str) | bty (n : String)
  | bin (o : Operator) (a b : Ex) | neg (a : Ex) | cmp (o : CmpOp) (a b : Ex) | chn (o o' : CmpOp) (a b c : Ex)
  | and_ (a b : Ex) | or_ (a b : Ex) | not_ (a : Ex) | ite (c a b : Ex)
  | fld (c : Nat) (o : Ex) (f : Str) | ix (o i : Ex) | sl (o : Ex) (lo hi : Ox)
  | tup (es : Exs) | lst (es : Exs) | dct0 (t : Bool)
  | cal (j : Nat) (es : Exs) | mk (c j : Nat) (es : Exs) | mth (c j : Nat) (o : Ex) (m : Str) (es : Exs) | bi (b : BI) (es : Exs) | bm (b : BM) (o : Ex) (es : Exs)
  | lc (own : List (Str × Nat)) (tg : Tg) (it : Ir) (ifs : Exs) (elt : Ex)
  | lrg (a b : Ex)
  | calK (j n : Nat) (ks : List Str) (pm : List Nat) (es kes : Exs) | mthK (c j : Nat) (o : Ex) (m : Str) (n : Nat) (ks : List Str) (pm : List Nat) (es kes : Exs)
inductive Exs where
  | nil | cons (e : Ex) (es : Exs)
inductive Ox where
  | no | so (e : Ex)
inductive Ir where
  | ex (e : Ex) | rng1 (e : Ex) | rng2 (a b : Ex) | enum (e : Ex)
end
mutual
inductive Sm where
  | set (i : Nat) (e : Ex) | setT (is : List Nat) (e : Ex) | par (i j : Nat) (a b : Ex)
  | fld (c : Nat) (o : Ex) (f : Str) (e : Ex) | sub (o i e : Ex) | aug (i : Nat) (o : Operator) (e : Ex)
  | exp (e : Ex) | ret (e : Ex) | retN | ite (c : Ex) (a b : Sms) | whl (c : Ex) (b : Sms) | for_ (tg : Tg) (it : Ir) (b : Sms) | pass | brk | cnt
  | rai (c : Nat) (x : Str)
inductive Sms where
  | nil | cons (s : Sm) (ss : Sms)
end
/-! ### what a text does -/
inductive Out (α : Type) where
  | ok (a : α) (S : Sto) | err (c : Nat) (fs : Option (List (Str × D))) (S : Sto) | bad
def Out.bind {α β : Type} (x : Out α) (f : α → Sto → Out β) : Out β := match x with | .ok a S => f a S | .err c fs S => .err c fs S | .bad => .bad
def Out.of {α : Type} : Option (α × Sto) → Out α | some (a, S) => .ok a S | none => .bad
def Out.at {α : Type} (S : Sto) : Option α → Out α | some a => .ok a S | none => .bad
abbrev Sl := List (Option D)
inductive Walk where
  | vs (xs : List D) | li (a : Nat) | rng (lo : Int) (n : Nat) | en (w : Walk)
def wgo : Walk → Nat → Sto → Option (Option D)
  | .vs xs, i, _ => some xs[i]?
  | .li a, i, S => match S[a]? with | some (.lst xs) => some xs[i]? | _ => none
  | .rng lo n, i, _ => some (if i < n then some (.int (lo + i)) else none)
  | .en w, i, S => (wgo w i S).map fun o => o.map fun d => .tup [.int i, d]
def wlen : Walk → Sto → Nat
  | .vs xs, _ => xs.length
  | .li a, S => match S[a]? with | some (.lst xs) => xs.length | _ => 0
  | .rng _ n, _ => n
  | .en w, S => wlen w S
def wipeD (σ : Sl) : List Nat → Sl
  | [] => σ
  | v :: vs => (wipeD σ vs).set v none
def setTs : List Nat → List D → Sl → Option Sl
  | [], [], σ => some σ
  | i :: is, d :: ds, σ => setTs is ds (σ.set i (some d))
  | _, _, _ => none
def setTg : Tg → D → Sl → Option Sl
  | .nm i, d, σ => some (σ.set i (some d))
  | .tp is, .tup ds, σ => setTs is ds σ
  | .tp _, _, _ => none
/-- a comprehension's loop: k turns at most from turn i on -/
def lcLoop (w : Walk) (tg : Tg) (σ : Sl) (n : Nat) (test : Sl → Sto → Out Bool) (elt : Sl → Sto → Out D) : Nat → Nat → Sto → Out Unit
  | 0, i, S => match wgo w i S with | some none => .ok () S | _ => .bad
  | k + 1, i, S => match wgo w i S with
    | some none => .ok () S
    | none => .bad
    | some (some d) => match setTg tg d σ with
      | none => .bad
      | some σ' => match test σ' S with
        | .ok false S1 => lcLoop w tg σ n test elt k (i + 1) S1
        | .ok true S1 => match elt σ' S1 with
          | .ok v S2 => match S2[n]? with
            | some (.lst acc) => if acc.length < sizeLine then lcLoop w tg σ n test elt k (i + 1) (S2.set n (.lst (acc ++ [v]))) else .bad
            | _ => .bad
          | _ => .bad
        | _ => .bad
structure Pg where
  glo : Str → Option D
section
variable (P : Pg) (C : Nat → List D → Sto → Out D)
def walkOf (x : D) (S : Sto) : Option Walk :=
  match x with
  | .tup xs => some (.vs xs)
  | .rl xs => some (.vs xs)
  | .loc a => match S[a]? with | some (.lst _) => some (.li a) | _ => none
  | _ => none
def walkL (x : D) (S : Sto) : Option Walk :=
  match x with
  | .rl xs => some (.vs xs)
  | .loc a => match S[a]? with | some (.lst _) => some (.li a) | _ => none
  | _ => none
def rngOk (lo hi : Int) : Bool := decide (-(2 ^ 62) ≤ lo ∧ lo < 2 ^ 62 ∧ -(2 ^ 62) ≤ hi ∧ hi < 2 ^ 62)
def lrgOk (lo hi : Int) : Bool := decide (-(2 ^ 62) ≤ lo ∧ lo < 2 ^ 62 ∧ -(2 ^ 62) ≤ hi ∧ hi < 2 ^ 62 ∧ (hi - lo).toNat ≤ 2 ^ 24)
/-- the ints lo .. hi - 1 -/
def lrgD (lo hi : Int) : List D := (List.range (hi - lo).toNat).map fun i => D.int (lo + (i : Nat))
def cutOf (o : D) (S : Sto) : Out (Option Int) := match o with | .int i => .ok (some i) S | _ => .bad
def fin (b : Bool) (o : Out D) : Out D := if b = true then o.bind fun d S => .at S ((truSem d S).map D.bl) else o
def tstO (o : Out D) : Out Bool := o.bind fun d S => match d with | .bl t => .ok t S | _ => .bad
mutual
/-- b: as a test (whose answer is a bl), or as a value -/
def de : Ex → Bool → Sl → Sto → Out D
  | .cst l, b, _, S => fin b (.ok l.d S)
  | .var i, b, σ, S => fin b (match σ[i]? with | some (some d) => .ok d S | _ => .bad)
  | .glo x, b, _, S => fin b (match P.glo x with | some d => .ok d S | none => .bad)
  | .bty n, b, _, S => fin b (.ok (.ty n) S)
  | .bin o a c, b, σ, S => fin b ((de a false σ S).bind fun x S => (de c false σ S).bind fun y S => .of (opSem o x y S))
  | .neg a, b, σ, S => fin b ((de a false σ S).bind fun x S => match x with | .int i => .ok (.int (-i)) S | _ => .bad)
  | .cmp o a c, _, σ, S => (de a false σ S).bind fun x S => (de c false σ S).bind fun y S => .at S ((cmpSem o x y S).map D.bl)
  | .chn o o' a c e, _, σ, S => (de a false σ S).bind fun x S => (de c false σ S).bind fun y S => match cmpSem o x y S with
    | some true => (de e false σ S).bind fun z S => .at S ((cmpSem o' y z S).map D.bl)
    | some false => .ok (.bl false) S
    | none => .bad
  | .and_ a c, b, σ, S => (de a b σ S).bind fun x S => match truSem x S with | some true => de c b σ S | some false => .ok x S | none => .bad
  | .or_ a c, b, σ, S => (de a b σ S).bind fun x S => match truSem x S with | some true => .ok x S | some false => de c b σ S | none => .bad
  | .not_ a, b, σ, S => (de a b σ S).bind fun x S => .at S ((truSem x S).map fun b => D.bl (!b))
  | .ite t a c, b, σ, S => (tstO (de t true σ S)).bind fun t S => if t = true then de a b σ S else de c b σ S
  | .fld c o f, b, σ, S => fin b ((de o false σ S).bind fun x S => .at S (fldSem x c f S))
  | .ix o i, b, σ, S => fin b ((de o false σ S).bind fun x S => (de i false σ S).bind fun y S => .at S (itemSem x y S))
  | .sl o lo hi, b, σ, S => fin b ((de o false σ S).bind fun x S => (deO lo σ S).bind fun l S => (deO hi σ S).bind fun h S => .of (sliceSem x l h S))
  | .tup es, b, σ, S => fin b ((des es σ S).bind fun ds S => if ds.length ≤ sizeLine then .ok (.tup ds) S else .bad)
  | .lst es, b, σ, S => fin b ((des es σ S).bind fun ds S => if ds.length ≤ sizeLine then .ok (.loc S.length) (S ++ [.lst ds]) else .bad)
  | .dct0 t, b, _, S => fin b (.ok (.loc S.length) (S ++ [if t = true then .dt [] else .dk []]))
  | .cal j es, b, σ, S => fin b ((des es σ S).bind fun ds S => C j ds S)
  | .mk c j es, b, σ, S => fin b ((des es σ S).bind fun ds S => (C j (.loc S.length :: ds) (S ++ [.ins c []])).bind fun r S' => match r with | .non => .ok (.loc S.length) S' | _ => .bad)
  | .mth c j o m es, b, σ, S => fin b ((de o false σ S).bind fun x S => match x with
    | .loc a => match S[a]? with
      | some (.ins c' fs) => if c' = c ∧ fs.lookup m = none then (des es σ S).bind fun ds S => C j (x :: ds) S else .bad
      | _ => .bad
    | _ => .bad)
  | .bi f es, b, σ, S => fin b ((des es σ S).bind fun ds S => .of (biSem f ds S))
  | .bm f o es, b, σ, S => fin b ((de o false σ S).bind fun x S => match x with
    | .loc a => match S[a]? with
      | some (.lst _) => (des es σ S).bind fun ds S => .of (bmSem f x ds S)
      | _ => .bad
    | _ => .bad)
  | .lc own tg it ifs elt, b, σ, S => fin b ((deI it σ S).bind fun w S =>
      (lcLoop w tg (wipeD σ (own.map (·.2))) S.length (fun σ S => deT ifs σ S) (fun σ S => de elt false σ S) (wlen w S) 0 (S ++ [.lst []])).bind fun _ S' => .ok (.loc S.length) S')
  | .lrg a c, b, σ, S => fin b ((de a false σ S).bind fun x S => (de c false σ S).bind fun y S => match x, y with
    | .int i, .int j => if lrgOk i j = true then .ok (.loc S.length) (S ++ [.lst (lrgD i j)]) else .bad
    | _, _ => .bad)
  | .calK j n ks pm es kes, b, σ, S => fin b ((des es σ S).bind fun ds S => (des kes σ S).bind fun zs S => if ds.length = n ∧ zs.length = ks.length then C j (pmL pm (ds ++ zs)) S else .bad)
  | .mthK c j o m n ks pm es kes, b, σ, S => fin b ((de o false σ S).bind fun x S => match x with
    | .loc a => match S[a]? with
      | some (.ins c' fs) => if c' = c ∧ fs.lookup m = none then (des es σ S).bind fun ds S => (des kes σ S).bind fun zs S => if ds.length + 1 = n ∧ zs.length = ks.length then C j (pmL pm (x :: ds ++ zs)) S else .bad else .bad
      | _ => .bad
    | _ => .bad)
def des : Exs → Sl → Sto → Out (List D)
  | .nil, _, S => .ok [] S
  | .cons e es, σ, S => (de e false σ S).bind fun d S => (des es σ S).bind fun ds S => .ok (d :: ds) S
/-- the tests of a comprehension: none or one -/
def deT : Exs → Sl → Sto → Out Bool
  | .nil, _, S => .ok true S
  | .cons e .nil, σ, S => tstO (de e true σ S)
  | .cons _ (.cons _ _), _, _ => .bad
def deO : Ox → Sl → Sto → Out (Option Int)
  | .no, _, S => .ok none S
  | .so e, σ, S => (de e false σ S).bind fun d S => cutOf d S
def deI : Ir → Sl → Sto → Out Walk
  | .ex e, σ, S => (de e false σ S).bind fun x S => .at S (walkOf x S)
  | .rng1 e, σ, S => (de e false σ S).bind fun x S => match x with | .int j => if rngOk 0 j = true then .ok (.rng 0 j.toNat) S else .bad | _ => .bad
  | .rng2 a c, σ, S => (de a false σ S).bind fun x S => (de c false σ S).bind fun y S => match x, y with
    | .int i, .int j => if rngOk i j = true then .ok (.rng i (j - i).toNat) S else .bad
    | _, _ => .bad
  | .enum e, σ, S => (de e false σ S).bind fun x S => match walkL x S with | some w => .ok (.en w) S | none => .bad
end
/-! ### statements -/
inductive OutS where
  | nx (σ : Sl) (S : Sto) | rt (d : D) (S : Sto) | bk (σ : Sl) (S : Sto) | ct (σ : Sl) (S : Sto) | err (c : Nat) (fs : Option (List (Str × D))) (σ : Sl) (S : Sto) | bad
def Out.thn {α : Type} (x : Out α) (σ : Sl) (f : α → Sto → OutS) : OutS := match x with | .ok a S => f a S | .err c fs S => .err c fs σ S | .bad => .bad
def OutS.nxt (x : OutS) (f : Sl → Sto → OutS) : OutS := match x with | .nx σ S => f σ S | x => x
/-- a while, n tests at most -/
def whlN (t : Sl → Sto → Out Bool) (b : Sl → Sto → OutS) : Nat → Sl → Sto → OutS
  | 0, _, _ => .bad
  | n + 1, σ, S => (t σ S).thn σ fun k S1 => if k = true then match b σ S1 with
      | .nx σ' S' => whlN t b n σ' S'
      | .ct σ' S' => whlN t b n σ' S'
      | .bk σ' S' => .nx σ' S'
      | x => x
    else .nx σ S1
open Classical in
noncomputable def whl (t : Sl → Sto → Out Bool) (b : Sl → Sto → OutS) (σ : Sl) (S : Sto) : OutS :=
  if h : ∃ n, whlN t b n σ S ≠ .bad then whlN t b (choose h) σ S else .bad
def forN (w : Walk) (tg : Tg) (b : Sl → Sto → OutS) : Nat → Nat → Sl → Sto → OutS
  | 0, i, σ, S => match wgo w i S with | some none => .nx σ S | _ => .bad
  | k + 1, i, σ, S => match wgo w i S with
    | some none => .nx σ S
    | none => .bad
    | some (some d) => match setTg tg d σ with
      | none => .bad
      | some σ' => match b σ' S with
        | .nx σ' S' => forN w tg b k (i + 1) σ' S'
        | .ct σ' S' => forN w tg b k (i + 1) σ' S'
        | .bk σ' S' => .nx σ' S'
        | x => x
mutual
noncomputable def dS : Sm → Sl → Sto → OutS
  | .set i e, σ, S => (de P C e false σ S).thn σ fun d S => .nx (σ.set i (some d)) S
  | .setT is e, σ, S => (de P C e false σ S).thn σ fun d S => match setTg (.tp is) d σ with | some σ' => .nx σ' S | none => .bad
  | .par i j a b, σ, S => (de P C a false σ S).thn σ fun x S => (de P C b false σ S).thn σ fun y S => .nx ((σ.set i (some x)).set j (some y)) S
  | .fld c o f e, σ, S => (de P C e false σ S).thn σ fun d S => (de P C o false σ S).thn σ fun x S => match putSem x c f d S with | some S' => .nx σ S' | none => .bad
  | .sub o i e, σ, S => (de P C e false σ S).thn σ fun d S => (de P C o false σ S).thn σ fun x S => (de P C i false σ S).thn σ fun y S => match setSem x y d S with | some S' => .nx σ S' | none => .bad
  | .aug i o e, σ, S => match σ[i]? with
    | some (some x) => (de P C e false σ S).thn σ fun y S => match x, y, o with
      | .int a, .int b, .Add => .nx (σ.set i (some (.int (a + b)))) S
      | .int a, .int b, .Sub => .nx (σ.set i (some (.int (a - b)))) S
      | _, _, _ => .bad
    | _ => .bad
  | .exp e, σ, S => (de P C e false σ S).thn σ fun _ S => .nx σ S
  | .ret e, σ, S => (de P C e false σ S).thn σ fun d S => .rt d S
  | .retN, _, S => .rt .non S
  | .ite c a b, σ, S => (tstO (de P C c true σ S)).thn σ fun t S => if t = true then dSs a σ S else dSs b σ S
  | .whl c b, σ, S => whl (fun σ S => tstO (de P C c true σ S)) (fun σ S => dSs b σ S) σ S
  | .for_ tg it b, σ, S => (deI P C it σ S).thn σ fun w S => forN w tg (fun σ S => dSs b σ S) (wlen w S) 0 σ S
  | .pass, σ, S => .nx σ S
  | .brk, σ, S => .bk σ S
  | .cnt, σ, S => .ct σ S
  | .rai c _, σ, S => .err c none σ S
noncomputable def dSs : Sms → Sl → Sto → OutS
  | .nil, σ, S => .nx σ S
  | .cons s ss, σ, S => (dS s σ S).nxt fun σ S => dSs ss σ S
end
end
end DI

set_option Elab.async false
set_option linter.all false
set_option maxRecDepth 100000
set_option maxHeartbeats 4000000
/-! Each operation of the model upon values that the heap bears: it gives what the language says. -/
namespace DI
open L2 PySem PySem.Spec PyProof.Rows

/-- what is wanted of a step that gives a value and a store -/
def PO (A : Ad) (m : List Addr) (H : Hp) (r : Option (D × Sto)) (Q : VK) : Prop :=
  match r with
  | some (d, S') => ∀ m' H' v, Ext A m H m' H' → Rep A m' S' H' → RepD A m' H' d v → Q v H'
  | none => False
def PB (r : Option Bool) (Q : Bool → Prop) : Prop := match r with | some b => Q b | none => False
def PD (A : Ad) (m : List Addr) (H : Hp) (r : Option D) (Q : VK) : Prop := match r with | some d => ∀ v, RepD A m H d v → Q v H | none => False
def rOp (A : Ad) (o : Operator) : R2 := fun x y H Q => ∃ m S dx dy, Rep A m S H ∧ RepD A m H dx x ∧ RepD A m H dy y ∧ PO A m H (opSem o dx dy S) Q
def rCmp (A : Ad) (o : CmpOp) : R2 := fun x y H Q => ∃ m S dx dy, Rep A m S H ∧ RepD A m H dx x ∧ RepD A m H dy y ∧ PB (cmpSem o dx dy S) fun b => Q (.bl b) H
def rItem (A : Ad) : R2 := fun x y H Q => ∃ m S dx dy, Rep A m S H ∧ RepD A m H dx x ∧ RepD A m H dy y ∧ PD A m H (itemSem dx dy S) Q
def rSlice (A : Ad) : V → Option Int → Option Int → Hp → VK → Prop := fun x lo hi H Q => ∃ m S dx, Rep A m S H ∧ RepD A m H dx x ∧ PO A m H (sliceSem dx lo hi S) Q
def rBi (A : Ad) (b : BI) : List V → Hp → VK → Prop := fun vs H Q => ∃ m S ds, Rep A m S H ∧ RepL A m H ds vs ∧ PO A m H (biSem b ds S) Q
def rBm (A : Ad) (b : BM) : V → List V → Hp → VK → Prop := fun x vs H Q => ∃ m S dx ds, Rep A m S H ∧ RepD A m H dx x ∧ RepL A m H ds vs ∧ PO A m H (bmSem b dx ds S) Q
def rSetI (A : Ad) : TSet := fun x y v H Q => ∃ m S dx dy d, Rep A m S H ∧ RepD A m H dx x ∧ RepD A m H dy y ∧ RepD A m H d v ∧
  match setSem dx dy d S with | some S' => ∀ m' H', Ext A m H m' H' → Rep A m' S' H' → Q H' | none => False

section
variable {X : Cx} {A : Ad} {m : List Addr} {S : Sto} {H : Hp} {p : Addr} {ds : List D} {vs : List V}
theorem newLst (R : Rep A m S H) (L : RepL A m H ds vs) (hp : H p = none) :
    Rep A (m ++ [p]) (S ++ [.lst ds]) (upd H p (.lst vs)) ∧ Ext A m H (m ++ [p]) (upd H p (.lst vs)) ∧ RepD A (m ++ [p]) (upd H p (.lst vs)) (.loc S.length) (.ref p) :=
  ⟨R.alloc hp (.lst upd_same (L.mono (Ext.new hp).more)), (Ext.new hp).more, .loc (by rw [← R.len, List.getElem?_append_right (Nat.le_refl _), Nat.sub_self] <;> rfl)⟩
theorem newTup (R : Rep A m S H) (L : RepL A m H ds vs) (hp : H p = none) :
    Rep A m S (upd H p (.tup vs)) ∧ Ext A m H m (upd H p (.tup vs)) ∧ RepD A m (upd H p (.tup vs)) (.tup ds) (.ref p) :=
  ⟨R.new hp, Ext.new hp, .tup (SqT.of upd_same) (L.mono (Ext.new hp))⟩
theorem Rep.lst (R : Rep A m S H) {i : Nat} {xs : List D} (h : S[i]? = some (.lst xs)) : ∃ a vs, m[i]? = some a ∧ H a = some (.lst vs) ∧ RepL A m H xs vs := by
  obtain ⟨a, h1, h2⟩ := R.cell i _ h
  cases h2 with
  | lst e l => exact ⟨a, _, h1, e, l⟩
theorem Rep.dk (R : Rep A m S H) {i : Nat} {xs : List (Key × D)} (h : S[i]? = some (.dk xs)) : ∃ a ws, m[i]? = some a ∧ H a = some (.dK ws) ∧ RepK A m H xs ws := by
  obtain ⟨a, h1, h2⟩ := R.cell i _ h
  cases h2 with
  | dk e l => exact ⟨a, _, h1, e, l⟩
theorem Rep.dt (R : Rep A m S H) {i : Nat} {xs : List (List Key × D)} (h : S[i]? = some (.dt xs)) : ∃ a ws, m[i]? = some a ∧ H a = some (.dT ws) ∧ RepK A m H xs ws := by
  obtain ⟨a, h1, h2⟩ := R.cell i _ h
  cases h2 with
  | dt e l => exact ⟨a, _, h1, e, l⟩
theorem Rep.ins (R : Rep A m S H) {i c : Nat} {fs : List (Str × D)} (h : S[i]? = some (.ins c fs)) : ∃ a dx ws, m[i]? = some a ∧ H a = some (.ins (A.cl c) dx ws) ∧ RepK A m H fs ws := by
  obtain ⟨a, h1, h2⟩ := R.cell i _ h
  cases h2 with
  | ins e l => exact ⟨a, _, _, h1, e, l⟩
/-- a list cell is written -/
theorem Rep.setLst (R : Rep A m S H) {i : Nat} {a : Addr} {ws : List V} (h1 : m[i]? = some a) (h2 : H a = some (.lst ws)) (L : RepL A m H ds vs) :
    Rep A m (S.set i (.lst ds)) (upd H a (.lst vs)) ∧ Ext A m H m (upd H a (.lst vs)) := by
  have e : Ext A m H m (upd H a (.lst vs)) := Ext.write h2 (fun _ z => by cases z) fun _ _ z => by cases z
  exact ⟨R.write h1 e (.lst upd_same (L.mono e)), e⟩
theorem RepK.length {κ : Type} : ∀ {kvs : List (κ × D)} {ws : List (κ × V)}, RepK A m H kvs ws → ws.length = kvs.length
  | _, _, .nil => rfl
  | _, _, .cons _ b => by rw [List.length_cons, List.length_cons, RepK.length b]
theorem RepL.cut (L : RepL A m H ds vs) (lo hi : Option Int) : RepL A m H (cutL ds lo hi) (cutV vs lo hi) := by
  unfold cutL cutV
  rw [L.length]
  exact (L.drop _).take _
theorem RepL.flat (L : RepL A m H ds vs) : ∀ k : Nat, RepL A m H (List.replicate k ds).flatten (List.replicate k vs).flatten
  | 0 => .nil
  | k + 1 => by rw [List.replicate_succ, List.replicate_succ, List.flatten_cons, List.flatten_cons]; exact L.app (RepL.flat L k)
theorem RepL.nil_iff (L : RepL A m H ds vs) : vs = [] ↔ ds = [] := by cases L <;> simp

theorem op_ok (hK : A.K = X.K) (o : Operator) : OpR X (binaryOp o) (rOp A o) := by
  intro pins s σ H x y v u Q I rx ry h
  obtain ⟨m, S, dx, dy, R, r1, r2, p⟩ := h
  cases o <;> (try exact (show False from p).elim) <;> cases dx <;> (try exact (show False from p).elim) <;> cases dy <;> (try exact (show False from p).elim)
  · cases r1; cases r2
    exact op_add pins s σ H _ _ v u Q I rx ry ⟨_, _, rfl, rfl, p m H _ Ext.refl R (.int _)⟩
  · cases r1; cases r2
    rename_i i j
    unfold opSem at p
    dsimp only at p
    split at p
    · exact op_add_str pins s σ H _ _ v u Q I rx ry ⟨_, _, rfl, rfl, by assumption, p m H _ Ext.refl R (.str _)⟩
    · exact p.elim
  · rename_i xs ys
    cases r1 with
    | tup t1 l1 =>
    cases r2 with
    | tup t2 l2 =>
    unfold opSem at p
    dsimp only at p
    split at p
    · refine op_catA pins s σ H _ _ v u Q I rx ry ⟨_, _, _, _, rfl, rfl, hK ▸ t1, hK ▸ t2, by rw [l1.length, l2.length]; assumption, fun e => ?_, fun _ e => ?_, fun _ _ q hq => ?_⟩
      · have e' := l1.nil_iff.mp e
        subst e'
        exact p m H _ Ext.refl R (.tup t2 l2)
      · have e' := l2.nil_iff.mp e
        subst e'
        refine p m H _ Ext.refl R ?_
        rw [List.append_nil]
        exact .tup t1 l1
      · obtain ⟨a, b, c⟩ := newTup R (l1.app l2) hq
        exact p m _ _ b a c
    · exact p.elim
  · rename_i a b
    cases r1 with
    | loc e1 =>
    cases r2 with
    | loc e2 =>
    unfold opSem at p
    dsimp only at p
    split at p
    · rename_i xs ys h1 h2
      split at p
      · obtain ⟨a1, v1, m1, g1, l1⟩ := R.lst h1
        obtain ⟨a2, v2, m2, g2, l2⟩ := R.lst h2
        rw [e1] at m1; cases m1
        rw [e2] at m2; cases m2
        refine op_cat pins s σ H _ _ v u Q I rx ry ⟨_, _, _, _, rfl, rfl, g1, g2, by rw [l1.length, l2.length]; assumption, fun q hq => ?_⟩
        obtain ⟨a, b, c⟩ := newLst R (l1.app l2) hq
        exact p _ _ _ b a c
      · exact p.elim
    · exact p.elim
  · cases r1; cases r2
    exact op_sub pins s σ H _ _ v u Q I rx ry ⟨_, _, rfl, rfl, p m H _ Ext.refl R (.int _)⟩
  · cases r1; cases r2
    unfold opSem at p
    dsimp only at p
    split at p
    · exact op_mul pins s σ H _ _ v u Q I rx ry ⟨_, _, rfl, rfl, by assumption, p m H _ Ext.refl R (.int _)⟩
    · exact p.elim
  · rename_i a k
    cases r1 with
    | loc e1 =>
    cases r2
    unfold opSem at p
    dsimp only at p
    split at p
    · rename_i xs h1
      split at p
      · rename_i hz
        obtain ⟨a1, v1, m1, g1, l1⟩ := R.lst h1
        rw [e1] at m1; cases m1
        refine op_rep pins s σ H _ _ v u Q I rx ry ⟨_, _, _, rfl, rfl, g1, hz.1, hz.2.1, by rw [l1.length]; exact hz.2.2, fun q hq => ?_⟩
        obtain ⟨a, b, c⟩ := newLst R (l1.flat k.toNat) hq
        exact p _ _ _ b a c
      · exact p.elim
    · exact p.elim
  · cases r1; cases r2
    unfold opSem at p
    dsimp only at p
    split at p
    · exact op_mod pins s σ H _ _ v u Q I rx ry ⟨_, _, rfl, rfl, by assumption, p m H _ Ext.refl R (.int _)⟩
    · exact p.elim
  · cases r1; cases r2
    unfold opSem at p
    dsimp only at p
    split at p
    · exact op_pow pins s σ H _ _ v u Q I rx ry ⟨_, _, rfl, rfl, by assumption, p m H _ Ext.refl R (.int _)⟩
    · exact p.elim
  · cases r1; cases r2
    unfold opSem at p
    dsimp only at p
    split at p
    · exact op_fdiv pins s σ H _ _ v u Q I rx ry ⟨_, _, rfl, rfl, by assumption, p m H _ Ext.refl R (.int _)⟩
    · exact p.elim

/-! comparisons -/
mutual
theorem dp_of (R : Rep A m S H) : ∀ (n : Nat) (d : D) (v : V) (q : PyData), toP S n d = some q → RepD A m H d v → Dp A.K H v q
  | 0, d, v, q, h, r => by simp [toP] at h
  | n + 1, d, v, q, h, r => by
    cases r with
    | non => simp only [toP] at h; cases h; exact .non
    | bl b => simp only [toP] at h; cases h; exact .bl b
    | int b => simp only [toP] at h; cases h; exact .int b
    | str b => simp only [toP] at h; cases h; exact .str b
    | ty b => simp only [toP] at h; cases h
    | fn b => simp only [toP] at h; cases h
    | cl b => simp only [toP] at h; cases h
    | tup t l =>
      simp only [toP, Option.map_eq_some_iff] at h
      obtain ⟨ps, h1, rfl⟩ := h
      exact .tup t (dpAll_of R n _ _ _ h1 l)
    | rl t l =>
      simp only [toP, Option.map_eq_some_iff] at h
      obtain ⟨ps, h1, rfl⟩ := h
      exact .lst t.sq (dpAll_of R n _ _ _ h1 l)
    | loc e =>
      simp only [toP] at h
      split at h
      · rename_i xs hx
        simp only [Option.map_eq_some_iff] at h
        obtain ⟨ps, h1, rfl⟩ := h
        obtain ⟨a1, v1, m1, g1, l1⟩ := R.lst hx
        rw [e] at m1; cases m1
        exact .lst (SqL.of g1) (dpAll_of R n _ _ _ h1 l1)
      · cases h
theorem dpAll_of (R : Rep A m S H) : ∀ (n : Nat) (ds : List D) (vs : List V) (qs : List PyData), ds.mapM (toP S n) = some qs → RepL A m H ds vs → DpAll A.K H vs qs
  | n, [], _, qs, h, .nil => by simp at h; subst h; exact .nil
  | n, d :: ds, _, qs, h, .cons a b => by
    rw [List.mapM_cons] at h
    cases h1 : toP S n d with
    | none => rw [h1] at h; simp at h
    | some q =>
      rw [h1] at h
      cases h2 : ds.mapM (toP S n) with
      | none => rw [h2] at h; simp at h
      | some qs' =>
        rw [h2] at h
        simp at h
        subst h
        exact .cons (dp_of R n d _ q h1 a) (dpAll_of R n ds _ qs' h2 b)
end
theorem flat_of {d : D} {v : V} (r : RepD A m H d v) (f : flatD d = true) : flatV v = true := by cases r <;> first | rfl | cases f
theorem eqF_of {d e : D} {v w : V} (r : RepD A m H d v) (r' : RepD A m H e w) (f : flatD d = true) (f' : flatD e = true) : eqV v w = eqF d e := by
  cases r <;> cases r' <;> first | rfl | exact nomatch f | exact nomatch f'
theorem flats_of : ∀ {ds : List D} {vs : List V}, RepL A m H ds vs → ds.all flatD = true → vs.all flatV = true
  | _, _, .nil, _ => rfl
  | _, _, .cons a b, f => by
    rw [List.all_cons, Bool.and_eq_true] at f
    rw [List.all_cons, flat_of a f.1, flats_of b f.2] <;> rfl
theorem inV_of {d : D} {v : V} (r : RepD A m H d v) (fd : flatD d = true) : ∀ {ds : List D} {vs : List V}, RepL A m H ds vs → ds.all flatD = true → inV v vs = ds.any fun z => eqF z d
  | _, _, .nil, _ => rfl
  | _, _, .cons a b, f => by
    rw [List.all_cons, Bool.and_eq_true] at f
    have ih := inV_of r fd b f.2
    unfold inV at ih ⊢
    rw [List.any_cons, List.any_cons, ih, eqF_of a r f.1 fd]
theorem PB.any {b : Bool} {r : Option Bool} {Q : Bool → Prop} (h : PB r Q) (e : r = some b) : Q b := by subst e; exact h
theorem kV_of {d : D} {k : Key} {v : V} (h : keyD d = some k) (r : RepD A m H d v) : v = kV k := by
  cases r <;> simp only [keyD] at h <;> cases h <;> rfl
theorem kVs_of : ∀ {ds : List D} {ks : List Key} {vs : List V}, keysD ds = some ks → RepL A m H ds vs → vs = ks.map kV
  | _, _, _, h, .nil => by simp only [keysD] at h; cases h; rfl
  | d :: ds, _, _, h, .cons a b => by
    simp only [keysD] at h
    split at h
    · rename_i k ks h1 h2
      cases h
      rw [List.map_cons, kV_of h1 a, kVs_of h2 b]
    · cases h
theorem RepK.look {κ : Type} [DecidableEq κ] : ∀ {kvs : List (κ × D)} {ws : List (κ × V)} {k : κ}, RepK A m H kvs ws → (∃ d v, lookK kvs k = some d ∧ valV ws k = some v ∧ RepD A m H d v) ∨ (lookK kvs k = none ∧ valV ws k = none)
  | _, _, _, .nil => .inr ⟨rfl, rfl⟩
  | p :: kvs, q :: ws, k, .cons a b => by
    by_cases e : p.1 = k
    · refine .inl ⟨p.2, q.2, ?_, valV_pos (a.1 ▸ e), a.2⟩
      unfold lookK
      rw [List.find?_cons_of_pos (by simpa using e)] <;> rfl
    · have e1 : lookK (p :: kvs) k = lookK kvs k := by
        unfold lookK
        rw [List.find?_cons_of_neg (by simpa using e)]
      rw [e1, valV_neg (fun z => e (a.1.trans z))]
      exact RepK.look b
theorem RepK.put {κ : Type} [DecidableEq κ] {kvs : List (κ × D)} {ws : List (κ × V)} {k : κ} {d : D} {v : V} (r : RepK A m H kvs ws) (rv : RepD A m H d v) : RepK A m H (putD kvs k d) (putK ws k v) := by
  have hany : ∀ {kvs : List (κ × D)} {ws : List (κ × V)}, RepK A m H kvs ws → (kvs.any fun kv => decide (kv.1 = k)) = ws.any fun kv => decide (kv.1 = k) := by
    intro kvs ws r
    induction r with
    | nil => rfl
    | cons a b ih => rw [List.any_cons, List.any_cons, ih, a.1]
  have hmap : ∀ {kvs : List (κ × D)} {ws : List (κ × V)}, RepK A m H kvs ws → RepK A m H (kvs.map fun kv => if kv.1 = k then (kv.1, d) else kv) (ws.map fun kv => if kv.1 = k then (kv.1, v) else kv) := by
    intro kvs ws r
    induction r with
    | nil => exact .nil
    | cons a b ih =>
      rename_i p q _ _
      refine .cons ?_ ih
      show (if p.1 = k then (p.1, d) else p).1 = (if q.1 = k then (q.1, v) else q).1 ∧ RepD A m H (if p.1 = k then (p.1, d) else p).2 (if q.1 = k then (q.1, v) else q).2
      by_cases e : p.1 = k
      · rw [if_pos e, if_pos (a.1 ▸ e)]; exact ⟨a.1, rv⟩
      · rw [if_neg e, if_neg (fun z => e (a.1.trans z))]; exact a
  have happ : ∀ {kvs : List (κ × D)} {ws : List (κ × V)}, RepK A m H kvs ws → RepK A m H (kvs ++ [(k, d)]) (ws ++ [(k, v)]) := by
    intro kvs ws r
    induction r with
    | nil => exact .cons ⟨rfl, rv⟩ .nil
    | cons a b ih => exact .cons a ih
  unfold putD putK
  rw [hany r]
  split
  · exact hmap r
  · exact happ r
/-- an object's attributes: by their first pair of the name -/
theorem RepK.lookup : ∀ {fs : List (Str × D)} {ws : List (Str × V)} {f : Str}, RepK A m H fs ws → (∃ d v, fs.lookup f = some d ∧ ws.lookup f = some v ∧ RepD A m H d v) ∨ (fs.lookup f = none ∧ ws.lookup f = none)
  | _, _, _, .nil => .inr ⟨rfl, rfl⟩
  | p :: fs, q :: ws, f, .cons a b => by
    obtain ⟨p1, p2⟩ := p
    obtain ⟨q1, q2⟩ := q
    obtain ⟨rfl, a2⟩ := a
    rw [List.lookup_cons, List.lookup_cons]
    cases e : (f == p1) with
    | true => exact .inl ⟨p2, q2, rfl, rfl, a2⟩
    | false => exact RepK.lookup b
theorem RepK.putA {f : Str} {d : D} {v : V} (rv : RepD A m H d v) : ∀ {fs : List (Str × D)} {ws : List (Str × V)}, RepK A m H fs ws → RepK A m H (putA f d fs) (putF f v ws)
  | _, _, .nil => .cons ⟨rfl, rv⟩ .nil
  | p :: fs, q :: ws, .cons a b => by
    obtain ⟨p1, p2⟩ := p
    obtain ⟨q1, q2⟩ := q
    obtain ⟨rfl, a2⟩ := a
    unfold DI.putA putF
    by_cases e : p1 = f
    · rw [if_pos e, if_pos e]; exact .cons ⟨rfl, rv⟩ b
    · rw [if_neg e, if_neg e]; exact .cons ⟨rfl, a2⟩ (RepK.putA rv b)
/-- a dict's look-up -/
theorem dget_of (R : Rep A m S H) {a : Nat} {c : Cell} {p : Addr} {k : D} {y : V} {o : Option D} (hc : S[a]? = some c) (hp : m[a]? = some p) (hk : dictAt c k = some o) (r : RepD A m H k y) :
    ∃ w, DGet H p y w ∧ ((∃ d v, o = some d ∧ w = some v ∧ RepD A m H d v) ∨ (o = none ∧ w = none)) := by
  cases c with
  | lst xs => cases k <;> cases hk
  | ins c fs => cases k <;> cases hk
  | dk kvs =>
    obtain ⟨a1, ws, m1, g1, l1⟩ := R.dk hc
    rw [hp] at m1; cases m1
    cases r with
    | int i =>
      simp only [dictAt] at hk; cases hk
      refine ⟨_, DGet.k (k := .inl i) g1, ?_⟩
      rcases l1.look (k := (Sum.inl i : Key)) with ⟨d, v, h1, h2, h3⟩ | ⟨h1, h2⟩
      · exact .inl ⟨d, v, h1, h2, h3⟩
      · exact .inr ⟨h1, h2⟩
    | str i =>
      simp only [dictAt] at hk; cases hk
      refine ⟨_, DGet.k (k := .inr i) g1, ?_⟩
      rcases l1.look (k := (Sum.inr i : Key)) with ⟨d, v, h1, h2, h3⟩ | ⟨h1, h2⟩
      · exact .inl ⟨d, v, h1, h2, h3⟩
      · exact .inr ⟨h1, h2⟩
    | _ => cases hk
  | dt kvs => cases k <;> cases hk
/-! the rules -/
theorem cmp_ok (hK : A.K = X.K) (hu : X.A.units + 64 < cLine) (o : CmpOp) : OpR X (compareOp o) (rCmp A o) := by
  intro pins s σ H x y v u Q I rx ry h
  obtain ⟨m, S, dx, dy, R, r1, r2, p⟩ := h
  have hu1 : X.A.units + 1 < cLine := by omega
  have eqs : ∀ (k : Bool → Bool) (q : PB ((eqSem dx dy S).map k) fun b => Q (.bl b) H), ∃ d e, Dp X.K H x d ∧ Dp X.K H y e ∧ SeqAt.shaped d = true ∧ SeqAt.shaped e = true ∧ Q (.bl (k (PyData.eqv d e))) H := by
    intro k q
    unfold eqSem at q
    split at q
    · rename_i d e h1 h2
      split at q
      · rename_i hs
        exact ⟨d, e, hK ▸ dp_of R _ _ _ _ h1 r1, hK ▸ dp_of R _ _ _ _ h2 r2, hs.1, hs.2, q⟩
      · exact q.elim
    · exact q.elim
  have ins : ∀ (k : Bool → Bool) (q : PB ((inSem dx dy S).map k) fun b => Q (.bl b) H),
      (∃ a xs, y = .ref a ∧ (SqL X.K H a xs ∨ SqT X.K H a xs) ∧ flatV x = true ∧ xs.all flatV = true ∧ Q (.bl (k (inV x xs))) H) ∨ ∃ a w, y = .ref a ∧ DGet H a x w ∧ Q (.bl (k w.isSome)) H := by
    intro k q
    cases r2 with
    | tup t l =>
      simp only [inSem] at q
      split at q
      · rename_i hf
        refine .inl ⟨_, _, rfl, .inr (hK ▸ t), flat_of r1 hf.1, flats_of l hf.2, ?_⟩
        rw [inV_of r1 hf.1 l hf.2]; exact q
      · exact q.elim
    | rl t l =>
      simp only [inSem] at q
      split at q
      · rename_i hf
        refine .inl ⟨_, _, rfl, .inl (hK ▸ t.sq), flat_of r1 hf.1, flats_of l hf.2, ?_⟩
        rw [inV_of r1 hf.1 l hf.2]; exact q
      · exact q.elim
    | loc e =>
      simp only [inSem] at q
      split at q
      · rename_i xs hx
        obtain ⟨a1, v1, m1, g1, l1⟩ := R.lst hx
        rw [e] at m1; cases m1
        split at q
        · rename_i hf
          refine .inl ⟨_, _, rfl, .inl (SqL.of g1), flat_of r1 hf.1, flats_of l1 hf.2, ?_⟩
          rw [inV_of r1 hf.1 l1 hf.2]; exact q
        · exact q.elim
      · rename_i c hc hx
        cases hd : dictAt c dx with
        | none => rw [hd] at q; exact q.elim
        | some o =>
          rw [hd] at q
          obtain ⟨w, g, hw⟩ := dget_of R hx e hd r1
          refine .inr ⟨_, w, rfl, g, ?_⟩
          rcases hw with ⟨d, z, rfl, rfl, _⟩ | ⟨rfl, rfl⟩
          · exact q
          · exact q
      · exact q.elim
    | _ => exact q.elim
  cases o with
  | Eq =>
    obtain ⟨d, e, h1, h2, h3, h4, h5⟩ := eqs id (by rw [Option.map_id]; exact p)
    exact op_eqD hu pins s σ H _ _ v u Q I rx ry ⟨d, e, h1, h2, h3, h4, h5⟩
  | NotEq =>
    obtain ⟨d, e, h1, h2, h3, h4, h5⟩ := eqs (!·) p
    exact op_neD hu pins s σ H _ _ v u Q I rx ry ⟨d, e, h1, h2, h3, h4, h5⟩
  | In =>
    rcases ins id (by rw [Option.map_id]; exact p) with ⟨a, xs, rfl, h1, h2, h3, h4⟩ | ⟨a, w, rfl, g, h4⟩
    · exact op_in_seq pins s σ H _ _ v u Q I rx ry ⟨a, xs, rfl, h1, h2, h3, h4⟩
    · obtain rfl : u = Value.ref a := ry
      exact d_in hu1 I g rx fun s' I' => ⟨.bl w.isSome, H, I', rfl, h4⟩
  | NotIn =>
    rcases ins (!·) p with ⟨a, xs, rfl, h1, h2, h3, h4⟩ | ⟨a, w, rfl, g, h4⟩
    · exact op_notIn_seq pins s σ H _ _ v u Q I rx ry ⟨a, xs, rfl, h1, h2, h3, h4⟩
    · obtain rfl : u = Value.ref a := ry
      exact d_notIn hu1 I g rx fun s' I' => ⟨.bl (!w.isSome), H, I', rfl, h4⟩
  | Lt => cases r1 <;> (try exact (show False from p).elim) <;> cases r2 <;> first | exact (show False from p).elim | exact op_lt pins s σ H _ _ v u Q I rx ry ⟨_, _, rfl, rfl, p⟩
  | LtE => cases r1 <;> (try exact (show False from p).elim) <;> cases r2 <;> first | exact (show False from p).elim | exact op_le pins s σ H _ _ v u Q I rx ry ⟨_, _, rfl, rfl, p⟩
  | Gt => cases r1 <;> (try exact (show False from p).elim) <;> cases r2 <;> first | exact (show False from p).elim | exact op_gt pins s σ H _ _ v u Q I rx ry ⟨_, _, rfl, rfl, p⟩
  | GtE => cases r1 <;> (try exact (show False from p).elim) <;> cases r2 <;> first | exact (show False from p).elim | exact op_ge pins s σ H _ _ v u Q I rx ry ⟨_, _, rfl, rfl, p⟩
  | Is =>
    cases r2 <;> (try exact (show False from p).elim)
    refine op_isN pins s σ H _ _ v u Q I rx ry ⟨rfl, ?_⟩
    cases r1 <;> exact p
  | IsNot =>
    cases r2 <;> (try exact (show False from p).elim)
    refine op_notN pins s σ H _ _ v u Q I rx ry ⟨rfl, ?_⟩
    cases r1 <;> exact p
theorem tru_of (hK : A.K = X.K) (R : Rep A m S H) {d : D} {v : V} (r : RepD A m H d v) {b : Bool} (h : truSem d S = some b) : TruV X.K v H b := by
  cases r with
  | non => simp only [truSem] at h; cases h; rfl
  | bl k => simp only [truSem] at h; cases h; rfl
  | int k => simp only [truSem] at h; cases h; rfl
  | str k =>
    simp only [truSem] at h
    split at h
    · cases h; exact ⟨by assumption, rfl⟩
    · cases h
  | ty n => cases h
  | fn n => cases h
  | cl n => cases h
  | tup t l =>
    simp only [truSem] at h; cases h
    refine .inr (.inl ⟨_, hK ▸ t, ?_⟩)
    cases l <;> rfl
  | rl t l =>
    simp only [truSem] at h; cases h
    refine .inl ⟨_, hK ▸ t.sq, ?_⟩
    cases l <;> rfl
  | loc e =>
    simp only [truSem] at h
    split at h
    · rename_i xs hx
      obtain ⟨a1, v1, m1, g1, l1⟩ := R.lst hx
      rw [e] at m1; cases m1
      cases h
      refine .inl ⟨_, SqL.of g1, ?_⟩
      cases l1 <;> rfl
    · rename_i xs hx
      obtain ⟨a1, v1, m1, g1, l1⟩ := R.dk hx
      rw [e] at m1; cases m1
      cases h
      refine .inr (.inr ⟨_, g1, ?_⟩)
      cases l1 <;> rfl
    · cases h
theorem atI_rep {ds : List D} {vs : List V} {i : Int} {d : D} (l : RepL A m H ds vs) (h : atI ds i = some d) : ∃ v, atI vs i = some v ∧ RepD A m H d v := by
  unfold atI at h ⊢
  rw [l.length]
  cases e : ixN ds.length i with
  | none => rw [e] at h; cases h
  | some j =>
    rw [e] at h
    exact l.get h
theorem ix_dict (hu : X.A.units + 1 < cLine) : IxR X (fun x y H Q => ∃ a v, x = .ref a ∧ DGet H a y (some v) ∧ Q v H) := by
  intro value slice pins s σ H x y v u Q I rx ry h hs
  obtain ⟨a, z, rfl, g, q⟩ := h
  obtain rfl : v = Value.ref a := rx
  exact tail_any (dict_typeIs I g) PySem.F.slot_dict_getitem.lookup (d_getItem hu I g ry fun w' s' I' r' => ⟨z, H, I', r', q⟩) hs
theorem ix_ok (hK : A.K = X.K) (hu : X.A.units + 64 < cLine) : IxR X (rItem A) := by
  have hu1 : X.A.units + 1 < cLine := by omega
  intro value slice pins s σ H x y v u Q I rx ry h hs
  obtain ⟨m, S, dx, dy, R, r1, r2, p⟩ := h
  have fin : ∀ {r : Option D} {d : D} {z : V}, PD A m H r Q → r = some d → RepD A m H d z → Q z H := fun p e r => by subst e; exact p _ r
  cases r1 <;> (try exact (show False from p).elim)
  · rename_i xs a vs t l
    cases r2 <;> (try exact (show False from p).elim)
    rename_i i
    cases e : atI xs i with
    | none =>
      have e' : itemSem (.tup xs) (.int i) S = none := e
      rw [e'] at p; exact p.elim
    | some d =>
      obtain ⟨z, h1, h2⟩ := atI_rep l e
      exact ix_tup value slice pins s σ H _ _ v u Q I rx ry ⟨_, _, _, z, rfl, rfl, hK ▸ t, h1, fin p e h2⟩ hs
  · rename_i xs a vs t l
    cases r2 <;> (try exact (show False from p).elim)
    rename_i i
    cases e : atI xs i with
    | none =>
      have e' : itemSem (.rl xs) (.int i) S = none := e
      rw [e'] at p; exact p.elim
    | some d =>
      obtain ⟨z, h1, h2⟩ := atI_rep l e
      exact ix_list value slice pins s σ H _ _ v u Q I rx ry ⟨_, _, _, z, rfl, rfl, hK ▸ t.sq, h1, fin p e h2⟩ hs
  · rename_i i a e
    generalize h1 : itemSem (D.loc i) _ S = o at p
    cases o with
    | none => exact p.elim
    | some d =>
      have p' : ∀ z, RepD A m H d z → Q z H := fun z r => fin p rfl r
      simp only [itemSem] at h1
      split at h1
      · rename_i xs j hx
        obtain ⟨a1, v1, m1, g1, l1⟩ := R.lst hx
        rw [e] at m1; cases m1
        cases r2
        obtain ⟨z, h2, h3⟩ := atI_rep l1 h1
        exact ix_list value slice pins s σ H _ _ v u Q I rx ry ⟨_, _, _, z, rfl, rfl, SqL.of g1, h2, p' z h3⟩ hs
      · cases h1
      · rename_i c hc hx hx2
        obtain ⟨o, hd, ho⟩ := Option.bind_eq_some_iff.mp h1
        obtain ⟨w, g, hw⟩ := dget_of R (by assumption) e hd r2
        rcases hw with ⟨d', z, hz, rfl, hr⟩ | ⟨hz, _⟩
        · subst hz
          cases ho
          exact ix_dict hu1 value slice pins s σ H _ _ v u Q I rx ry ⟨_, z, rfl, g, p' z hr⟩ hs
        · subst hz
          cases ho
      · cases h1
theorem sl_ok (hK : A.K = X.K) : SlR X (rSlice A) := by
  intro pins s σ H x v vl vu lo hi sl Q I rx hs p1 p2 h
  obtain ⟨m, S, dx, R, r1, p⟩ := h
  cases r1 <;> (try exact (show False from p).elim)
  · rename_i xs a vs t l
    refine sl_tupA pins s σ H _ v vl vu lo hi sl Q I rx hs p1 p2 ⟨_, _, rfl, hK ▸ t, fun e => ?_, fun _ q hq => ?_⟩
    · have e2 : cutL xs lo hi = xs := by
        unfold cutL
        rw [← l.length, e.1, e.2, Nat.sub_zero, List.drop_zero, l.length, List.take_length]
      refine p m H _ Ext.refl R ?_
      rw [e2]
      exact .tup t l
    · obtain ⟨a, b, c⟩ := newTup R (l.cut lo hi) hq
      exact p m _ _ b a c
  · rename_i xs a vs t l
    refine sl_list pins s σ H _ v vl vu lo hi sl Q I rx hs p1 p2 ⟨_, _, rfl, hK ▸ t.sq, fun q hq => ?_⟩
    obtain ⟨a, b, c⟩ := newLst R (l.cut lo hi) hq
    exact p _ _ _ b a c
  · rename_i i a e
    unfold sliceSem at p
    dsimp only at p
    split at p
    · rename_i xs hx
      obtain ⟨a1, v1, m1, g1, l1⟩ := R.lst hx
      rw [e] at m1; cases m1
      refine sl_list pins s σ H _ v vl vu lo hi sl Q I rx hs p1 p2 ⟨_, _, rfl, SqL.of g1, fun q hq => ?_⟩
      obtain ⟨a, b, c⟩ := newLst R (l1.cut lo hi) hq
      exact p _ _ _ b a c
    · exact p.elim
end
end DI

set_option Elab.async false
set_option linter.all false
set_option maxRecDepth 100000
set_option maxHeartbeats 4000000
/-! Built-ins and methods of built-in types upon values that the heap bears. -/
namespace DI
open L2 PySem PySem.Spec PyProof.Rows
def BI.val : BI → Value
  | .len => .builtin "len" | .int_ => .type "int" | .str_ => .type "str" | .abs_ => .builtin "abs" | .max1 => .builtin "max" | .max2 => .builtin "max" | .min1 => .builtin "min" | .min2 => .builtin "min"
  | .sum_ => .builtin "sum" | .all_ => .builtin "all" | .any_ => .builtin "any" | .list_ => .type "list" | .tuple_ => .type "tuple" | .isi => .builtin "isinstance"
theorem foldl_max_spec : ∀ (l : List Int) (a : Int), (l.foldl max a = a ∨ l.foldl max a ∈ l) ∧ a ≤ l.foldl max a ∧ ∀ y ∈ l, y ≤ l.foldl max a
  | [], a => ⟨.inl rfl, Int.le_refl _, fun _ h => nomatch h⟩
  | b :: l, a => by
    obtain ⟨h1, h2, h3⟩ := foldl_max_spec l (max a b)
    rw [List.foldl_cons]
    refine ⟨?_, by omega, fun y hy => ?_⟩
    · rcases h1 with h1 | h1
      · rw [h1]
        rcases Int.le_total a b with h | h
        · rw [Int.max_eq_right h]; exact .inr List.mem_cons_self
        · rw [Int.max_eq_left h]; exact .inl rfl
      · exact .inr (List.mem_cons_of_mem _ h1)
    · rcases List.mem_cons.mp hy with rfl | hy
      · omega
      · exact h3 y hy
theorem foldl_min_spec : ∀ (l : List Int) (a : Int), (l.foldl min a = a ∨ l.foldl min a ∈ l) ∧ l.foldl min a ≤ a ∧ ∀ y ∈ l, l.foldl min a ≤ y
  | [], a => ⟨.inl rfl, Int.le_refl _, fun _ h => nomatch h⟩
  | b :: l, a => by
    obtain ⟨h1, h2, h3⟩ := foldl_min_spec l (min a b)
    rw [List.foldl_cons]
    refine ⟨?_, by omega, fun y hy => ?_⟩
    · rcases h1 with h1 | h1
      · rw [h1]
        rcases Int.le_total a b with h | h
        · rw [Int.min_eq_left h]; exact .inl rfl
        · rw [Int.min_eq_right h]; exact .inr List.mem_cons_self
      · exact .inr (List.mem_cons_of_mem _ h1)
    · rcases List.mem_cons.mp hy with rfl | hy
      · omega
      · exact h3 y hy
theorem maxL_spec {l : List Int} {i : Int} (h : maxL l = some i) : i ∈ l ∧ (∀ y ∈ l, y ≤ i) ∧ 0 < l.length := by
  cases l with
  | nil => cases h
  | cons a r =>
    simp only [maxL, Option.some.injEq] at h
    subst h
    obtain ⟨h1, h2, h3⟩ := foldl_max_spec r a
    refine ⟨?_, fun y hy => ?_, Nat.succ_pos _⟩
    · rcases h1 with h1 | h1
      · rw [h1]; exact List.mem_cons_self
      · exact List.mem_cons_of_mem _ h1
    · rcases List.mem_cons.mp hy with rfl | hy
      · exact h2
      · exact h3 y hy
theorem minL_spec {l : List Int} {i : Int} (h : minL l = some i) : i ∈ l ∧ (∀ y ∈ l, i ≤ y) ∧ 0 < l.length := by
  cases l with
  | nil => cases h
  | cons a r =>
    simp only [minL, Option.some.injEq] at h
    subst h
    obtain ⟨h1, h2, h3⟩ := foldl_min_spec r a
    refine ⟨?_, fun y hy => ?_, Nat.succ_pos _⟩
    · rcases h1 with h1 | h1
      · rw [h1]; exact List.mem_cons_self
      · exact List.mem_cons_of_mem _ h1
    · rcases List.mem_cons.mp hy with rfl | hy
      · exact h2
      · exact h3 y hy
section
variable {X : Cx} {A : Ad} {m : List Addr} {S : Sto} {H : Hp} {p : Addr} {d : D} {v : V} {ds : List D} {vs : List V}
theorem list_of (R : Rep A m S H) (r : RepD A m H d v) (h : listD d S = some ds) : ∃ a vs, v = .ref a ∧ SqL A.K H a vs ∧ RepL A m H ds vs := by
  cases r <;> first | (cases h; done) | skip
  · rename_i t l
    simp only [listD] at h; cases h
    exact ⟨_, _, rfl, t.sq, l⟩
  · rename_i e
    simp only [listD] at h
    split at h
    · rename_i xs hx
      cases h
      obtain ⟨a1, v1, m1, g1, l1⟩ := R.lst hx
      rw [e] at m1; cases m1
      exact ⟨_, _, rfl, SqL.of g1, l1⟩
    · cases h
theorem seq_of (R : Rep A m S H) (r : RepD A m H d v) (h : seqD d S = some ds) : ∃ a vs, v = .ref a ∧ (SqL A.K H a vs ∨ SqT A.K H a vs) ∧ RepL A m H ds vs := by
  cases r <;> first | (cases h; done) | skip
  · rename_i t l
    simp only [seqD] at h; cases h
    exact ⟨_, _, rfl, .inr t, l⟩
  · rename_i t l
    simp only [seqD] at h; cases h
    exact ⟨_, _, rfl, .inl t.sq, l⟩
  · rename_i e
    simp only [seqD] at h
    split at h
    · rename_i xs hx
      cases h
      obtain ⟨a1, v1, m1, g1, l1⟩ := R.lst hx
      rw [e] at m1; cases m1
      exact ⟨_, _, rfl, .inl (SqL.of g1), l1⟩
    · cases h
theorem ints_of : ∀ {ds : List D} {vs : List V} {ns : List Int}, intsD ds = some ns → RepL A m H ds vs → vs = ns.map V.int
  | _, _, _, h, .nil => by simp only [intsD] at h; cases h; rfl
  | d :: ds, _, _, h, .cons a b => by
    cases a <;> first | (cases h; done) | skip
    simp only [intsD, Option.map_eq_some_iff] at h
    obtain ⟨ns, h1, rfl⟩ := h
    rw [List.map_cons, ints_of h1 b]
theorem bls_of : ∀ {ds : List D} {vs : List V} {ns : List Bool}, blsD ds = some ns → RepL A m H ds vs → vs = ns.map V.bl
  | _, _, _, h, .nil => by simp only [blsD] at h; cases h; rfl
  | d :: ds, _, _, h, .cons a b => by
    cases a <;> first | (cases h; done) | skip
    simp only [blsD, Option.map_eq_some_iff] at h
    obtain ⟨ns, h1, rfl⟩ := h
    rw [List.map_cons, bls_of h1 b]
theorem PO.at {r : Option (D × Sto)} {Q : VK} {d : D} {S' : Sto} (p : PO A m H r Q) (e : r = some (d, S')) : ∀ m' H' v, Ext A m H m' H' → Rep A m' S' H' → RepD A m' H' d v → Q v H' := by subst e; exact p
theorem RepL.one {vs : List V} (l : RepL A m H [d] vs) : ∃ v, vs = [v] ∧ RepD A m H d v := by cases l with | cons a b => cases b; exact ⟨_, rfl, a⟩
theorem RepL.two {e : D} {vs : List V} (l : RepL A m H [d, e] vs) : ∃ v w, vs = [v, w] ∧ RepD A m H d v ∧ RepD A m H e w := by
  cases l with | cons a b => obtain ⟨w, rfl, q⟩ := b.one; exact ⟨_, _, rfl, a, q⟩
theorem ty_of (R : Rep A m S H) (hK : A.K = X.K) (r : RepD A m H d v) {n : String} (h : tyName d S = some n) : TyX X.K H v (.type n) := by
  cases r with
  | non => cases h; exact .base .non
  | bl b => cases h; exact .base (.bl b)
  | int b => cases h; exact .base (.int b)
  | str b => cases h; exact .base (.str b)
  | ty b => cases h
  | fn b => cases h
  | cl b => cases h
  | tup t l =>
    cases h
    rcases t with (t | ⟨o, t⟩) | ⟨o, its, n, t, t2, _⟩
    · exact .base (.tup t)
    · exact .fTuple t
    · exact .kTuple (hK ▸ t) t2
  | rl t l =>
    cases h
    rcases t with ⟨o, t⟩ | t
    · exact .base (.frz t)
    · rcases t (fun _ => none) with (t | ⟨o, t⟩) | ⟨o, its, n, t, t2, _⟩
      · cases t
      · cases t
      · exact .kList (hK ▸ t) t2
  | loc e =>
    simp only [tyName] at h
    split at h <;> first | (cases h; done) | skip
    · rename_i hx
      cases h
      obtain ⟨a1, v1, m1, g1, l1⟩ := R.lst hx
      rw [e] at m1; cases m1
      exact .base (.lst g1)
    · rename_i hx
      cases h
      obtain ⟨a1, v1, m1, g1, l1⟩ := R.dk hx
      rw [e] at m1; cases m1
      exact .base (.dK g1)
    · rename_i hx
      cases h
      obtain ⟨a1, v1, m1, g1, l1⟩ := R.dt hx
      rw [e] at m1; cases m1
      exact .base (.dT g1)
theorem bi_ok (hK : A.K = X.K) (hc : X.calm = true) (b : BI) : CallR X b.val (rBi A b) := by
  intro pins s σ H xs us Q I rx h
  obtain ⟨m, S, ds, R, L, p⟩ := h
  cases b with
  | len =>
    cases L with
    | nil => exact p.elim
    | cons a b =>
    cases b with
    | cons _ _ => cases a <;> exact (show False from p).elim
    | nil =>
    cases a <;> (try exact (show False from p).elim)
    · unfold biSem at p
      dsimp only at p
      split at p
      · exact call_len pins s σ H _ us Q I rx ⟨_, _, rfl, ⟨by assumption, rfl⟩, p m H _ Ext.refl R (.int _)⟩
      · exact p.elim
    · rename_i t l
      exact call_len pins s σ H _ us Q I rx ⟨_, _, rfl, .inr ⟨_, hK ▸ t, rfl⟩, p m H _ Ext.refl R (by rw [l.length]; exact .int _)⟩
    · rename_i t l
      exact call_len pins s σ H _ us Q I rx ⟨_, _, rfl, .inl ⟨_, hK ▸ t.sq, rfl⟩, p m H _ Ext.refl R (by rw [l.length]; exact .int _)⟩
    · rename_i e
      unfold biSem at p
      dsimp only at p
      split at p
      · rename_i hx
        obtain ⟨a1, v1, m1, g1, l1⟩ := R.lst hx
        rw [e] at m1; cases m1
        exact call_len pins s σ H _ us Q I rx ⟨_, _, rfl, .inl ⟨_, SqL.of g1, rfl⟩, p m H _ Ext.refl R (by rw [l1.length]; exact .int _)⟩
      · rename_i hx
        obtain ⟨a1, v1, m1, g1, l1⟩ := R.dk hx
        rw [e] at m1; cases m1
        exact call_lenD pins s σ H _ us Q I rx ⟨_, _, rfl, g1, p m H _ Ext.refl R (by rw [l1.length]; exact .int _)⟩
      · exact p.elim
  | int_ =>
    cases L with
    | nil => exact p.elim
    | cons a b =>
    cases b with
    | cons _ _ => cases a <;> exact (show False from p).elim
    | nil =>
    cases a <;> (try exact (show False from p).elim)
    · exact call_int1 pins s σ H _ us Q I rx (.inr ⟨_, rfl, p m H _ Ext.refl R (.int _)⟩)
    · exact call_int1 pins s σ H _ us Q I rx (.inl ⟨_, rfl, p m H _ Ext.refl R (.int _)⟩)
  | str_ =>
    cases L with
    | nil => exact p.elim
    | cons a b =>
    cases b with
    | cons _ _ => cases a <;> exact (show False from p).elim
    | nil =>
    cases a <;> (try exact (show False from p).elim)
    unfold biSem at p
    dsimp only at p
    split at p
    · exact call_str_int pins s σ H _ us Q I rx ⟨_, rfl, by assumption, p m H _ Ext.refl R (.str _)⟩
    · exact p.elim
  | abs_ =>
    cases L with
    | nil => exact p.elim
    | cons a b =>
    cases b with
    | cons _ _ => cases a <;> exact (show False from p).elim
    | nil =>
    cases a <;> (try exact (show False from p).elim)
    exact call_abs pins s σ H _ us Q I rx ⟨_, rfl, p m H _ Ext.refl R (.int _)⟩
  | max2 =>
    cases L with
    | nil => exact p.elim
    | cons a b =>
    cases b with
    | nil => cases a <;> exact (show False from p).elim
    | cons b c =>
    cases c with
    | cons _ _ => cases a <;> (try exact (show False from p).elim) <;> cases b <;> exact (show False from p).elim
    | nil =>
    cases a <;> (try exact (show False from p).elim) <;> cases b <;> (try exact (show False from p).elim)
    rename_i i j
    refine call_max2 hc pins s σ H _ us Q I rx ⟨i, j, rfl, ?_⟩
    have e : (if j > i then j else i) = max i j := by split <;> omega
    rw [e]
    exact p m H _ Ext.refl R (.int _)
  | min2 =>
    cases L with
    | nil => exact p.elim
    | cons a b =>
    cases b with
    | nil => cases a <;> exact (show False from p).elim
    | cons b c =>
    cases c with
    | cons _ _ => cases a <;> (try exact (show False from p).elim) <;> cases b <;> exact (show False from p).elim
    | nil =>
    cases a <;> (try exact (show False from p).elim) <;> cases b <;> (try exact (show False from p).elim)
    rename_i i j
    refine call_min2 hc pins s σ H _ us Q I rx ⟨i, j, rfl, ?_⟩
    have e : (if j < i then j else i) = min i j := by split <;> omega
    rw [e]
    exact p m H _ Ext.refl R (.int _)
  | max1 =>
    cases L with
    | nil => exact p.elim
    | cons a b =>
    rename_i d ds v vs
    cases b with
    | cons _ _ => exact (show False from p).elim
    | nil =>
    cases e : (listD d S).bind fun xs => (intsD xs).bind maxL with
    | none =>
      have e' : biSem .max1 [d] S = none := by unfold biSem; dsimp only; rw [e]; rfl
      rw [e'] at p; exact p.elim
    | some i =>
      have e' : biSem .max1 [d] S = some (.int i, S) := by unfold biSem; dsimp only; rw [e]; rfl
      obtain ⟨xs, h1, h2⟩ := Option.bind_eq_some_iff.mp e
      obtain ⟨ns, h3, h4⟩ := Option.bind_eq_some_iff.mp h2
      obtain ⟨q, ws, rfl, hq, l⟩ := list_of R a h1
      have e2 := ints_of h3 l
      subst e2
      obtain ⟨g1, g2, g3⟩ := maxL_spec h4
      refine cr_max hc pins s σ H _ us Q I rx ⟨_, ns, rfl, hK ▸ hq, g3, fun k k1 k2 => ?_⟩
      have ek : k = i := Int.le_antisymm (g2 k k1) (k2 i g1)
      subst ek
      exact p.at e' m H _ Ext.refl R (.int _)
  | min1 =>
    cases L with
    | nil => exact p.elim
    | cons a b =>
    rename_i d ds v vs
    cases b with
    | cons _ _ => exact (show False from p).elim
    | nil =>
    cases e : (listD d S).bind fun xs => (intsD xs).bind minL with
    | none =>
      have e' : biSem .min1 [d] S = none := by unfold biSem; dsimp only; rw [e]; rfl
      rw [e'] at p; exact p.elim
    | some i =>
      have e' : biSem .min1 [d] S = some (.int i, S) := by unfold biSem; dsimp only; rw [e]; rfl
      obtain ⟨xs, h1, h2⟩ := Option.bind_eq_some_iff.mp e
      obtain ⟨ns, h3, h4⟩ := Option.bind_eq_some_iff.mp h2
      obtain ⟨q, ws, rfl, hq, l⟩ := list_of R a h1
      have e2 := ints_of h3 l
      subst e2
      obtain ⟨g1, g2, g3⟩ := minL_spec h4
      refine cr_min hc pins s σ H _ us Q I rx ⟨_, ns, rfl, hK ▸ hq, g3, fun k k1 k2 => ?_⟩
      have ek : k = i := Int.le_antisymm (k2 i g1) (g2 k k1)
      subst ek
      exact p.at e' m H _ Ext.refl R (.int _)
  | sum_ =>
    cases L with
    | nil => exact p.elim
    | cons a b =>
    rename_i d ds v vs
    cases b with
    | cons _ _ => exact (show False from p).elim
    | nil =>
    cases e : (listD d S).bind intsD with
    | none =>
      have e' : biSem .sum_ [d] S = none := by unfold biSem; dsimp only; rw [e]; rfl
      rw [e'] at p; exact p.elim
    | some ns =>
      have e' : biSem .sum_ [d] S = some (.int ns.sum, S) := by unfold biSem; dsimp only; rw [e]; rfl
      obtain ⟨xs, h1, h3⟩ := Option.bind_eq_some_iff.mp e
      obtain ⟨q, ws, rfl, hq, l⟩ := list_of R a h1
      have e2 := ints_of h3 l
      subst e2
      exact cr_sum hc pins s σ H _ us Q I rx ⟨_, ns, rfl, hK ▸ hq, p.at e' m H _ Ext.refl R (.int _)⟩
  | all_ =>
    cases L with
    | nil => exact p.elim
    | cons a b =>
    rename_i d ds v vs
    cases b with
    | cons _ _ => exact (show False from p).elim
    | nil =>
    cases e : (listD d S).bind blsD with
    | none =>
      have e' : biSem .all_ [d] S = none := by unfold biSem; dsimp only; rw [e]; rfl
      rw [e'] at p; exact p.elim
    | some ns =>
      have e' : biSem .all_ [d] S = some (.bl (ns.all id), S) := by unfold biSem; dsimp only; rw [e]; rfl
      obtain ⟨xs, h1, h3⟩ := Option.bind_eq_some_iff.mp e
      obtain ⟨q, ws, rfl, hq, l⟩ := list_of R a h1
      have e2 := bls_of h3 l
      subst e2
      exact cr_all hc pins s σ H _ us Q I rx ⟨_, ns, rfl, hK ▸ hq, p.at e' m H _ Ext.refl R (.bl _)⟩
  | any_ =>
    cases L with
    | nil => exact p.elim
    | cons a b =>
    rename_i d ds v vs
    cases b with
    | cons _ _ => exact (show False from p).elim
    | nil =>
    cases e : (listD d S).bind blsD with
    | none =>
      have e' : biSem .any_ [d] S = none := by unfold biSem; dsimp only; rw [e]; rfl
      rw [e'] at p; exact p.elim
    | some ns =>
      have e' : biSem .any_ [d] S = some (.bl (ns.any id), S) := by unfold biSem; dsimp only; rw [e]; rfl
      obtain ⟨xs, h1, h3⟩ := Option.bind_eq_some_iff.mp e
      obtain ⟨q, ws, rfl, hq, l⟩ := list_of R a h1
      have e2 := bls_of h3 l
      subst e2
      exact cr_any hc pins s σ H _ us Q I rx ⟨_, ns, rfl, hK ▸ hq, p.at e' m H _ Ext.refl R (.bl _)⟩
  | list_ =>
    cases L with
    | nil => exact p.elim
    | cons a b =>
    rename_i d ds v vs
    cases b with
    | cons _ _ => exact (show False from p).elim
    | nil =>
    cases e : seqD d S with
    | none =>
      have e' : biSem .list_ [d] S = none := by unfold biSem; dsimp only; rw [e]; rfl
      rw [e'] at p; exact p.elim
    | some xs =>
      have e' : biSem .list_ [d] S = some (.loc S.length, S ++ [.lst xs]) := by unfold biSem; dsimp only; rw [e]; rfl
      obtain ⟨q, ws, rfl, hq, l⟩ := seq_of R a e
      refine call_list_of pins s σ H _ us Q I rx ⟨_, ws, rfl, hK ▸ hq, fun z hz => ?_⟩
      obtain ⟨a, b, c⟩ := newLst R l hz
      exact p.at e' _ _ _ b a c
  | tuple_ =>
    cases L with
    | nil => exact p.elim
    | cons a b =>
    rename_i d ds v vs
    cases b with
    | cons _ _ => exact (show False from p).elim
    | nil =>
    cases e : seqD d S with
    | none =>
      have e' : biSem .tuple_ [d] S = none := by unfold biSem; dsimp only; rw [e]; rfl
      rw [e'] at p; exact p.elim
    | some xs =>
      have e' : biSem .tuple_ [d] S = some (.tup xs, S) := by unfold biSem; dsimp only; rw [e]; rfl
      obtain ⟨q, ws, rfl, hq, l⟩ := seq_of R a e
      refine call_tuple_of pins s σ H _ us Q I rx ⟨_, ws, rfl, ?_⟩
      rcases hq with hq | hq
      · refine .inl ⟨hK ▸ hq, fun z hz => ?_⟩
        obtain ⟨a, b, c⟩ := newTup R l hz
        exact p.at e' _ _ _ b a c
      · exact .inr ⟨hK ▸ hq, p.at e' m H _ Ext.refl R (.tup hq l)⟩
  | isi =>
    cases L with
    | nil => exact p.elim
    | cons a b =>
    rename_i d ds v vs
    cases b with
    | nil => exact (show False from p).elim
    | cons b c =>
    cases c with
    | cons _ _ => cases b <;> exact (show False from p).elim
    | nil =>
    cases b <;> (try exact (show False from p).elim)
    rename_i n
    cases e : (tyName d S).bind fun t => (kitB t n).map fun b => ((.bl b, S) : D × Sto) with
    | none =>
      have e' : biSem .isi [d, .ty n] S = none := by unfold biSem; dsimp only; rw [e]
      rw [e'] at p; exact p.elim
    | some r =>
      have e' : biSem .isi [d, .ty n] S = some r := by unfold biSem; dsimp only; rw [e]
      obtain ⟨t, h1, h2⟩ := Option.bind_eq_some_iff.mp e
      obtain ⟨k, h3, rfl⟩ := Option.map_eq_some_iff.mp h2
      exact call_isi pins s σ H _ us Q I rx ⟨_, _, _, _, k, rfl, .ty n, ty_of R hK a h1, kit_ty h3, p.at e' m H _ Ext.refl R (.bl _)⟩
def BM.id : BM → String
  | .append => "list.append" | .extend => "list.extend" | .pop => "list.pop" | .reverse => "list.reverse"
theorem bm_ok (b : BM) : MtR X b.id (rBm A b) := by
  intro pins s σ H x xs v us Q I rx rxs h
  obtain ⟨m, S, dx, ds, R, r1, L, p⟩ := h
  cases r1 <;> (try exact (show False from p).elim)
  rename_i i a e
  unfold bmSem at p
  dsimp only at p
  split at p
  · rename_i ys hx
    obtain ⟨a1, v1, m1, g1, l1⟩ := R.lst hx
    rw [e] at m1; cases m1
    split at p
    · rename_i d
      obtain ⟨w, rfl, rw⟩ := L.one
      split at p
      · obtain ⟨a, b⟩ := R.setLst e g1 (l1.app L)
        exact mt_append pins s σ H _ _ v us Q I rx rxs ⟨_, _, _, rfl, rfl, g1, by rw [l1.length]; assumption, p m _ _ b a .non⟩
      · exact p.elim
    · rename_i c
      obtain ⟨w, rfl, rw'⟩ := L.one
      split at p
      · rename_i zs hz
        obtain ⟨a2, v2, m2, g2, l2⟩ := R.lst hz
        cases rw' with
        | loc e2 =>
        rw [e2] at m2; cases m2
        split at p
        · obtain ⟨a, b⟩ := R.setLst e g1 (l1.app l2)
          exact mt_extend pins s σ H _ _ v us Q I rx rxs ⟨_, _, _, _, rfl, rfl, g1, g2, by rw [l1.length, l2.length]; assumption, p m _ _ b a .non⟩
        · exact p.elim
      · exact p.elim
    · cases L
      cases hl : ys[ys.length - 1]? with
      | none => rw [hl] at p; exact p.elim
      | some d =>
        rw [hl] at p
        obtain ⟨w, h1, h2⟩ := l1.get hl
        obtain ⟨a, b⟩ := R.setLst e g1 l1.dropLast
        exact mt_pop pins s σ H _ _ v us Q I rx rxs ⟨_, _, w, rfl, rfl, g1, by rw [l1.length]; exact h1, p m _ _ b a (h2.mono b)⟩
    · cases L
      obtain ⟨a, b⟩ := R.setLst e g1 l1.rev
      exact mt_reverse pins s σ H _ _ v us Q I rx rxs ⟨_, _, rfl, rfl, g1, p m _ _ b a .non⟩
    · exact p.elim
  · exact p.elim
theorem seti_ok (hu : X.A.units + 1 < cLine) : PSet X (rSetI A) := by
  intro pins s σ H o i v ov iv u Q I ro ri rv h
  obtain ⟨m, S, dx, dy, d, R, r1, r2, r3, p⟩ := h
  cases r1 <;> (try exact (show False from p).elim)
  rename_i k a e
  cases hs : setSem (.loc k) dy d S with
  | none => rw [hs] at p; exact p.elim
  | some S' =>
    rw [hs] at p
    simp only [setSem] at hs
    split at hs
    · rename_i xs j hx
      obtain ⟨n, h1, rfl⟩ := Option.map_eq_some_iff.mp hs
      obtain ⟨a1, v1, m1, g1, l1⟩ := R.lst hx
      rw [e] at m1; cases m1
      cases r2
      obtain ⟨a, b⟩ := R.setLst e g1 (l1.set r3 n)
      exact set_list pins s σ H _ _ v ov iv u Q I ro ri rv ⟨_, _, _, n, rfl, rfl, g1, by rw [l1.length]; exact h1, p m _ b a⟩
    · rename_i kvs j hx
      split at hs
      · cases hs
        obtain ⟨a1, ws, m1, g1, l1⟩ := R.dk hx
        rw [e] at m1; cases m1
        cases r2
        obtain rfl : ov = Value.ref _ := ro
        have ex : Ext A m H m (upd H a (.dK (putK ws (.inl j) v))) := Ext.write g1 (fun _ z => by cases z) fun _ _ z => by cases z
        have R' := R.write (o := .dK (putK ws (.inl j) v)) (c := .dk (putD kvs (.inl j) d)) e ex (.dk upd_same (RepK.mono ex (l1.put r3)))
        exact d_setItem hu I (DPut.k (k := .inl j) g1 (by rw [l1.length]; assumption)) ri rv fun s' I' => ⟨_, I', p m _ ex R'⟩
      · cases hs
    · rename_i kvs j hx
      split at hs
      · cases hs
        obtain ⟨a1, ws, m1, g1, l1⟩ := R.dk hx
        rw [e] at m1; cases m1
        cases r2
        obtain rfl : ov = Value.ref _ := ro
        have ex : Ext A m H m (upd H a (.dK (putK ws (.inr j) v))) := Ext.write g1 (fun _ z => by cases z) fun _ _ z => by cases z
        have R' := R.write (o := .dK (putK ws (.inr j) v)) (c := .dk (putD kvs (.inr j) d)) e ex (.dk upd_same (RepK.mono ex (l1.put r3)))
        exact d_setItem hu I (DPut.k (k := .inr j) g1 (by rw [l1.length]; assumption)) ri rv fun s' I' => ⟨_, I', p m _ ex R'⟩
      · cases hs
    · cases hs
end
end DI

set_option Elab.async false
set_option linter.all false
set_option maxRecDepth 100000
set_option maxHeartbeats 4000000
/-! The layer's judgements by what the language says: one lemma a construct. -/
namespace DI
open L2 PySem PySem.Spec PyProof.Rows

inductive RepX (A : Ad) (m : List Addr) (H : Hp) : Option (List (Str × D)) → Option Addr → Prop
  | no : RepX A m H none none
  | so {fs : List (Str × D)} {d : Addr} {ws : List (Str × V)} : H d = some (.xd ws) → RepK A m H fs ws → RepX A m H (some fs) (some d)
def RepS (A : Ad) (m : List Addr) (H : Hp) (σD : Sl) (σ : L2.St) : Prop := σ.length = σD.length ∧ ∀ (i : Nat) (d : D), σD[i]? = some (some d) → ∃ v, σ[i]? = some (some v) ∧ RepD A m H d v
def Post {α β : Type} (A : Ad) (E : XK) (R : List Addr → Hp → α → β → Prop) (m : List Addr) (H : Hp) (o : Out α) (Q : β → Hp → Prop) : Prop :=
  match o with
  | .ok a S' => ∀ m' H' b, Ext A m H m' H' → Rep A m' S' H' → R m' H' a b → Q b H'
  | .err c fs S' => ∀ m' H' dd, Ext A m H m' H' → Rep A m' S' H' → RepX A m' H' fs dd → E (.ref (A.cl c)) dd H'
  | .bad => False
def tG {α β : Type} (A : Ad) (E : XK) (R : List Addr → Hp → α → β → Prop) (f : Sl → Sto → Out α) : L2.St → Hp → (β → Hp → Prop) → Prop :=
  fun σ H Q => ∃ m S σD, Rep A m S H ∧ RepS A m H σD σ ∧ Post A E R m H (f σD S) Q
abbrev tE (A : Ad) (E : XK) (f : Sl → Sto → Out D) : TE := tG A E (RepD A) f
def RB : List Addr → Hp → D → Bool → Prop := fun _ _ d b => d = .bl b
abbrev tT (A : Ad) (E : XK) (f : Sl → Sto → Out D) : TT := tG A E RB f
abbrev tAs (A : Ad) (E : XK) (f : Sl → Sto → Out (List D)) : TA := tG A E (RepL A) f
def RO : List Addr → Hp → Option Int → Option Int → Prop := fun _ _ d b => d = b
abbrev tOx (A : Ad) (E : XK) (f : Sl → Sto → Out (Option Int)) : TO := tG A E RO f

section
variable {α β γ δ : Type} {A : Ad} {E : XK} {R1 : List Addr → Hp → α → β → Prop} {R2 : List Addr → Hp → γ → δ → Prop} {m m' : List Addr} {H H' : Hp} {o : Out α} {S : Sto}
theorem RepS.mono {σD : Sl} {σ : L2.St} (h : RepS A m H σD σ) (e : Ext A m H m' H') : RepS A m' H' σD σ := ⟨h.1, fun i d x => let ⟨v, a, b⟩ := h.2 i d x; ⟨v, a, b.mono e⟩⟩
theorem RepS.set {σD : Sl} {σ : L2.St} (h : RepS A m H σD σ) {d : D} {v : V} (r : RepD A m H d v) (i : Nat) : RepS A m H (σD.set i (some d)) (σ.set i (some v)) := by
  refine ⟨by rw [List.length_set, List.length_set]; exact h.1, fun j e hj => ?_⟩
  by_cases c : i = j
  · subst c
    have hl : i < σD.length := by
      have := (List.getElem?_eq_some_iff.mp hj).1
      rwa [List.length_set] at this
    rw [List.getElem?_set_self hl] at hj
    cases hj
    exact ⟨v, by rw [List.getElem?_set_self (by rw [h.1]; exact hl)], r⟩
  · rw [List.getElem?_set_ne c] at hj
    rw [List.getElem?_set_ne c]
    exact h.2 j e hj
theorem RepS.none {σD : Sl} {σ : L2.St} (h : RepS A m H σD σ) (i : Nat) : RepS A m H (σD.set i none) (σ.set i none) := by
  refine ⟨by rw [List.length_set, List.length_set]; exact h.1, fun j e hj => ?_⟩
  by_cases c : i = j
  · subst c
    have hl : i < σD.length := by
      have := (List.getElem?_eq_some_iff.mp hj).1
      rwa [List.length_set] at this
    rw [List.getElem?_set_self hl] at hj
    cases hj
  · rw [List.getElem?_set_ne c] at hj
    rw [List.getElem?_set_ne c]
    exact h.2 j e hj
theorem RepS.wipe {σD : Sl} {σ : L2.St} (h : RepS A m H σD σ) : ∀ vs : List Nat, RepS A m H (wipeD σD vs) (L2.wipe σ vs)
  | [] => h
  | v :: vs => (RepS.wipe h vs).none v
theorem Post.mono {Q Q' : β → Hp → Prop} (p : Post A E R1 m H o Q) (h : ∀ b H', Q b H' → Q' b H') : Post A E R1 m H o Q' := by
  cases o with
  | ok a S => exact fun m' H' b e r x => h _ _ (p m' H' b e r x)
  | err c fs S => exact p
  | bad => exact p
theorem Post.base {Q : β → Hp → Prop} (p : Post A E R1 m H o Q) (e : Ext A m H m' H') : Post A E R1 m' H' o Q := by
  cases o with
  | ok a S => exact fun m2 H2 b e2 r x => p m2 H2 b (e.trans e2) r x
  | err c fs S => exact fun m2 H2 b e2 r x => p m2 H2 b (e.trans e2) r x
  | bad => exact p
theorem Post.seq {f : α → Sto → Out γ} {Q : δ → Hp → Prop} (p : Post A E R2 m H (o.bind f) Q) :
    Post A E R1 m H o (fun b H1 => ∃ m1 S1 a, Ext A m H m1 H1 ∧ Rep A m1 S1 H1 ∧ R1 m1 H1 a b ∧ Post A E R2 m1 H1 (f a S1) Q) := by
  cases o with
  | ok a S => exact fun m1 H1 b e r x => ⟨m1, S, a, e, r, x, Post.base (o := f a S) p e⟩
  | err c fs S => exact p
  | bad => exact p
theorem Post.po {r : Option (D × Sto)} {Q : VK} (p : Post A E (RepD A) m H (.of r) Q) : PO A m H r Q := by
  cases r with
  | none => exact p
  | some z => exact p
theorem Post.pd (R : Rep A m S H) {r : Option D} {Q : VK} (p : Post A E (RepD A) m H (.at S r) Q) : PD A m H r Q := by
  cases r with
  | none => exact p
  | some z => exact fun v rv => p m H v Ext.refl R rv
theorem Post.pb (R : Rep A m S H) {r : Option Bool} {Q : VK} (p : Post A E (RepD A) m H (.at S (r.map D.bl)) Q) : PB r fun b => Q (.bl b) H := by
  cases r with
  | none => exact p
  | some z => exact p m H _ Ext.refl R (.bl z)
theorem Post.pt (R : Rep A m S H) {r : Option Bool} {Q : Bool → Hp → Prop} (p : Post A E RB m H (.at S (r.map D.bl)) Q) : PB r fun b => Q b H := by
  cases r with
  | none => exact p
  | some z => exact p m H _ Ext.refl R rfl
theorem Post.ok (R : Rep A m S H) {a : α} {b : β} {Q : β → Hp → Prop} (p : Post A E R1 m H (.ok a S) Q) (r : R1 m H a b) : Q b H := p m H b Ext.refl R r
end
theorem PEi {X : Cx} {e : Expr} {t t' : TE} (h : PE X e t) (i : ∀ σ H Q, t' σ H Q → t σ H Q) : PE X e t' := ⟨fun pins s σ H Q I hw => h.run pins s σ H Q I (i _ _ _ hw)⟩
theorem PTi {X : Cx} {e : Expr} {t t' : TT} (h : PT X e t) (i : ∀ σ H Q, t' σ H Q → t σ H Q) : PT X e t' := ⟨fun pins s σ H Q I hw => h.run pins s σ H Q I (i _ _ _ hw)⟩
theorem PWi {X : Cx} {e : Expr} {t t' : TT} (h : PW X e t) (i : ∀ σ H Q, t' σ H Q → t σ H Q) : PW X e t' := ⟨fun wh pins s σ H Q I hw => h.run wh pins s σ H Q I (i _ _ _ hw)⟩
theorem PAi {X : Cx} {e : List Expr} {t t' : TA} (h : PA X e t) (i : ∀ σ H Q, t' σ H Q → t σ H Q) : PA X e t' := ⟨fun pos pins s σ H Q I hw => h.run pos pins s σ H Q I (i _ _ _ hw)⟩
theorem PSi {X : Cx} {e : Stmt} {t t' : TS} (h : PS X e t) (i : ∀ D σ H, t' D σ H → t D σ H) : PS X e t' := ⟨fun pins s σ H D I hw => h.run pins s σ H D I (i _ _ _ hw)⟩
theorem PSsi {X : Cx} {e : List Stmt} {t t' : TS} (h : PSs X e t) (i : ∀ D σ H, t' D σ H → t D σ H) : PSs X e t' := ⟨fun pins s σ H D I hw => h.run pins s σ H D I (i _ _ _ hw)⟩

section
variable {X : Cx} {A : Ad} {E : XK} {a b c : Expr} {fa fb fc : Sl → Sto → Out D} {pos : Pos}
theorem s_cst {d : D} {v : V} {e : Expr} (h : PE X e (tC v)) (r : ∀ m H, RepD A m H d v) : PE X e (tE A E fun _ S => .ok d S) :=
  PEi h fun σ H Q ⟨m, S, σD, R, Rs, p⟩ => p.ok R (r m H)
theorem s_var {i : Nat} {x : Str} (h : PE X (.Name x pos) (tVar i)) : PE X (.Name x pos) (tE A E fun σ S => match σ[i]? with | some (some d) => .ok d S | _ => .bad) :=
  PEi h fun σ H Q ⟨m, S, σD, R, Rs, p⟩ => by
    dsimp only at p
    split at p
    · rename_i d hd
      obtain ⟨v, h1, h2⟩ := Rs.2 i d hd
      exact ⟨v, h1, p.ok R h2⟩
    · exact p.elim
theorem s_bin (hK : A.K = X.K) {o : Operator} (ha : PE X a (tE A E fa)) (hb : PE X b (tE A E fb)) :
    PE X (.BinOp a o b pos) (tE A E fun σ S => (fa σ S).bind fun x S => (fb σ S).bind fun y S => .of (opSem o x y S)) :=
  PEi (pe_op (op_ok hK o) ha hb) fun σ H Q ⟨m, S, σD, R, Rs, p⟩ =>
    ⟨m, S, σD, R, Rs, p.seq.mono fun x H1 ⟨m1, S1, dx, e1, R1, rx, p1⟩ => ⟨m1, S1, σD, R1, Rs.mono e1, p1.seq.mono fun y H2 ⟨m2, S2, dy, e2, R2, ry, p2⟩ => ⟨m2, S2, dx, dy, R2, rx.mono e2, ry, p2.po⟩⟩⟩
theorem s_neg (ha : PE X a (tE A E fa)) : PE X (.UnaryOp .USub a pos) (tE A E fun σ S => (fa σ S).bind fun x S => match x with | .int i => .ok (.int (-i)) S | _ => .bad) :=
  PEi (pe_un un_neg ha) fun σ H Q ⟨m, S, σD, R, Rs, p⟩ => ⟨m, S, σD, R, Rs, p.seq.mono fun x H1 ⟨m1, S1, dx, e1, R1, rx, p1⟩ => by
    cases rx <;> (try exact (show False from p1).elim)
    exact ⟨_, rfl, p1.ok R1 (.int _)⟩⟩
theorem s_cmp (hK : A.K = X.K) (hu : X.A.units + 64 < cLine) {o : CmpOp} (ha : PE X a (tE A E fa)) (hb : PE X b (tE A E fb)) (hm : behindInMarks o b = false) :
    PE X (.Compare a [o] [b] pos) (tE A E fun σ S => (fa σ S).bind fun x S => (fb σ S).bind fun y S => .at S ((cmpSem o x y S).map D.bl)) :=
  PEi (pe_cmpR (cmp_ok hK hu o) ha hb hm) fun σ H Q ⟨m, S, σD, R, Rs, p⟩ =>
    ⟨m, S, σD, R, Rs, p.seq.mono fun x H1 ⟨m1, S1, dx, e1, R1, rx, p1⟩ => ⟨m1, S1, σD, R1, Rs.mono e1, p1.seq.mono fun y H2 ⟨m2, S2, dy, e2, R2, ry, p2⟩ => ⟨m2, S2, dx, dy, R2, rx.mono e2, ry, p2.pb R2⟩⟩⟩
theorem s_cmpT (hK : A.K = X.K) (hu : X.A.units + 64 < cLine) {o : CmpOp} (ha : PE X a (tE A E fa)) (hb : PE X b (tE A E fb)) (hm : behindInMarks o b = false) :
    PT X (.Compare a [o] [b] pos) (tT A E fun σ S => (fa σ S).bind fun x S => (fb σ S).bind fun y S => .at S ((cmpSem o x y S).map D.bl)) :=
  PTi (pt_cmpR (cmp_ok hK hu o) ha hb hm) fun σ H Q ⟨m, S, σD, R, Rs, p⟩ =>
    ⟨m, S, σD, R, Rs, p.seq.mono fun x H1 ⟨m1, S1, dx, e1, R1, rx, p1⟩ => ⟨m1, S1, σD, R1, Rs.mono e1, p1.seq.mono fun y H2 ⟨m2, S2, dy, e2, R2, ry, p2⟩ => ⟨m2, S2, dx, dy, R2, rx.mono e2, ry, by
      have q := p2.pt R2
      cases hc : cmpSem o dx dy S2 with
      | none => rw [hc] at q; exact q
      | some k => rw [hc] at q; exact ⟨k, rfl, q⟩⟩⟩⟩
theorem s_chn (hK : A.K = X.K) (hu : X.A.units + 64 < cLine) {o o' : CmpOp} (ha : PE X a (tE A E fa)) (hb : PE X b (tE A E fb)) (hc : PE X c (tE A E fc)) (hm : lastMarks [o, o'] [b, c] = false) :
    PE X (.Compare a [o, o'] [b, c] pos) (tE A E fun σ S => (fa σ S).bind fun x S => (fb σ S).bind fun y S => match cmpSem o x y S with
      | some true => (fc σ S).bind fun z S => .at S ((cmpSem o' y z S).map D.bl)
      | some false => .ok (.bl false) S
      | none => .bad) :=
  PEi (pe_chain (cmp_ok hK hu o) (cmp_ok hK hu o') ha hb hc hm) fun σ H Q ⟨m, S, σD, R, Rs, p⟩ =>
    ⟨m, S, σD, R, Rs, p.seq.mono fun x H1 ⟨m1, S1, dx, e1, R1, rx, p1⟩ => ⟨m1, S1, σD, R1, Rs.mono e1, p1.seq.mono fun y H2 ⟨m2, S2, dy, e2, R2, ry, p2⟩ => ⟨m2, S2, dx, dy, R2, rx.mono e2, ry, by
      cases hc : cmpSem o dx dy S2 with
      | none => rw [hc] at p2; exact p2
      | some k =>
        rw [hc] at p2
        refine ⟨k, rfl, ?_⟩
        cases k with
        | false => exact iteF (p2.ok R2 (.bl false))
        | true =>
          exact iteT ⟨m2, S2, σD, R2, Rs.mono (e1.trans e2), (Post.seq p2).mono fun z H3 ⟨m3, S3, dz, e3, R3, rz, p3⟩ => ⟨m3, S3, dy, dz, R3, ry.mono e3, rz, p3.pb R3⟩⟩⟩⟩⟩
theorem s_chnT (hK : A.K = X.K) (hu : X.A.units + 64 < cLine) {o o' : CmpOp} (ha : PE X a (tE A E fa)) (hb : PE X b (tE A E fb)) (hc : PE X c (tE A E fc)) (hm : lastMarks [o, o'] [b, c] = false) :
    PT X (.Compare a [o, o'] [b, c] pos) (tT A E fun σ S => (fa σ S).bind fun x S => (fb σ S).bind fun y S => match cmpSem o x y S with
      | some true => (fc σ S).bind fun z S => .at S ((cmpSem o' y z S).map D.bl)
      | some false => .ok (.bl false) S
      | none => .bad) :=
  PTi (pt_chain (cmp_ok hK hu o) (cmp_ok hK hu o') ha hb hc hm) fun σ H Q ⟨m, S, σD, R, Rs, p⟩ =>
    ⟨m, S, σD, R, Rs, p.seq.mono fun x H1 ⟨m1, S1, dx, e1, R1, rx, p1⟩ => ⟨m1, S1, σD, R1, Rs.mono e1, p1.seq.mono fun y H2 ⟨m2, S2, dy, e2, R2, ry, p2⟩ => ⟨m2, S2, dx, dy, R2, rx.mono e2, ry, by
      cases hc : cmpSem o dx dy S2 with
      | none => rw [hc] at p2; exact p2
      | some k =>
        rw [hc] at p2
        refine ⟨k, rfl, ?_⟩
        cases k with
        | false => exact iteF ⟨false, rfl, p2.ok R2 rfl⟩
        | true =>
          exact iteT ⟨m2, S2, σD, R2, Rs.mono (e1.trans e2), (Post.seq p2).mono fun z H3 ⟨m3, S3, dz, e3, R3, rz, p3⟩ => ⟨m3, S3, dy, dz, R3, ry.mono e3, rz, by
            have q := p3.pt R3
            cases hc : cmpSem o' dy dz S3 with
            | none => rw [hc] at q; exact q
            | some k => rw [hc] at q; exact ⟨k, rfl, q⟩⟩⟩⟩⟩⟩
/-- a plain expression as a test -/
theorem s_plain (hK : A.K = X.K) {e : Expr} {f : Sl → Sto → Out D} (h : PE X e (tE A E f)) (he : ∀ whole, isTrue e X.env whole = (do let v ← whole; standAt e.pos; holding [v] (truthy v))) :
    PT X e (tT A E fun σ S => fin true (f σ S)) :=
  PTi (pt_truth h he) fun σ H Q ⟨m, S, σD, R, Rs, p⟩ => ⟨m, S, σD, R, Rs, (Post.seq (f := fun d S => .at S ((truSem d S).map D.bl)) p).mono fun x H1 ⟨m1, S1, dx, e1, R1, rx, p1⟩ => by
    have q := p1.pt R1
    cases hc : truSem dx S1 with
    | none => rw [hc] at q; exact q.elim
    | some k => rw [hc] at q; exact ⟨k, tru_of hK R1 rx hc, q⟩⟩
theorem s_not (hK : A.K = X.K) (ha : PE X a (tE A E fa)) : PE X (.UnaryOp .Not a pos) (tE A E fun σ S => (fa σ S).bind fun x S => .at S ((truSem x S).map fun b => D.bl (!b))) :=
  PEi (pe_notT ha) fun σ H Q ⟨m, S, σD, R, Rs, p⟩ => ⟨m, S, σD, R, Rs, p.seq.mono fun x H1 ⟨m1, S1, dx, e1, R1, rx, p1⟩ => by
    cases hc : truSem dx S1 with
    | none => rw [hc] at p1; exact p1.elim
    | some k => rw [hc] at p1; exact ⟨k, tru_of hK R1 rx hc, p1.ok R1 (.bl _)⟩⟩
theorem s_notT (ha : PT X a (tT A E fa)) : PT X (.UnaryOp .Not a pos) (tT A E fun σ S => (fa σ S).bind fun x S => .at S ((truSem x S).map fun b => D.bl (!b))) :=
  PTi (pt_not ha) fun σ H Q ⟨m, S, σD, R, Rs, p⟩ => ⟨m, S, σD, R, Rs, p.seq.mono fun x H1 ⟨m1, S1, dx, e1, R1, rx, p1⟩ => by
    have e : dx = .bl x := rx
    subst e
    exact p1.ok R1 rfl⟩
theorem s_and (hK : A.K = X.K) {es : List Expr} (ha : PE X a (tE A E fa)) (hb : PE X (.BoolOp .And (b :: es) pos) (tE A E fb)) :
    PE X (.BoolOp .And (a :: b :: es) pos) (tE A E fun σ S => (fa σ S).bind fun x S => match truSem x S with | some true => fb σ S | some false => .ok x S | none => .bad) :=
  PEi (pe_andT ha hb) fun σ H Q ⟨m, S, σD, R, Rs, p⟩ => ⟨m, S, σD, R, Rs, p.seq.mono fun x H1 ⟨m1, S1, dx, e1, R1, rx, p1⟩ => by
    cases hc : truSem dx S1 with
    | none => rw [hc] at p1; exact p1.elim
    | some k =>
      rw [hc] at p1
      refine ⟨k, tru_of hK R1 rx hc, ?_⟩
      cases k with
      | false => exact iteF (p1.ok R1 rx)
      | true => exact iteT ⟨m1, S1, σD, R1, Rs.mono e1, p1⟩⟩
theorem s_or (hK : A.K = X.K) {es : List Expr} (ha : PE X a (tE A E fa)) (hb : PE X (.BoolOp .Or (b :: es) pos) (tE A E fb)) :
    PE X (.BoolOp .Or (a :: b :: es) pos) (tE A E fun σ S => (fa σ S).bind fun x S => match truSem x S with | some true => .ok x S | some false => fb σ S | none => .bad) :=
  PEi (pe_orT ha hb) fun σ H Q ⟨m, S, σD, R, Rs, p⟩ => ⟨m, S, σD, R, Rs, p.seq.mono fun x H1 ⟨m1, S1, dx, e1, R1, rx, p1⟩ => by
    cases hc : truSem dx S1 with
    | none => rw [hc] at p1; exact p1.elim
    | some k =>
      rw [hc] at p1
      refine ⟨k, tru_of hK R1 rx hc, ?_⟩
      cases k with
      | true => exact iteT (p1.ok R1 rx)
      | false => exact iteF ⟨m1, S1, σD, R1, Rs.mono e1, p1⟩⟩
theorem s_andT {es : List Expr} (ha : PT X a (tT A E fa)) (hb : PW X (.BoolOp .And (b :: es) pos) (tT A E fb)) :
    PW X (.BoolOp .And (a :: b :: es) pos) (tT A E fun σ S => (fa σ S).bind fun x S => match truSem x S with | some true => fb σ S | some false => .ok x S | none => .bad) :=
  PWi (pw_and ha hb) fun σ H Q ⟨m, S, σD, R, Rs, p⟩ => ⟨m, S, σD, R, Rs, p.seq.mono fun x H1 ⟨m1, S1, dx, e1, R1, rx, p1⟩ => by
    have e : dx = .bl x := rx
    subst e
    cases x with
    | false => exact iteF (p1.ok R1 rfl)
    | true => exact iteT ⟨m1, S1, σD, R1, Rs.mono e1, p1⟩⟩
theorem s_orT {es : List Expr} (ha : PT X a (tT A E fa)) (hb : PW X (.BoolOp .Or (b :: es) pos) (tT A E fb)) :
    PW X (.BoolOp .Or (a :: b :: es) pos) (tT A E fun σ S => (fa σ S).bind fun x S => match truSem x S with | some true => .ok x S | some false => fb σ S | none => .bad) :=
  PWi (pw_or ha hb) fun σ H Q ⟨m, S, σD, R, Rs, p⟩ => ⟨m, S, σD, R, Rs, p.seq.mono fun x H1 ⟨m1, S1, dx, e1, R1, rx, p1⟩ => by
    have e : dx = .bl x := rx
    subst e
    cases x with
    | true => exact iteT (p1.ok R1 rfl)
    | false => exact iteF ⟨m1, S1, σD, R1, Rs.mono e1, p1⟩⟩
theorem Post.tst {γ δ : Type} {R2 : List Addr → Hp → γ → δ → Prop} {m : List Addr} {H : Hp} {o : Out D} {f : Bool → Sto → Out γ} {Q : δ → Hp → Prop} (p : Post A E R2 m H ((tstO o).bind f) Q) :
    Post A E RB m H o (fun b H1 => ∃ m1 S1, Ext A m H m1 H1 ∧ Rep A m1 S1 H1 ∧ Post A E R2 m1 H1 (f b S1) Q) := by
  cases o with
  | ok d S1 =>
    intro m1 H1 x e1 R1 rx
    have e : d = .bl x := rx
    subst e
    exact ⟨m1, S1, e1, R1, Post.base (o := f x S1) p e1⟩
  | err c fs S1 => exact p
  | bad => exact p
theorem s_ite {g : Sl → Sto → Out D} {t : Expr} (ht : PT X t (tT A E g)) (ha : PE X a (tE A E fa)) (hb : PE X b (tE A E fb)) :
    PE X (.IfExp t a b pos) (tE A E fun σ S => (tstO (g σ S)).bind fun t S => if t = true then fa σ S else fb σ S) :=
  PEi (pe_ifExp ht ha hb) fun σ H Q ⟨m, S, σD, R, Rs, p⟩ => ⟨m, S, σD, R, Rs, p.tst.mono fun x H1 ⟨m1, S1, e1, R1, p1⟩ => by
    cases x with
    | true => exact iteT ⟨m1, S1, σD, R1, Rs.mono e1, p1⟩
    | false => exact iteF ⟨m1, S1, σD, R1, Rs.mono e1, p1⟩⟩
theorem pt_ifExp {t : Expr} {tt ta tb : TT} (ht : PT X t tt) (ha : PT X a ta) (hb : PT X b tb) : PT X (.IfExp t a b pos) (fun σ H Q => tt σ H fun c H1 => if c = true then ta σ H1 Q else tb σ H1 Q) := by
  refine ⟨fun pins s σ H Q I h => ?_⟩
  refine isTrue_IfExp (thn (ht.run pins s σ H _ I h) fun d s1 ⟨H1, I1, q1⟩ => ?_)
  cases d with
  | true => exact ha.run pins s1 σ H1 Q I1 q1
  | false => exact hb.run pins s1 σ H1 Q I1 q1
theorem s_iteT {g : Sl → Sto → Out D} {t : Expr} (ht : PT X t (tT A E g)) (ha : PT X a (tT A E fa)) (hb : PT X b (tT A E fb)) :
    PT X (.IfExp t a b pos) (tT A E fun σ S => (tstO (g σ S)).bind fun t S => if t = true then fa σ S else fb σ S) :=
  PTi (pt_ifExp ht ha hb) fun σ H Q ⟨m, S, σD, R, Rs, p⟩ => ⟨m, S, σD, R, Rs, p.tst.mono fun x H1 ⟨m1, S1, e1, R1, p1⟩ => by
    cases x with
    | true => exact iteT ⟨m1, S1, σD, R1, Rs.mono e1, p1⟩
    | false => exact iteF ⟨m1, S1, σD, R1, Rs.mono e1, p1⟩⟩
theorem s_fld {cI : Nat} {f : Str} (cl : Cls X.K (A.cl cI)) (na : NoAttr X.K (A.cl cI) f) (ha : PE X a (tE A E fa)) (hb : attributeBase a f X.env (eval a X.env) = eval a X.env) :
    PE X (.Attribute a f pos) (tE A E fun σ S => (fa σ S).bind fun x S => .at S (fldSem x cI f S)) :=
  PEi (pe_fld ha hb) fun σ H Q ⟨m, S, σD, R, Rs, p⟩ => ⟨m, S, σD, R, Rs, p.seq.mono fun x H1 ⟨m1, S1, dx, e1, R1, rx, p1⟩ => by
    have q := p1.pd R1
    cases hc : fldSem dx cI f S1 with
    | none => rw [hc] at q; exact q.elim
    | some d =>
      rw [hc] at q
      cases rx with
      | loc e =>
        simp only [fldSem] at hc
        split at hc
        · rename_i c' fs hx
          split at hc
          · rename_i ec
            subst ec
            obtain ⟨a1, dx, ws, m1', g1, l1⟩ := R1.ins hx
            rw [e] at m1'; cases m1'
            rcases l1.lookup (f := f) with ⟨d', v, h1, h2, h3⟩ | ⟨h1, _⟩
            · rw [hc] at h1; cases h1
              exact ⟨_, _, _, _, v, rfl, g1, cl, na, h2, q v h3⟩
            · rw [hc] at h1; cases h1
          · cases hc
        · cases hc
      | _ => cases hc⟩
theorem s_ix (hK : A.K = X.K) (hu : X.A.units + 64 < cLine) (ha : PE X a (tE A E fa)) (hb : PE X b (tE A E fb)) (hs : PlainIx b) :
    PE X (.Subscript a b pos) (tE A E fun σ S => (fa σ S).bind fun x S => (fb σ S).bind fun y S => .at S (itemSem x y S)) :=
  PEi (pe_ix (ix_ok hK hu) ha hb hs) fun σ H Q ⟨m, S, σD, R, Rs, p⟩ =>
    ⟨m, S, σD, R, Rs, p.seq.mono fun x H1 ⟨m1, S1, dx, e1, R1, rx, p1⟩ => ⟨m1, S1, σD, R1, Rs.mono e1, p1.seq.mono fun y H2 ⟨m2, S2, dy, e2, R2, ry, p2⟩ => ⟨m2, S2, dx, dy, R2, rx.mono e2, ry, p2.pd R2⟩⟩⟩
theorem s_slice (hK : A.K = X.K) {lo hi : Option Expr} {fl fh : Sl → Sto → Out (Option Int)} {p2 : Pos} (ha : PE X a (tE A E fa)) (hl : L2.PO X lo (tOx A E fl)) (hh : L2.PO X hi (tOx A E fh)) :
    PE X (.Subscript a (.Slice lo hi none p2) pos) (tE A E fun σ S => (fa σ S).bind fun x S => (fl σ S).bind fun l S => (fh σ S).bind fun h S => .of (sliceSem x l h S)) :=
  PEi (pe_slice (sl_ok hK) ha hl hh) fun σ H Q ⟨m, S, σD, R, Rs, p⟩ =>
    ⟨m, S, σD, R, Rs, p.seq.mono fun x H1 ⟨m1, S1, dx, e1, R1, rx, p1⟩ => ⟨m1, S1, σD, R1, Rs.mono e1, p1.seq.mono fun l H2 ⟨m2, S2, dl, e2, R2, rl, p2⟩ => ⟨m2, S2, σD, R2, Rs.mono (e1.trans e2), p2.seq.mono fun h H3 ⟨m3, S3, dh, e3, R3, rh, p3⟩ => by
      have el : dl = l := rl
      have eh : dh = h := rh
      subst el; subst eh
      exact ⟨m3, S3, dx, R3, rx.mono (e2.trans e3), p3.po⟩⟩⟩⟩
theorem s_po0 : L2.PO X none (tOx A E fun _ S => .ok none S) :=
  ⟨fun pins s σ H Q I hw => po_none.run pins s σ H Q I (let ⟨_, _, _, R, _, p⟩ := hw; p.ok R rfl)⟩
theorem s_po1 (ha : PE X a (tE A E fa)) : L2.PO X (some a) (tOx A E fun σ S => (fa σ S).bind fun d S => cutOf d S) :=
  ⟨fun pins s σ H Q I hw => (po_some ha).run pins s σ H Q I (let ⟨m, S, σD, R, Rs, p⟩ := hw; ⟨m, S, σD, R, Rs, p.seq.mono fun x H1 ⟨m1, S1, dx, e1, R1, rx, p1⟩ => by
    cases rx <;> (try exact (show False from p1).elim)
    exact ⟨_, rfl, p1.ok R1 rfl⟩⟩)⟩
theorem s_nil : PA X [] (tAs A E fun _ S => .ok [] S) := PAi pa_nil fun σ H Q ⟨m, S, σD, R, Rs, p⟩ => p.ok R .nil
theorem s_cons {es : List Expr} {fs : Sl → Sto → Out (List D)} (ha : PE X a (tE A E fa)) (hs : PA X es (tAs A E fs)) (hst : starEach (a :: es) X.env = (false, eval a X.env) :: starEach es X.env) :
    PA X (a :: es) (tAs A E fun σ S => (fa σ S).bind fun d S => (fs σ S).bind fun ds S => .ok (d :: ds) S) :=
  PAi (pa_cons ha hs hst) fun σ H Q ⟨m, S, σD, R, Rs, p⟩ => ⟨m, S, σD, R, Rs, p.seq.mono fun x H1 ⟨m1, S1, dx, e1, R1, rx, p1⟩ => ⟨m1, S1, σD, R1, Rs.mono e1, p1.seq.mono fun y H2 ⟨m2, S2, dy, e2, R2, ry, p2⟩ => p2.ok R2 (.cons (rx.mono e2) ry)⟩⟩
variable {es : List Expr} {fs : Sl → Sto → Out (List D)}
theorem s_tup {x1 : Nat} (hs : PA X es (tAs A E fs)) : PE X (.Tuple es x1 pos) (tE A E fun σ S => (fs σ S).bind fun ds S => if ds.length ≤ sizeLine then .ok (.tup ds) S else .bad) :=
  PEi (pe_tup hs) fun σ H Q ⟨m, S, σD, R, Rs, p⟩ => ⟨m, S, σD, R, Rs, p.seq.mono fun x H1 ⟨m1, S1, dx, e1, R1, rx, p1⟩ => by
    split at p1
    · refine ⟨by rw [rx.length]; assumption, fun q hq => ?_⟩
      obtain ⟨a, b, c⟩ := newTup R1 rx hq
      exact p1 _ _ _ b a c
    · exact p1.elim⟩
theorem s_lst (hs : PA X es (tAs A E fs)) : PE X (.List es pos) (tE A E fun σ S => (fs σ S).bind fun ds S => if ds.length ≤ sizeLine then .ok (.loc S.length) (S ++ [.lst ds]) else .bad) :=
  PEi (pe_lst hs) fun σ H Q ⟨m, S, σD, R, Rs, p⟩ => ⟨m, S, σD, R, Rs, p.seq.mono fun x H1 ⟨m1, S1, dx, e1, R1, rx, p1⟩ => by
    split at p1
    · refine ⟨by rw [rx.length]; assumption, fun q hq => ?_⟩
      obtain ⟨a, b, c⟩ := newLst R1 rx hq
      exact p1 _ _ _ b a c
    · exact p1.elim⟩
theorem newCell {m : List Addr} {S : Sto} {H : Hp} {p : Addr} {c : Cell} {o : HO} (R : Rep A m S H) (hp : H p = none) (new : RepC A (m ++ [p]) (upd H p o) p c) :
    Rep A (m ++ [p]) (S ++ [c]) (upd H p o) ∧ Ext A m H (m ++ [p]) (upd H p o) ∧ RepD A (m ++ [p]) (upd H p o) (.loc S.length) (.ref p) :=
  ⟨R.alloc hp new, (Ext.new hp).more, .loc (by rw [← R.len, List.getElem?_append_right (Nat.le_refl _), Nat.sub_self] <;> rfl)⟩
theorem s_dct0 (t : Bool) : PE X (.Dict [] [] pos) (tE A E fun _ S => .ok (.loc S.length) (S ++ [if t = true then .dt [] else .dk []])) := by
  cases t with
  | false =>
    refine PEi pe_dnewK fun σ H Q ⟨m, S, σD, R, Rs, p⟩ q hq => ?_
    obtain ⟨a, b, c⟩ := newCell (c := .dk []) (o := .dK []) R hq (.dk upd_same .nil)
    exact p _ _ _ b a c
  | true =>
    refine PEi pe_dnewT fun σ H Q ⟨m, S, σD, R, Rs, p⟩ q hq => ?_
    obtain ⟨a, b, c⟩ := newCell (c := .dt []) (o := .dT []) R hq (.dt upd_same .nil)
    exact p _ _ _ b a c
end
end DI

set_option Elab.async false
set_option linter.all false
set_option maxRecDepth 100000
set_option maxHeartbeats 4000000
/-! Calls, iterables, targets, comprehensions. -/
namespace DI
open L2 PySem PySem.Spec PyProof.Rows

/-- a def's promise: it does what f says -/
def spC (A : Ad) (n : Nat) (f : List D → Sto → Out D) : Sp := fun vs H Q E => ∃ m S ds, Rep A m S H ∧ RepL A m H ds vs ∧ ds.length = n ∧ Post A E (RepD A) m H (f ds S) Q
section
variable {X : Cx} {A : Ad} {E : XK} {k : Nat} {f : Addr} {fd : FuncData} {ps : List Str} {g : List D → Sto → Out D} {fs : Sl → Sto → Out (List D)} {fo : Sl → Sto → Out D} {x mn : Str} {p pos apos : Pos} {e o : Expr} {es : List Expr}
abbrev tCal (A : Ad) (E : XK) (fs : Sl → Sto → Out (List D)) (g : List D → Sto → Out D) : TE := tE A E fun σ S => (fs σ S).bind fun ds S => g ds S
theorem cal_in (har : ∀ ds S, ds.length ≠ ps.length → g ds S = .bad) {t : TA} (ht : ∀ σ H Q, tAs A E fs σ H Q → t σ H Q) : ∀ σ H Q, tCal A E fs g σ H Q → tCall (spC A ps.length g) [] E t σ H Q :=
  fun σ H Q ⟨m, S, σD, R, Rs, p⟩ => ht σ H _ ⟨m, S, σD, R, Rs, p.seq.mono fun vs H1 ⟨m1, S1, ds, e1, R1, rl, p1⟩ => by
    show spC A ps.length g (vs ++ []) H1 Q E
    rw [List.append_nil]
    refine ⟨m1, S1, ds, R1, rl, ?_, p1⟩
    by_cases c : ds.length = ps.length
    · exact c
    · rw [har ds S1 c] at p1; exact p1.elim⟩
theorem s_call (F : FnOk X.prog X.w X.K X.mg X.base (L2.CX X.prog X.w) k f fd ps (spC A ps.length g)) (hr : Room k X.A) (hg : Gl X x) (hm : X.mg x = some (.ref f)) (hk : PySem.W.keepIn X.K (.ref f) = true) (hb : Binds X.K fd ps [])
    (tk : Takes X (fun cls d _ H => E cls d H)) (har : ∀ ds S, ds.length ≠ ps.length → g ds S = .bad) (ha : PA X (e :: es) (tAs A E fs)) (hdb : (x == ("__debug__" : Str)) = false)
    (he : starEach (e :: es) X.env = (false, eval e X.env) :: starEach es X.env) (hpl : (backTo pos (starEach es X.env)).any (·.1) = false) :
    PE X (.Call (.Name x p) (e :: es) [] pos) (tCal A E fs g) :=
  PEi (pe_call F hr hg hm hk hb .nil (passes_call tk fun _ _ _ _ h => h) ha hdb he hpl) (cal_in har fun _ _ _ h => h)
theorem s_call0 (F : FnOk X.prog X.w X.K X.mg X.base (L2.CX X.prog X.w) k f fd ps (spC A ps.length g)) (hr : Room k X.A) (hg : Gl X x) (hm : X.mg x = some (.ref f)) (hk : PySem.W.keepIn X.K (.ref f) = true) (hb : Binds X.K fd ps [])
    (tk : Takes X (fun cls d _ H => E cls d H)) (har : ∀ ds S, ds.length ≠ ps.length → g ds S = .bad) (hdb : (x == ("__debug__" : Str)) = false) :
    PE X (.Call (.Name x p) [] [] pos) (tCal A E (fun _ S => .ok [] S) g) :=
  PEi (pe_call0 F hr hg hm hk hb .nil (passes_call tk fun _ _ _ _ h => h) hdb) (cal_in har fun σ H Q ⟨m, S, σD, R, Rs, p⟩ => p.ok R .nil)
abbrev tMkC (A : Ad) (E : XK) (c : Nat) (fs : Sl → Sto → Out (List D)) (g : List D → Sto → Out D) : TE :=
  tE A E fun σ S => (fs σ S).bind fun ds S => (g (.loc S.length :: ds) (S ++ [.ins c []])).bind fun r S' => match r with | .non => .ok (.loc S.length) S' | _ => .bad
theorem mk_in {c : Nat} (har : ∀ ds S, ds.length ≠ ps.length → g ds S = .bad) {t : TA} (ht : ∀ σ H Q, tAs A E fs σ H Q → t σ H Q) : ∀ σ H Q, tMkC A E c fs g σ H Q → tMake (A.cl c) (spC A ps.length g) [] E t σ H Q :=
  fun σ H Q ⟨m, S, σD, R, Rs, p⟩ => ht σ H _ ⟨m, S, σD, R, Rs, p.seq.mono fun vs H1 ⟨m1, S1, ds, e1, R1, rl, p1⟩ => by
    intro x dx nx ndx ne
    show spC A ps.length g (.ref x :: (vs ++ [])) _ _ E
    rw [List.append_nil]
    have Ra := R1.new (o := .own x) ndx
    have nx' : (upd H1 dx (.own x)) x = none := by rw [upd_ne ne.symm]; exact nx
    obtain ⟨Rb, eb, rb⟩ := newCell (c := .ins c []) (o := .ins (A.cl c) dx []) Ra nx' (.ins upd_same .nil)
    have ex : Ext A m1 H1 (m1 ++ [x]) (upd (upd H1 dx (.own x)) x (.ins (A.cl c) dx [])) := (Ext.new ndx).trans eb
    have p2 := Post.base p1 ex
    refine ⟨_, _, .loc S1.length :: ds, Rb, .cons rb (rl.mono ex), ?_, p2.seq.mono fun v H2 ⟨m3, S3, d, e3, R3, rd, p3⟩ => ?_⟩
    · by_cases c : (D.loc S1.length :: ds).length = ps.length
      · exact c
      · rw [har _ _ c] at p2; exact p2.elim
    · cases rd <;> (try exact (show False from p3).elim)
      refine ⟨rfl, p3.ok R3 (rb.mono e3)⟩⟩
theorem s_make {c : Nat} (M : Mk X.K (A.cl c) f) (F : FnOk X.prog X.w X.K X.mg X.base (L2.CX X.prog X.w) k f fd ps (spC A ps.length g)) (hr : Room (k + 1) X.A) (hg : Gl X x) (hm : X.mg x = some (.ref (A.cl c))) (hb : Binds X.K fd ps [])
    (tk : Takes X (fun cls d _ H => E cls d H)) (har : ∀ ds S, ds.length ≠ ps.length → g ds S = .bad) (ha : PA X (e :: es) (tAs A E fs)) (hdb : (x == ("__debug__" : Str)) = false)
    (he : starEach (e :: es) X.env = (false, eval e X.env) :: starEach es X.env) (hpl : (backTo pos (starEach es X.env)).any (·.1) = false) :
    PE X (.Call (.Name x p) (e :: es) [] pos) (tMkC A E c fs g) :=
  PEi (pe_make M F hr hg hm hb .nil (passes_call tk fun _ _ _ _ h => h) ha hdb he hpl) (mk_in har fun _ _ _ h => h)
theorem s_make0 {c : Nat} (M : Mk X.K (A.cl c) f) (F : FnOk X.prog X.w X.K X.mg X.base (L2.CX X.prog X.w) k f fd ps (spC A ps.length g)) (hr : Room (k + 1) X.A) (hg : Gl X x) (hm : X.mg x = some (.ref (A.cl c))) (hb : Binds X.K fd ps [])
    (tk : Takes X (fun cls d _ H => E cls d H)) (har : ∀ ds S, ds.length ≠ ps.length → g ds S = .bad) (hdb : (x == ("__debug__" : Str)) = false) :
    PE X (.Call (.Name x p) [] [] pos) (tMkC A E c (fun _ S => .ok [] S) g) :=
  PEi (pe_make0 M F hr hg hm hb .nil (passes_call tk fun _ _ _ _ h => h) hdb) (mk_in har fun σ H Q ⟨m, S, σD, R, Rs, p⟩ => p.ok R .nil)
abbrev tMt (A : Ad) (E : XK) (c : Nat) (mn : Str) (fo : Sl → Sto → Out D) (fs : Sl → Sto → Out (List D)) (g : List D → Sto → Out D) : TE :=
  tE A E fun σ S => (fo σ S).bind fun x S => match x with
    | .loc a => match S[a]? with
      | some (.ins c' fs') => if c' = c ∧ fs'.lookup mn = none then (fs σ S).bind fun ds S => g (x :: ds) S else .bad
      | _ => .bad
    | _ => .bad
theorem mt_in {c : Nat} {ta : TE} (hta : ∀ σ H Q, tE A E fo σ H Q → ta σ H Q) (har : ∀ ds S, ds.length ≠ ps.length → g ds S = .bad) {t : TA} (ht : ∀ σ H Q, tAs A E fs σ H Q → t σ H Q) :
    ∀ σ H Q, tMt A E c mn fo fs g σ H Q → tMeth (A.cl c) mn (spC A ps.length g) [] E ta t σ H Q :=
  fun σ H Q ⟨m, S, σD, R, Rs, p⟩ => hta σ H _ ⟨m, S, σD, R, Rs, p.seq.mono fun x H1 ⟨m1, S1, dx, e1, R1, rx, p1⟩ => by
    cases rx with
    | @loc i a e =>
      dsimp only at p1
      split at p1
      · rename_i c' fs' hx
        split at p1
        · rename_i hc
          obtain ⟨rfl, hc2⟩ := hc
          obtain ⟨a1, dx, ws, m1', g1, l1⟩ := R1.ins hx
          rw [e] at m1'; cases m1'
          refine ⟨_, dx, ws, rfl, g1, ?_, ht σ H1 _ ⟨m1, S1, σD, R1, Rs.mono e1, p1.seq.mono fun vs H2 ⟨m2, S2, ds, e2, R2, rl, p2⟩ => ?_⟩⟩
          · rcases l1.lookup (f := mn) with ⟨d', v, h1, h2, h3⟩ | ⟨_, h2⟩
            · rw [hc2] at h1; cases h1
            · exact h2
          · show spC A ps.length g (.ref _ :: (vs ++ [])) H2 Q E
            rw [List.append_nil]
            refine ⟨m2, S2, _ :: ds, R2, .cons (.loc (e2.loc _ _ e)) rl, ?_, p2⟩
            by_cases c : (D.loc i :: ds).length = ps.length
            · exact c
            · rw [har _ _ c] at p2; exact p2.elim
        · exact p1.elim
      · exact p1.elim
    | _ => exact (show False from p1).elim⟩
theorem s_meth {c : Nat} {pl : Sem Bool} (he0 : PE X o (tE A E fo)) (cl : Cls X.K (A.cl c)) (hme : Meth X.K (A.cl c) mn f) (F : FnOk X.prog X.w X.K X.mg X.base (L2.CX X.prog X.w) k f fd ps (spC A ps.length g)) (hr : Room k X.A) (hb : Binds X.K fd ps [])
    (tk : Takes X (fun cls d _ H => E cls d H)) (har : ∀ ds S, ds.length ≠ ps.length → g ds S = .bad) (ha : PA X (e :: es) (tAs A E fs))
    (he : starEach (e :: es) X.env = (false, eval e X.env) :: starEach es X.env) (hpl : (backTo pos (starEach es X.env)).any (·.1) = false)
    (ht : eval (.Call (.Attribute o mn apos) (e :: es) [] pos) X.env = (do
      let ov ← eval o X.env
      standAt apos.atName
      let (f, first) ← holding [ov] (getMethod ov mn pl)
      callWith pos f first (backTo pos (starEach (e :: es) X.env)) (backToKw pos (keywordEach [] X.env)))) :
    PE X (.Call (.Attribute o mn apos) (e :: es) [] pos) (tMt A E c mn fo fs g) :=
  PEi (pe_meth he0 cl hme F hr hb .nil (passes_call tk fun _ _ _ _ h => h) ha he hpl ht) (mt_in (fun _ _ _ h => h) har fun _ _ _ h => h)
theorem s_meth0 {c : Nat} {pl : Sem Bool} (he0 : PE X o (tE A E fo)) (cl : Cls X.K (A.cl c)) (hme : Meth X.K (A.cl c) mn f) (F : FnOk X.prog X.w X.K X.mg X.base (L2.CX X.prog X.w) k f fd ps (spC A ps.length g)) (hr : Room k X.A) (hb : Binds X.K fd ps [])
    (tk : Takes X (fun cls d _ H => E cls d H)) (har : ∀ ds S, ds.length ≠ ps.length → g ds S = .bad)
    (ht : eval (.Call (.Attribute o mn apos) [] [] pos) X.env = (do
      let ov ← eval o X.env
      standAt apos.atName
      let (f, first) ← holding [ov] (getMethod ov mn pl)
      callWith pos f first (backTo pos (starEach [] X.env)) (backToKw pos (keywordEach [] X.env)))) :
    PE X (.Call (.Attribute o mn apos) [] [] pos) (tMt A E c mn fo (fun _ S => .ok [] S) g) :=
  PEi (pe_meth0 he0 cl hme F hr hb .nil (passes_call tk fun _ _ _ _ h => h) ht) (mt_in (fun _ _ _ h => h) har fun σ H Q ⟨m, S, σD, R, Rs, p⟩ => p.ok R .nil)
theorem boot_bi : ∀ b : BI, bootBuiltins b.name = some b.val := by intro b; cases b <;> decide +kernel
theorem bi_nn : ∀ b : BI, b.name ≠ "__name__" ∧ (b.name == ("__debug__" : Str)) = false := by intro b; cases b <;> decide +kernel
theorem s_bi (b : BI) (hK : A.K = X.K) (hc : X.calm = true) (hg : Gl X b.name) (hm : X.mg b.name = none) (ha : PA X (e :: es) (tAs A E fs))
    (he : starEach (e :: es) X.env = (false, eval e X.env) :: starEach es X.env) (hpl : (backTo pos (starEach es X.env)).any (·.1) = false) :
    PE X (.Call (.Name b.name p) (e :: es) [] pos) (tE A E fun σ S => (fs σ S).bind fun ds S => .of (biSem b ds S)) := by
  have i : ∀ σ H Q, tE A E (fun σ S => (fs σ S).bind fun ds S => .of (biSem b ds S)) σ H Q → tCB (rBi A b) (tAs A E fs) σ H Q := fun σ H Q ⟨m, S, σD, R, Rs, p⟩ =>
    ⟨m, S, σD, R, Rs, p.seq.mono fun vs H1 ⟨m1, S1, ds, e1, R1, rl, p1⟩ => ⟨m1, S1, ds, R1, rl, p1.po⟩⟩
  have hB := boot_bi b
  have hN := bi_nn b
  have hR := bi_ok hK hc b
  revert hB hN hR hg hm i
  generalize b.name = nm
  intro hg hm i hB hN hR
  cases b <;> first
    | exact PEi (pe_callB hR hg hm hB ha hN.1 hN.2 he hpl) i
    | exact PEi (pe_callTy hR hg hm hB ha hN.1 hN.2 he hpl) i
theorem slot_bm : ∀ b : BM, ∃ T, PlainAttrs T ∧ Slot T b.name b.id ∧ typeOf (.builtin b.id) = pure (.type "method_descriptor") ∧ T = "list"
  | .append => ⟨_, PySem.F.plainAttrs_list, PySem.F.slot_list_append, PySem.F.type_list_append, rfl⟩
  | .extend => ⟨_, PySem.F.plainAttrs_list, PySem.F.slot_list_extend, PySem.F.type_list_extend, rfl⟩
  | .pop => ⟨_, PySem.F.plainAttrs_list, PySem.F.slot_list_pop, PySem.F.type_list_pop, rfl⟩
  | .reverse => ⟨_, PySem.F.plainAttrs_list, PySem.F.slot_list_reverse, PySem.F.type_list_reverse, rfl⟩
abbrev tBm (A : Ad) (E : XK) (b : BM) (fo : Sl → Sto → Out D) (fs : Sl → Sto → Out (List D)) : TE :=
  tE A E fun σ S => (fo σ S).bind fun x S => match x with
    | .loc a => match S[a]? with
      | some (.lst _) => (fs σ S).bind fun ds S => .of (bmSem b x ds S)
      | _ => .bad
    | _ => .bad
theorem bm_in {b : BM} {t : TA} (ht : ∀ σ H Q, tAs A E fs σ H Q → t σ H Q) : ∀ σ H Q, tBm A E b fo fs σ H Q → tBM X.K "list" (rBm A b) (tE A E fo) t σ H Q :=
  fun σ H Q ⟨m, S, σD, R, Rs, p⟩ => ⟨m, S, σD, R, Rs, p.seq.mono fun x H1 ⟨m1, S1, dx, e1, R1, rx, p1⟩ => by
    cases rx with
    | @loc i a e =>
      dsimp only at p1
      split at p1
      · rename_i xs hx
        obtain ⟨a1, vs, m1', g1, l1⟩ := R1.lst hx
        rw [e] at m1'; cases m1'
        exact ⟨.inl ⟨rfl, _, SqL.of g1⟩, ht σ H1 _ ⟨m1, S1, σD, R1, Rs.mono e1, p1.seq.mono fun vs H2 ⟨m2, S2, ds, e2, R2, rl, p2⟩ => ⟨m2, S2, _, ds, R2, .loc (e2.loc _ _ e), rl, p2.po⟩⟩⟩
      · exact p1.elim
    | _ => exact (show False from p1).elim⟩
theorem s_bm (b : BM) (ho : PE X o (tE A E fo)) (ha : PA X (e :: es) (tAs A E fs)) (hbase : attributeBase o b.name X.env (eval o X.env) = eval o X.env)
    (hfew : ((backTo pos (starEach (e :: es) X.env)).all (fun x => !x.1) && (backToKw pos (keywordEach [] X.env)).all (fun x => x.1.isSome)
      && decide ((e :: es).length + ([] : List Keyword).length + (if ([] : List Keyword).isEmpty then 0 else 1) < 30)) = true)
    (hline : (apos.endLine == pos.line) = true) (hs : starEach (e :: es) X.env = (false, eval e X.env) :: starEach es X.env) (hplain : (backTo pos (starEach es X.env)).any (·.1) = false) :
    PE X (.Call (.Attribute o b.name apos) (e :: es) [] pos) (tBm A E b fo fs) := by
  obtain ⟨T, h1, h2, h3, rfl⟩ := slot_bm b
  exact PEi (pe_bm h1 h2 h3 (bm_ok b) ho ha hbase hfew hline hs hplain) (bm_in fun _ _ _ h => h)
theorem s_bm0 (b : BM) (ho : PE X o (tE A E fo)) (hbase : attributeBase o b.name X.env (eval o X.env) = eval o X.env) (hline : (apos.endLine == pos.line) = true) :
    PE X (.Call (.Attribute o b.name apos) [] [] pos) (tBm A E b fo (fun _ S => .ok [] S)) := by
  obtain ⟨T, h1, h2, h3, rfl⟩ := slot_bm b
  exact PEi (pe_bm0 h1 h2 h3 (bm_ok (A := A) b) ho hbase hline) (bm_in (X := X) (t := tNil) (fun σ H Q ⟨m, S, σD, R, Rs, p⟩ => p.ok R .nil))
end

/-! ### iterables -/
def RJ (A : Ad) : List Addr → Hp → Walk → It → Prop := fun m0 H0 w J => ∀ i m S H, Ext A m0 H0 m H → Rep A m S H →
  match wgo w i S with
  | some none => J.stop i H
  | some (some d) => J.go i H ∧ ∀ x H', J.yld i H x H' → Ext A m H m H' ∧ Rep A m S H' ∧ RepD A m H' d x
  | none => True
abbrev tI (A : Ad) (E : XK) (f : Sl → Sto → Out Walk) : TI := tG A E (RJ A) f
theorem PIi {X : Cx} {tg e : Expr} {t t' : TI} (h : PI X tg e t) (i : ∀ σ H Q, t' σ H Q → t σ H Q) : PI X tg e t' := ⟨fun pins s σ H Q I hw => h.run pins s σ H Q I (i _ _ _ hw)⟩
def iAny (K : PySem.W.Frag) (tl : TE) : TI := fun σ H R => tl σ H fun x H1 => (∃ a, x = .ref a ∧ (∃ xs, SqL K H1 a xs) ∧ R (Itl K a) H1) ∨ ∃ a, x = .ref a ∧ (∃ xs, SqT K H1 a xs) ∧ R (Itt K a) H1
theorem pi_any {X : Cx} {tg l : Expr} {tl : TE} (hl : PE X l tl) : PI X tg l (iAny X.K tl) := by
  refine ⟨fun pins s σ H R I h => ?_⟩
  refine thn (hl.run pins s σ H _ I h) fun v s1 ⟨x, H1, I1, r1, q1⟩ => ?_
  rcases q1 with ⟨a, e, ⟨xs, hq⟩, q⟩ | ⟨a, e, ⟨xs, hq⟩, q⟩
  · subst e
    cases r1
    obtain ⟨its, rv, p, hz⟩ := I1.list hq
    refine wpAny_pyIter_list p.isList ?_
    refine ⟨s1.heap.objs.size, [s1.heap.objs.size], _, _, H1, rfl, I1.kept (t' := s1.toks) fun b o e => Heap.get?_push_of_some _ e, turn_list a _, ⟨_, Heap.get?_push_size _ rfl, rfl, rfl⟩, fun b hb => ?_, q⟩
    have e : b = s1.heap.objs.size := by simpa using hb
    subst e
    exact I1.fpOk (Nat.le_refl _) (I1.hok.fresh (Nat.le_refl _))
  · subst e
    cases r1
    obtain ⟨its, rv, p, hz⟩ := I1.tuple hq
    refine wpAny_pyIter_tuple (show s1.heap.IsTuple a its.toArray from p) ?_
    refine ⟨s1.heap.objs.size, [s1.heap.objs.size], _, _, H1, rfl, I1.kept (t' := s1.toks) fun b o e => Heap.get?_push_of_some _ e, turn_tuple a _, ⟨_, Heap.get?_push_size _ rfl, rfl, rfl⟩, fun b hb => ?_, q⟩
    have e : b = s1.heap.objs.size := by simpa using hb
    subst e
    exact I1.fpOk (Nat.le_refl _) (I1.hok.fresh (Nat.le_refl _))
section
variable {X : Cx} {A : Ad} {E : XK} {e a b tg : Expr} {fo fa fb : Sl → Sto → Out D} {p pos : Pos}
theorem SqT.inj {K : PySem.W.Frag} {H : Hp} {a : Addr} {xs ys : List V} (hx : H a = some (.tup xs)) (hy : H a = some (.tup ys)) : xs = ys := by rw [hx] at hy; cases hy; rfl
theorem get_none {m : List Addr} {H : Hp} {ds : List D} {vs : List V} {i : Nat} (l : RepL A m H ds vs) (h : ds[i]? = none) : vs.length ≤ i := by
  rw [l.length]; exact List.getElem?_eq_none_iff.mp h
theorem rj_list {m0 : List Addr} {H0 : Hp} {i : Nat} {a : Addr} (e : m0[i]? = some a) : RJ A m0 H0 (.li i) (Itl A.K a) := by
  intro j m S H ex R
  have bad : ∀ {r : Option (Option D)}, r = none → (match r with
    | some none => (Itl A.K a).stop j H
    | some (some d) => (Itl A.K a).go j H ∧ ∀ x H', (Itl A.K a).yld j H x H' → Ext A m H m H' ∧ Rep A m S H' ∧ RepD A m H' d x
    | none => True) := fun z => by subst z; trivial
  cases hx : S[i]? with
  | none => exact bad (by simp only [wgo, hx])
  | some c =>
    cases c with
    | lst xs =>
      have e2 : wgo (.li i) j S = some xs[j]? := by simp only [wgo, hx]
      rw [e2]
      obtain ⟨a1, vs, m1, g1, l1⟩ := R.lst hx
      rw [ex.loc _ _ e] at m1; cases m1
      cases hj : xs[j]? with
      | none => exact ⟨vs, SqL.of g1, get_none l1 hj⟩
      | some d =>
        obtain ⟨v, h1, h2⟩ := l1.get hj
        refine ⟨⟨vs, v, SqL.of g1, h1⟩, fun x H' y => ?_⟩
        obtain ⟨rfl, y2⟩ := y
        have := y2 _ (SqL.of g1)
        rw [h1] at this; cases this
        exact ⟨Ext.refl, R, h2⟩
    | _ => exact bad (by simp only [wgo, hx])
theorem rj_rl {m0 : List Addr} {H0 : Hp} {a : Addr} {xs : List D} {vs : List V} (t : RoL A.K H0 a vs) (l : RepL A m0 H0 xs vs) : RJ A m0 H0 (.vs xs) (Itl A.K a) := by
  intro j m S H ex R
  have t' := (ex.rol _ _ t).sq
  have l' := l.mono ex
  show match some xs[j]? with
    | some none => (Itl A.K a).stop j H
    | some (some d) => (Itl A.K a).go j H ∧ ∀ x H', (Itl A.K a).yld j H x H' → Ext A m H m H' ∧ Rep A m S H' ∧ RepD A m H' d x
    | none => True
  cases hj : xs[j]? with
  | none => exact ⟨vs, t', get_none l' hj⟩
  | some d =>
    obtain ⟨v, h1, h2⟩ := l'.get hj
    refine ⟨⟨vs, v, t', h1⟩, fun x H' y => ?_⟩
    obtain ⟨rfl, y2⟩ := y
    have := y2 _ t'
    rw [h1] at this; cases this
    exact ⟨Ext.refl, R, h2⟩
theorem rj_tup {m0 : List Addr} {H0 : Hp} {a : Addr} {xs : List D} {vs : List V} (t : SqT A.K H0 a vs) (l : RepL A m0 H0 xs vs) : RJ A m0 H0 (.vs xs) (Itt A.K a) := by
  intro j m S H ex R
  have t' := ex.tup _ _ t
  have l' := l.mono ex
  show match some xs[j]? with
    | some none => (Itt A.K a).stop j H
    | some (some d) => (Itt A.K a).go j H ∧ ∀ x H', (Itt A.K a).yld j H x H' → Ext A m H m H' ∧ Rep A m S H' ∧ RepD A m H' d x
    | none => True
  cases hj : xs[j]? with
  | none => exact ⟨vs, t', get_none l' hj⟩
  | some d =>
    obtain ⟨v, h1, h2⟩ := l'.get hj
    refine ⟨⟨vs, v, t', h1⟩, fun x H' y => ?_⟩
    obtain ⟨rfl, y2⟩ := y
    have := y2 _ t'
    rw [h1] at this; cases this
    exact ⟨Ext.refl, R, h2⟩
theorem rj_rng {m0 : List Addr} {H0 : Hp} (lo : Int) (n : Nat) : RJ A m0 H0 (.rng lo n) (Itr lo n) := by
  intro j m S H ex R
  show match some (if j < n then some (D.int (lo + j)) else none) with
    | some none => (Itr lo n).stop j H
    | some (some d) => (Itr lo n).go j H ∧ ∀ x H', (Itr lo n).yld j H x H' → Ext A m H m H' ∧ Rep A m S H' ∧ RepD A m H' d x
    | none => True
  by_cases c : j < n
  · rw [if_pos c]
    exact ⟨c, fun x H' ⟨h1, h2⟩ => by subst h1; subst h2; exact ⟨Ext.refl, R, .int _⟩⟩
  · rw [if_neg c]
    exact Nat.le_of_not_lt c
theorem rj_en {m0 : List Addr} {H0 : Hp} {w : Walk} {a : Addr} (h : RJ A m0 H0 w (Itl A.K a)) : RJ A m0 H0 (.en w) (Ite A.K a) := by
  intro j m S H ex R
  have z := h j m S H ex R
  show match (wgo w j S).map fun o => o.map fun d => D.tup [.int j, d] with
    | some none => (Ite A.K a).stop j H
    | some (some d) => (Ite A.K a).go j H ∧ ∀ x H', (Ite A.K a).yld j H x H' → Ext A m H m H' ∧ Rep A m S H' ∧ RepD A m H' d x
    | none => True
  revert z
  cases wgo w j S with
  | none => exact fun _ => trivial
  | some o =>
    cases o with
    | none => exact fun z => z
    | some d =>
      intro z
      obtain ⟨⟨xs, x, z1, z1'⟩, z2⟩ := z
      refine ⟨⟨xs, x, z1, z1'⟩, fun x' H' y => ?_⟩
      obtain ⟨T, y1, rfl, hT, rfl, hy⟩ := y
      obtain ⟨_, _, r⟩ := z2 y1 H ⟨rfl, hy⟩
      obtain ⟨a, b, c⟩ := newTup R (ds := [.int j, d]) (vs := [.int j, y1]) (.cons (.int _) (.cons r .nil)) hT
      exact ⟨b, a, c⟩
theorem s_iter (hK : A.K = X.K) (h : PE X e (tE A E fo)) : PI X tg e (tI A E fun σ S => (fo σ S).bind fun x S => .at S (walkOf x S)) :=
  PIi (pi_any h) fun σ H Q ⟨m, S, σD, R, Rs, p⟩ => ⟨m, S, σD, R, Rs, p.seq.mono fun x H1 ⟨m1, S1, dx, e1, R1, rx, p1⟩ => by
    cases rx with
    | tup t l => exact .inr ⟨_, rfl, ⟨_, hK ▸ t⟩, hK ▸ (p1.ok R1 (rj_tup t l))⟩
    | rl t l => exact .inl ⟨_, rfl, ⟨_, hK ▸ t.sq⟩, hK ▸ (p1.ok R1 (rj_rl t l))⟩
    | @loc i a e =>
      simp only [walkOf] at p1
      cases hx : S1[i]? with
      | none => rw [hx] at p1; exact p1.elim
      | some c =>
        rw [hx] at p1
        cases c with
        | lst xs =>
          obtain ⟨a1, vs, m1', g1, l1⟩ := R1.lst hx
          rw [e] at m1'; cases m1'
          exact .inl ⟨_, rfl, ⟨_, SqL.of g1⟩, hK ▸ (p1.ok R1 (rj_list e))⟩
        | _ => exact p1.elim
    | _ => exact (show False from p1).elim⟩
theorem rng_of {lo hi : Int} (h : rngOk lo hi = true) : -(2 ^ 62) ≤ lo ∧ lo < 2 ^ 62 ∧ -(2 ^ 62) ≤ hi ∧ hi < 2 ^ 62 := of_decide_eq_true h
theorem s_rng1 (hg : Gl X "range") (hm : X.mg "range" = none) (h : PE X e (tE A E fo)) (hs : starEach [e] X.env = (false, eval e X.env) :: starEach [] X.env) :
    PI X tg (.Call (.Name "range" p) [e] [] pos) (tI A E fun σ S => (fo σ S).bind fun x S => match x with | .int j => if rngOk 0 j = true then .ok (.rng 0 j.toNat) S else .bad | _ => .bad) :=
  PIi (pi_range1 hg hm (pa_cons h pa_nil hs) hs) fun σ H Q ⟨m, S, σD, R, Rs, p⟩ => ⟨m, S, σD, R, Rs, p.seq.mono fun x H1 ⟨m1, S1, dx, e1, R1, rx, p1⟩ => by
    cases rx with
    | int j =>
      dsimp only at p1
      split at p1
      · rename_i hr
        have z := rng_of hr
        exact ⟨j, rfl, z.2.2.1, z.2.2.2, p1.ok R1 (rj_rng 0 j.toNat)⟩
      · exact p1.elim
    | _ => exact (show False from p1).elim⟩
theorem s_rng2 (hg : Gl X "range") (hm : X.mg "range" = none) (ha : PE X a (tE A E fa)) (hb : PE X b (tE A E fb)) (hs : starEach [a, b] X.env = (false, eval a X.env) :: starEach [b] X.env) (hs2 : starEach [b] X.env = (false, eval b X.env) :: starEach [] X.env) :
    PI X tg (.Call (.Name "range" p) [a, b] [] pos) (tI A E fun σ S => (fa σ S).bind fun x S => (fb σ S).bind fun y S => match x, y with
      | .int i, .int j => if rngOk i j = true then .ok (.rng i (j - i).toNat) S else .bad
      | _, _ => .bad) :=
  PIi (pi_range2 hg hm (pa_cons ha (pa_cons hb pa_nil hs2) hs) (by rw [hs, hs2]; rfl) hs2) fun σ H Q ⟨m, S, σD, R, Rs, p⟩ => ⟨m, S, σD, R, Rs, p.seq.mono fun x H1 ⟨m1, S1, dx, e1, R1, rx, p1⟩ => ⟨m1, S1, σD, R1, Rs.mono e1, p1.seq.mono fun y H2 ⟨m2, S2, dy, e2, R2, ry, p2⟩ => by
    cases rx with
    | int i =>
      cases ry with
      | int j =>
        dsimp only at p2
        split at p2
        · rename_i hr
          exact ⟨i, j, rfl, rng_of hr, p2.ok R2 (rj_rng i (j - i).toNat)⟩
        · exact p2.elim
      | _ => exact (show False from p2).elim
    | _ => exact (show False from p2).elim⟩⟩
theorem s_enum {elts : List Expr} {kk : Nat} {tpos : Pos} (hK : A.K = X.K) (hg : Gl X "enumerate") (hm : X.mg "enumerate" = none) (h : PE X e (tE A E fo)) (hs : starEach [e] X.env = (false, eval e X.env) :: starEach [] X.env) :
    PI X (.Tuple elts kk tpos) (.Call (.Name "enumerate" p) [e] [] pos) (tI A E fun σ S => (fo σ S).bind fun x S => match walkL x S with | some w => .ok (.en w) S | none => .bad) :=
  PIi (pi_enum hg hm (pa_cons h pa_nil hs) hs) fun σ H Q ⟨m, S, σD, R, Rs, p⟩ => ⟨m, S, σD, R, Rs, p.seq.mono fun x H1 ⟨m1, S1, dx, e1, R1, rx, p1⟩ => by
    cases rx with
    | rl t l => exact ⟨_, _, rfl, hK ▸ t.sq, hK ▸ (p1.ok R1 (rj_en (rj_rl t l)))⟩
    | @loc i a e =>
      simp only [walkL] at p1
      cases hx : S1[i]? with
      | none => rw [hx] at p1; exact p1.elim
      | some c =>
        rw [hx] at p1
        cases c with
        | lst xs =>
          obtain ⟨a1, vs, m1', g1, l1⟩ := R1.lst hx
          rw [e] at m1'; cases m1'
          exact ⟨_, _, rfl, SqL.of g1, hK ▸ (p1.ok R1 (rj_en (rj_list e)))⟩
        | _ => exact p1.elim
    | _ => exact (show False from p1).elim⟩
end
end DI

set_option Elab.async false
set_option linter.all false
set_option maxRecDepth 100000
set_option maxHeartbeats 4000000
/-! Targets, comprehensions. -/
namespace DI
open L2 PySem PySem.Spec PyProof.Rows
def EF : XK := fun _ _ _ => False
def gNames : List Nat → TGs
  | [] => gNil
  | i :: is => gCons (gName i) (gNames is)
def gOf (K : PySem.W.Frag) : Tg → TG
  | .nm i => gName i
  | .tp is => gTup K is.length (gNames is)
def Tg.slots : Tg → List Nat
  | .nm i => [i]
  | .tp is => is
section
variable {X : Cx} {A : Ad} {E : XK} {m : List Addr} {H : Hp}
theorem gNames_in (inv : L2.St → Prop) (Q : L2.St → Hp → Prop) : ∀ (is : List Nat) (ds : List D) (vs : List V) (σD σD' : Sl) (σ : L2.St), setTs is ds σD = some σD' → RepL A m H ds vs → RepS A m H σD σ →
    (∀ τ i v, i ∈ is → inv τ → inv (τ.set i (some v))) → inv σ → (∀ σ', RepS A m H σD' σ' → inv σ' → Q σ' H) → gNames is vs σ H Q
  | [], [], _, σD, σD', σ, h, .nil, Rs, hi, i0, k => by simp only [setTs] at h; cases h; exact ⟨rfl, k σ Rs i0⟩
  | [], d :: ds, _, σD, σD', σ, h, _, Rs, hi, i0, k => by simp only [setTs] at h; cases h
  | i :: is, [], _, σD, σD', σ, h, _, Rs, hi, i0, k => by simp only [setTs] at h; cases h
  | i :: is, d :: ds, _, σD, σD', σ, h, .cons a b, Rs, hi, i0, k => by
    simp only [setTs] at h
    exact ⟨_, _, rfl, gNames_in inv Q is ds _ _ σD' _ h b (Rs.set a i) (fun τ j v hj => hi τ j v (List.mem_cons_of_mem _ hj)) (hi _ _ _ List.mem_cons_self i0) k⟩
theorem gOf_in {K : PySem.W.Frag} (hK : A.K = K) (inv : L2.St → Prop) (Q : L2.St → Hp → Prop) {tg : Tg} {d : D} {v : V} {σD σD' : Sl} {σ : L2.St} (h : setTg tg d σD = some σD') (r : RepD A m H d v) (Rs : RepS A m H σD σ)
    (hi : ∀ τ i v, i ∈ tg.slots → inv τ → inv (τ.set i (some v))) (i0 : inv σ) (k : ∀ σ', RepS A m H σD' σ' → inv σ' → Q σ' H) : gOf K tg v σ H Q := by
  cases tg with
  | nm i =>
    simp only [setTg] at h; cases h
    exact k _ (Rs.set r i) (hi _ _ _ List.mem_cons_self i0)
  | tp is =>
    cases r with
    | tup t l =>
      simp only [setTg] at h
      refine ⟨_, _, rfl, hK ▸ t, ?_, gNames_in inv Q is _ _ _ _ _ h l Rs hi i0 k⟩
      rw [l.length]
      clear t l hi k i0 Rs
      revert h
      rename_i xs _ _
      induction is generalizing xs σD with
      | nil => intro h; cases xs <;> simp_all [setTs]
      | cons i is ih => intro h; cases xs with
        | nil => simp [setTs] at h
        | cons x xs => simp only [setTs] at h; rw [List.length_cons, List.length_cons, ih h]
    | _ => simp only [setTg] at h; cases h
theorem wipe_set {vs : List Nat} {i : Nat} {y : Option V} (h : i ∈ vs) : ∀ τ : L2.St, L2.wipe (τ.set i y) vs = L2.wipe τ vs := by
  induction vs with
  | nil => cases h
  | cons v vs ih =>
    intro τ
    have hw : ∀ (ws : List Nat) (τ : L2.St) (j : Nat) (y : Option V), L2.wipe (τ.set j y) ws = (L2.wipe τ ws).set j (if j ∈ ws then none else y) := by
      intro ws
      induction ws with
      | nil => intro τ j y; simp [L2.wipe]
      | cons w ws ih2 =>
        intro τ j y
        show (L2.wipe (τ.set j y) ws).set w none = ((L2.wipe τ ws).set w none).set j _
        rw [ih2]
        by_cases e : w = j
        · subst e
          rw [List.set_set, if_pos List.mem_cons_self, List.set_set]
        · rw [List.set_comm _ _ e]
          congr 1
          by_cases e2 : j ∈ ws
          · rw [if_pos e2, if_pos (List.mem_cons_of_mem _ e2)]
          · rw [if_neg e2, if_neg (by rw [List.mem_cons]; rintro (z | z); exact e z.symm; exact e2 z)]
    show (L2.wipe (τ.set i y) vs).set v none = (L2.wipe τ vs).set v none
    by_cases e : i ∈ vs
    · rw [ih e]
    · have e2 : i = v := by
        rcases List.mem_cons.mp h with z | z
        · exact z
        · exact absurd z e
      subst e2
      rw [hw, List.set_set]
theorem wipe_wipe (vs : List Nat) : ∀ τ : L2.St, L2.wipe (L2.wipe τ vs) vs = L2.wipe τ vs := by
  have : ∀ ws : List Nat, (∀ w ∈ ws, w ∈ vs) → ∀ τ : L2.St, L2.wipe (L2.wipe τ ws) vs = L2.wipe τ vs := by
    intro ws
    induction ws with
    | nil => intro _ τ; rfl
    | cons w ws ih =>
      intro h τ
      show L2.wipe ((L2.wipe τ ws).set w none) vs = _
      rw [wipe_set (h w List.mem_cons_self), ih (fun z hz => h z (List.mem_cons_of_mem _ hz))]
  exact fun τ => this vs (fun _ h => h) τ
def RE {α : Type} : List Addr → Hp → α → α → Prop := fun _ _ d b => d = b
theorem Post.tstb {m : List Addr} {H : Hp} {o : Out D} {Q : Bool → Hp → Prop} (p : Post A E RE m H (tstO o) Q) : Post A E RB m H o Q := by
  cases o with
  | ok d S1 =>
    intro m1 H1 x e1 R1 rx
    have e : d = .bl x := rx
    subst e
    exact p m1 H1 x e1 R1 rfl
  | err c fs S1 => exact p
  | bad => exact p
theorem s_pts0 : PTs X [] (tG A E RE fun _ S => .ok true S) := ⟨fun pins s σ H Q I hw => pts_nil.run pins s σ H Q I (let ⟨_, _, _, R, _, p⟩ := hw; p.ok R rfl)⟩
theorem s_pts1 {c : Expr} {fa : Sl → Sto → Out D} (h : PT X c (tT A E fa)) : PTs X [c] (tG A E RE fun σ S => tstO (fa σ S)) :=
  ⟨fun pins s σ H Q I hw => (pts_one h).run pins s σ H Q I (let ⟨m, S, σD, R, Rs, p⟩ := hw; ⟨m, S, σD, R, Rs, p.tstb⟩)⟩
theorem lc_in (hK : A.K = X.K) {fi : Sl → Sto → Out Walk} {tg : Tg} {ft : Sl → Sto → Out Bool} {fe : Sl → Sto → Out D} {vs : List Nat} (htg : ∀ i ∈ tg.slots, i ∈ vs) :
    ∀ σ H Q, tE A E (fun σ S => (fi σ S).bind fun w S => (lcLoop w tg (wipeD σ vs) S.length ft fe (wlen w S) 0 (S ++ [.lst []])).bind fun _ S' => .ok (.loc S.length) S') σ H Q →
      tLc (tI A E fi) (gOf X.K tg) (tG A EF RE ft) (tE A EF fe) vs σ H Q := by
  intro σ H Q ⟨m, S, σD, R, Rs, p⟩
  refine ⟨m, S, σD, R, Rs, p.seq.mono fun J H1 ⟨m1, S1, w, e1, R1, rj, p1⟩ D hD => ?_⟩
  obtain ⟨Ra, ea, ra⟩ := newCell (c := .lst []) (o := .lst []) R1 hD (.lst upd_same .nil)
  cases ra with
  | loc eD =>
  have Rw := (Rs.mono (e1.trans ea)).wipe vs
  refine ⟨fun i k H => ∃ m S', Ext A (m1 ++ [D]) (upd H1 D (.lst [])) m H ∧ Rep A m S' H ∧ Post A E (RepD A) m H ((lcLoop w tg (wipeD σD vs) S1.length ft fe k i S').bind fun _ S' => .ok (.loc S1.length) S') Q,
    ⟨wlen w S1, _, _, Ext.refl, Ra, Post.base p1 ea⟩, ?_⟩
  rintro i k H2 ⟨m2, S2, e2, R2, p2⟩
  have fin : ∀ {z : Out Unit}, z = .ok () S2 → Post A E (RepD A) m2 H2 (z.bind fun _ S' => .ok (.loc S1.length) S') Q → Q (.ref D) H2 := by
    intro z hz p
    subst hz
    exact p m2 H2 _ Ext.refl R2 (.loc (e2.loc _ _ eD))
  have hbad : ∀ {z : Out Unit} {m : List Addr} {H : Hp}, z = .bad → Post A E (RepD A) m H (z.bind fun _ S' => .ok (.loc S1.length) S') Q → False := by
    intro z m H hz p
    subst hz
    exact p
  have z := rj i m2 S2 H2 (ea.trans e2) R2
  cases hw : wgo w i S2 with
  | none =>
    exfalso
    cases k with
    | zero => exact hbad (by simp only [lcLoop, hw]) p2
    | succ k => exact hbad (by simp only [lcLoop, hw]) p2
  | some o =>
    rw [hw] at z
    cases o with
    | none =>
      refine .inl ⟨z, ?_⟩
      cases k with
      | zero => exact fin (by simp only [lcLoop, hw]) p2
      | succ k => exact fin (by simp only [lcLoop, hw]) p2
    | some d =>
      cases k with
      | zero => exact (hbad (by simp only [lcLoop, hw]) p2).elim
      | succ k =>
        obtain ⟨z1, z2⟩ := z
        refine .inr ⟨z1, _, fun H' hN => ⟨k, Nat.lt_succ_self k, hN⟩, fun x H3 hy => ?_⟩
        obtain ⟨e3, R3, rx⟩ := z2 x H3 hy
        have p3 := Post.base p2 e3
        simp only [lcLoop, hw] at p3
        cases hs : setTg tg d (wipeD σD vs) with
        | none => rw [hs] at p3; exact p3.elim
        | some σ' =>
          rw [hs] at p3
          dsimp only at p3
          refine gOf_in hK (fun τ => L2.wipe τ vs = L2.wipe σ vs) _ hs rx (Rw.mono (e2.trans e3)) (fun τ j v hj hτ => by rw [wipe_set (htg j hj)]; exact hτ) (wipe_wipe vs σ) fun σ2 Rs2 hw2 => ?_
          refine ⟨hw2, m2, S2, σ', R3, Rs2, ?_⟩
          revert p3
          cases ft σ' S2 with
          | err c fs S3 => exact fun p3 => p3.elim
          | bad => exact fun p3 => p3.elim
          | ok t S3 =>
            intro p3 m4 H4 b e4 R4 hb
            obtain rfl : t = b := hb
            have p4 := Post.base p3 e4
            cases t with
            | false => exact iteF ⟨m4, S3, (e2.trans e3).trans e4, R4, p4⟩
            | true =>
              refine iteT ⟨m4, S3, σ', R4, Rs2.mono e4, ?_⟩
              dsimp only at p4
              revert p4
              cases fe σ' S3 with
              | err c fs S5 => exact fun p4 => p4.elim
              | bad => exact fun p4 => p4.elim
              | ok v S5 =>
                intro p4 m6 H6 y e6 R6 ry
                have p6 := Post.base p4 e6
                dsimp only at p6
                have ex6 := ((e2.trans e3).trans e4).trans e6
                cases hn : S5[S1.length]? with
                | none => rw [hn] at p6; exact p6.elim
                | some c =>
                  rw [hn] at p6
                  cases c with
                  | lst acc =>
                    dsimp only at p6
                    obtain ⟨a1, ws, g0, g1, l1⟩ := R6.lst hn
                    rw [ex6.loc _ _ eD] at g0; cases g0
                    split at p6
                    · rename_i hl
                      obtain ⟨Rn, en⟩ := R6.setLst (ex6.loc _ _ eD) g1 (l1.app (.cons ry .nil))
                      exact ⟨ws, g1, by rw [l1.length]; exact hl, m6, _, ex6.trans en, Rn, Post.base p6 en⟩
                    · exact p6.elim
                  | _ => exact p6.elim
end
end DI

set_option Elab.async false
set_option linter.all false
set_option maxRecDepth 100000
set_option maxHeartbeats 4000000
/-! Calls with keywords, of defs without defaults. -/
namespace DI
open L2 PySem PySem.Spec PyProof.Rows
theorem repL_app {A : Ad} {m : List Addr} {H : Hp} : ∀ {ds dz : List D} {vs vz : List V}, RepL A m H ds vs → RepL A m H dz vz → RepL A m H (ds ++ dz) (vs ++ vz)
  | _, _, _, _, .nil, b => b
  | _, _, _, _, .cons h t, b => .cons h (repL_app t b)
theorem pmL_rel {A : Ad} {m : List Addr} {H : Hp} : ∀ (pm : List Nat) {ds : List D} {vs : List V}, RepL A m H ds vs → RepL A m H (pmL pm ds) (pmL pm vs)
  | [], _, _, _ => .nil
  | i :: pm, ds, vs, r => by
    unfold pmL
    rw [List.filterMap_cons, List.filterMap_cons]
    cases h : ds[i]? with
    | none =>
      have : vs[i]? = none := by
        rw [List.getElem?_eq_none_iff] at h ⊢
        rw [r.length]; exact h
      rw [this]
      exact pmL_rel pm r
    | some d =>
      obtain ⟨v, h1, h2⟩ := r.get h
      rw [h1]
      exact .cons h2 (pmL_rel pm r)
theorem vals_len {vs : List V} {us : List Value} (r : Vals vs us) : vs.length = us.length := r.length
theorem vals_get {vs : List V} {us : List Value} (r : Vals vs us) (i : Nat) : (vs[i]? = none ∧ us[i]? = none) ∨ ∃ v u, vs[i]? = some v ∧ us[i]? = some u ∧ RelV v u := by
  induction r generalizing i with
  | nil => exact .inl ⟨rfl, rfl⟩
  | @cons v u vs us h t ih =>
    cases i with
    | zero => exact .inr ⟨v, u, rfl, rfl, h⟩
    | succ i => simpa using ih i
theorem pmL_vals : ∀ (pm : List Nat) {vs : List V} {us : List Value}, Vals vs us → Vals (pmL pm vs) (pmL pm us)
  | [], _, _, _ => .nil
  | i :: pm, vs, us, r => by
    unfold pmL
    rw [List.filterMap_cons, List.filterMap_cons]
    rcases vals_get r i with ⟨h1, h2⟩ | ⟨v, u, h1, h2, h3⟩
    · rw [h1, h2]; exact pmL_vals pm r
    · rw [h1, h2]; exact .cons h3 (pmL_vals pm r)
theorem vals_app {vs zs : List V} {us ws : List Value} (a : Vals vs us) (b : Vals zs ws) : Vals (vs ++ zs) (us ++ ws) := by
  induction a with
  | nil => exact b
  | cons h _ ih => exact .cons h ih
/-- a shape of a call binds -/
abbrev KB (K : PySem.W.Frag) (fd : FuncData) (ps : List Str) (n : Nat) (ks : List Str) (pm : List Nat) : Prop := KBn K fd ps n ks (fun us ws => pmL pm (us ++ ws)) (fun vs zs => pmL pm (vs ++ zs))
theorem kb_of {K : PySem.W.Frag} {x qual : Str} {params : Arguments} {body : List Stmt} {scope : Scope} {kws : List (Str × V)} {f : Addr} {fd : FuncData} {ps ks : List Str} {n : Nat} {pm : List Nat} (F : FunD K x qual params body scope [] kws f fd)
    (h : ∀ (kV doc pmv : Value) (an : Option Addr) (cdv ct : Value) (us ws : List Value), us.length = n → ws.length = ks.length → bindArgs (PySem.W.fnOf x qual params body scope .none kV doc pmv an cdv ct) ⟨us, ks.zip ws⟩ = pure (ps.zip (pmL pm (us ++ ws)))) : KB K fd ps n ks pm := by
  obtain ⟨oc, od, dV, kV, doc, pmv, an, cdv, ct, osl, rfl, lk, hcd, hD, hK⟩ := F.ex
  rcases hD with ⟨_, rfl⟩ | ⟨e, _⟩
  · exact ⟨fun s us ws X l1 l2 => .of_eq (h kV doc pmv an cdv ct us ws l1 l2), fun r1 r2 => pmL_vals pm (vals_app r1 r2)⟩
  · exact absurd rfl e
section
variable {X : Cx} {A : Ad} {E : XK} {k n : Nat} {f : Addr} {fd : FuncData} {ps ks : List Str} {pm : List Nat} {g : List D → Sto → Out D} {fs fz : Sl → Sto → Out (List D)} {fo : Sl → Sto → Out D} {x mn : Str} {p pos apos kpos : Pos} {e o : Expr} {es : List Expr} {kws : List Keyword} {nm : Option Str} {t t' : TA} {fa : Sl → Sto → Out D}
theorem PKi (h : PK X kws t) (i : ∀ σ H Q, t' σ H Q → t σ H Q) : PK X kws t' := ⟨fun pos pins s σ H Q I q => h.run pos pins s σ H Q I (i σ H Q q)⟩
theorem k_nil : PK X [] (tAs A E fun _ S => .ok [] S) := PKi pk_nil fun σ H Q ⟨m, S, σD, R, Rs, p⟩ => p.ok R .nil
theorem k_cons (ha : PE X e (tE A E fa)) (hs : PK X kws (tAs A E fz)) : PK X (⟨nm, e, kpos⟩ :: kws) (tAs A E fun σ S => (fa σ S).bind fun d S => (fz σ S).bind fun ds S => .ok (d :: ds) S) :=
  PKi (pk_cons ha hs) fun σ H Q ⟨m, S, σD, R, Rs, p⟩ => ⟨m, S, σD, R, Rs, p.seq.mono fun v H1 ⟨m1, S1, d, e1, R1, r1, p1⟩ =>
    ⟨m1, S1, σD, R1, Rs.mono e1, p1.seq.mono fun vs H2 ⟨m2, S2, ds, e2, R2, r2, p2⟩ => p2.ok R2 (.cons (r1.mono e2) r2)⟩⟩
abbrev tCalK (A : Ad) (E : XK) (n nz : Nat) (pm : List Nat) (fs fz : Sl → Sto → Out (List D)) (g : List D → Sto → Out D) : TE := tE A E fun σ S => (fs σ S).bind fun ds S => (fz σ S).bind fun zs S => if ds.length = n ∧ zs.length = nz then g (pmL pm (ds ++ zs)) S else .bad
theorem calK_in (har : ∀ ds S, ds.length ≠ ps.length → g ds S = .bad) {t tk : TA} (ht : ∀ σ H Q, tAs A E fs σ H Q → t σ H Q) (htk : ∀ σ H Q, tAs A E fz σ H Q → tk σ H Q) : ∀ σ H Q, tCalK A E n ks.length pm fs fz g σ H Q → tCallN n ks.length (spC A ps.length g) (fun vs zs => pmL pm (vs ++ zs)) E t tk σ H Q :=
  fun σ H Q ⟨m, S, σD, R, Rs, p⟩ => ht σ H _ ⟨m, S, σD, R, Rs, p.seq.mono fun vs H1 ⟨m1, S1, ds, e1, R1, rl, p1⟩ => htk σ H1 _ ⟨m1, S1, σD, R1, Rs.mono e1, p1.seq.mono fun zs H2 ⟨m2, S2, dz, e2, R2, rz, p2⟩ => by
    split at p2
    · rename_i c
      refine ⟨by rw [rl.length]; exact c.1, by rw [rz.length]; exact c.2, m2, S2, _, R2, pmL_rel pm (repL_app (rl.mono e2) rz), ?_, p2⟩
      by_cases c : (pmL pm (ds ++ dz)).length = ps.length
      · exact c
      · rw [har _ S2 c] at p2; exact p2.elim
    · exact p2.elim⟩⟩
theorem s_callK (F : FnOk X.prog X.w X.K X.mg X.base (L2.CX X.prog X.w) k f fd ps (spC A ps.length g)) (hr : Room k X.A) (hg : Gl X x) (hm : X.mg x = some (.ref f)) (hk : PySem.W.keepIn X.K (.ref f) = true) (hb : KB X.K fd ps n ks pm)
    (tk : Takes X (fun cls d _ H => E cls d H)) (har : ∀ ds S, ds.length ≠ ps.length → g ds S = .bad) (ha : PA X (e :: es) (tAs A E fs)) (hz : PK X kws (tAs A E fz)) (hdb : (x == ("__debug__" : Str)) = false)
    (hall : (backToKw pos (keywordEach kws X.env)).all (·.1.isSome) = true) (hks : (backToKw pos (keywordEach kws X.env)).filterMap (·.1) = ks)
    (he : starEach (e :: es) X.env = (false, eval e X.env) :: starEach es X.env) (hpl : ((backTo pos (starEach (e :: es) X.env)).any (·.1) || (backToKw pos (keywordEach kws X.env)).any (·.1.isNone)) = false) :
    PE X (.Call (.Name x p) (e :: es) kws pos) (tCalK A E n ks.length pm fs fz g) :=
  PEi (pe_callN F hr hg hm hk hb (passes_call tk fun _ _ _ _ h => h) ha hz hall hks hdb he hpl) (calK_in har (fun _ _ _ h => h) fun _ _ _ h => h)
theorem s_callK0 (F : FnOk X.prog X.w X.K X.mg X.base (L2.CX X.prog X.w) k f fd ps (spC A ps.length g)) (hr : Room k X.A) (hg : Gl X x) (hm : X.mg x = some (.ref f)) (hk : PySem.W.keepIn X.K (.ref f) = true) (hb : KB X.K fd ps n ks pm)
    (tk : Takes X (fun cls d _ H => E cls d H)) (har : ∀ ds S, ds.length ≠ ps.length → g ds S = .bad) (hz : PK X kws (tAs A E fz)) (hdb : (x == ("__debug__" : Str)) = false)
    (hall : (backToKw pos (keywordEach kws X.env)).all (·.1.isSome) = true) (hks : (backToKw pos (keywordEach kws X.env)).filterMap (·.1) = ks)
    (hpl : ((backTo pos (starEach [] X.env)).any (·.1) || (backToKw pos (keywordEach kws X.env)).any (·.1.isNone)) = false) :
    PE X (.Call (.Name x p) [] kws pos) (tCalK A E n ks.length pm (fun _ S => .ok [] S) fz g) := by
  refine PEi (t := tCallN n ks.length (spC A ps.length g) (fun vs zs => pmL pm (vs ++ zs)) E tNil (tAs A E fz)) ⟨fun pins s σ H Q I h => ?_⟩ (calK_in har (fun σ H Q ⟨m, S, σD, R, Rs, p⟩ => p.ok R .nil) fun _ _ _ h => h)
  refine wpAny_Call_Name_kw (ld_glob I hg hm ?_ hdb)
  refine PySem.W.callWith_KW0 (h₀ := X.base) I.ok.mod.kin hk hall (thn (hz.run pos pins s σ H _ I h) fun ws s2 ⟨zs, H2, I2, rz, l1, l2, q2⟩ => ⟨I2.kIn, ?_⟩) hpl
  rw [hks]
  exact run_fnN F hr hb (passes_call tk fun _ _ _ _ h => h) I2 .nil rz l1 l2 q2
abbrev tMtK (A : Ad) (E : XK) (c : Nat) (mn : Str) (n nz : Nat) (pm : List Nat) (fo : Sl → Sto → Out D) (fs fz : Sl → Sto → Out (List D)) (g : List D → Sto → Out D) : TE :=
  tE A E fun σ S => (fo σ S).bind fun x S => match x with
    | .loc a => match S[a]? with
      | some (.ins c' fs') => if c' = c ∧ fs'.lookup mn = none then (fs σ S).bind fun ds S => (fz σ S).bind fun zs S => if ds.length + 1 = n ∧ zs.length = nz then g (pmL pm (x :: ds ++ zs)) S else .bad else .bad
      | _ => .bad
    | _ => .bad
theorem mtK_in {c : Nat} (har : ∀ ds S, ds.length ≠ ps.length → g ds S = .bad) {t tk : TA} (ht : ∀ σ H Q, tAs A E fs σ H Q → t σ H Q) (htk : ∀ σ H Q, tAs A E fz σ H Q → tk σ H Q) :
    ∀ σ H Q, tMtK A E c mn n ks.length pm fo fs fz g σ H Q → tE A E fo σ H fun x H1 => ∃ a dx ws, x = .ref a ∧ H1 a = some (.ins (A.cl c) dx ws) ∧ ws.lookup mn = none ∧ t σ H1 fun vs H2 => tk σ H2 fun zs H3 => (V.ref a :: vs).length = n ∧ zs.length = ks.length ∧ spC A ps.length g (pmL pm ((V.ref a :: vs) ++ zs)) H3 Q E :=
  fun σ H Q ⟨m, S, σD, R, Rs, p⟩ => ⟨m, S, σD, R, Rs, p.seq.mono fun x H1 ⟨m1, S1, dx, e1, R1, rx, p1⟩ => by
    cases rx with
    | @loc i a e =>
      dsimp only at p1
      split at p1
      · rename_i c' fs' hx
        split at p1
        · rename_i hc
          obtain ⟨rfl, hc2⟩ := hc
          obtain ⟨a1, dx, ws, m1', g1, l1⟩ := R1.ins hx
          rw [e] at m1'; cases m1'
          refine ⟨_, dx, ws, rfl, g1, ?_, ht σ H1 _ ⟨m1, S1, σD, R1, Rs.mono e1, p1.seq.mono fun vs H2 ⟨m2, S2, ds, e2, R2, rl, p2⟩ => htk σ H2 _ ⟨m2, S2, σD, R2, (Rs.mono e1).mono e2, p2.seq.mono fun zs H3 ⟨m3, S3, dz, e3, R3, rz, p3⟩ => ?_⟩⟩⟩
          · rcases l1.lookup (f := mn) with ⟨d', v, h1, h2, h3⟩ | ⟨_, h2⟩
            · rw [hc2] at h1; cases h1
            · exact h2
          · split at p3
            · rename_i cc
              refine ⟨by rw [List.length_cons, rl.length]; exact cc.1, by rw [rz.length]; exact cc.2, m3, S3, _, R3, pmL_rel pm (repL_app (.cons (.loc ((e2.trans e3).loc _ _ e)) (rl.mono e3)) rz), ?_, p3⟩
              by_cases c : (pmL pm (D.loc i :: ds ++ dz)).length = ps.length
              · exact c
              · rw [har _ S3 c] at p3; exact p3.elim
            · exact p3.elim
        · exact p1.elim
      · exact p1.elim
    | _ => exact (show False from p1).elim⟩
theorem s_methK {c : Nat} {pl : Sem Bool} (he0 : PE X o (tE A E fo)) (cl : Cls X.K (A.cl c)) (hme : Meth X.K (A.cl c) mn f) (F : FnOk X.prog X.w X.K X.mg X.base (L2.CX X.prog X.w) k f fd ps (spC A ps.length g)) (hr : Room k X.A) (hb : KB X.K fd ps n ks pm)
    (tk : Takes X (fun cls d _ H => E cls d H)) (har : ∀ ds S, ds.length ≠ ps.length → g ds S = .bad) (ha : PA X (e :: es) (tAs A E fs)) (hz : PK X kws (tAs A E fz))
    (hall : (backToKw pos (keywordEach kws X.env)).all (·.1.isSome) = true) (hks : (backToKw pos (keywordEach kws X.env)).filterMap (·.1) = ks)
    (he : starEach (e :: es) X.env = (false, eval e X.env) :: starEach es X.env) (hpl : ((backTo pos (starEach (e :: es) X.env)).any (·.1) || (backToKw pos (keywordEach kws X.env)).any (·.1.isNone)) = false)
    (ht : eval (.Call (.Attribute o mn apos) (e :: es) kws pos) X.env = (do
      let ov ← eval o X.env
      standAt apos.atName
      let (f, first) ← holding [ov] (getMethod ov mn pl)
      callWith pos f first (backTo pos (starEach (e :: es) X.env)) (backToKw pos (keywordEach kws X.env)))) :
    PE X (.Call (.Attribute o mn apos) (e :: es) kws pos) (tMtK A E c mn n ks.length pm fo fs fz g) := by
  refine ⟨fun pins s σ H Q I h => ?_⟩
  have h2 := mtK_in (ks := ks) har (fun _ _ _ h => h) (fun _ _ _ h => h) σ H Q h
  refine PySem.W.methodCall_KW (pl := pl) (thn (he0.run pins s σ H _ I h2) fun u s1 ⟨x, H1, I1, rx, a, dx, fs, ex, ea, l, q⟩ => ?_) ht
  subst ex
  obtain rfl : u = Value.ref a := rx
  refine getmeth_ok I1 ea cl hme l ?_
  refine PySem.W.callWith_KW (first := [.ref a]) (h₀ := X.base) I.ok.mod.kin hme.kp hall (thn (ha.run pos pins s1 σ H1 _ I1 q) fun us s2 ⟨vs, H2, I2, r, q2⟩ => ?_) hpl he
  refine thn (hz.run pos pins s2 σ H2 _ I2 q2) fun ws s3 ⟨zs, H3, I3, rz, l1, l2, q3⟩ => ⟨I3.kIn, ?_⟩
  rw [hks]
  exact run_fnN (us := .ref a :: us) (vs := .ref a :: vs) F hr hb (passes_call tk fun _ _ _ _ h => h) I3 (.cons rfl r) rz l1 l2 q3
theorem s_methK0 {c : Nat} {pl : Sem Bool} (he0 : PE X o (tE A E fo)) (cl : Cls X.K (A.cl c)) (hme : Meth X.K (A.cl c) mn f) (F : FnOk X.prog X.w X.K X.mg X.base (L2.CX X.prog X.w) k f fd ps (spC A ps.length g)) (hr : Room k X.A) (hb : KB X.K fd ps n ks pm)
    (tk : Takes X (fun cls d _ H => E cls d H)) (har : ∀ ds S, ds.length ≠ ps.length → g ds S = .bad) (hz : PK X kws (tAs A E fz))
    (hall : (backToKw pos (keywordEach kws X.env)).all (·.1.isSome) = true) (hks : (backToKw pos (keywordEach kws X.env)).filterMap (·.1) = ks)
    (hpl : ((backTo pos (starEach [] X.env)).any (·.1) || (backToKw pos (keywordEach kws X.env)).any (·.1.isNone)) = false)
    (ht : eval (.Call (.Attribute o mn apos) [] kws pos) X.env = (do
      let ov ← eval o X.env
      standAt apos.atName
      let (f, first) ← holding [ov] (getMethod ov mn pl)
      callWith pos f first (backTo pos (starEach [] X.env)) (backToKw pos (keywordEach kws X.env)))) :
    PE X (.Call (.Attribute o mn apos) [] kws pos) (tMtK A E c mn n ks.length pm fo (fun _ S => .ok [] S) fz g) := by
  refine ⟨fun pins s σ H Q I h => ?_⟩
  have h2 := mtK_in (t := tNil) (ks := ks) har (fun σ H Q ⟨m, S, σD, R, Rs, p⟩ => p.ok R .nil) (fun _ _ _ h => h) σ H Q h
  refine PySem.W.methodCall_KW (pl := pl) (thn (he0.run pins s σ H _ I h2) fun u s1 ⟨x, H1, I1, rx, a, dx, fs, ex, ea, l, q⟩ => ?_) ht
  subst ex
  obtain rfl : u = Value.ref a := rx
  refine getmeth_ok I1 ea cl hme l ?_
  refine PySem.W.callWith_KW0 (first := [.ref a]) I1.kIn hme.kp hall (thn (hz.run pos pins s1 σ H1 _ I1 q) fun ws s3 ⟨zs, H3, I3, rz, l1, l2, q3⟩ => ⟨I3.kIn, ?_⟩) hpl
  rw [hks]
  exact run_fnN (us := [.ref a]) (vs := [.ref a]) F hr hb (passes_call tk fun _ _ _ _ h => h) I3 (.cons rfl .nil) rz l1 l2 q3
end
/-! ### list(range(a, b)) -/
theorem lrg_rep {A : Ad} {m : List Addr} {H : Hp} (i j : Int) : RepL A m H (lrgD i j) (rgV i j) := by
  unfold lrgD rgV
  generalize List.range (j - i).toNat = l
  induction l with
  | nil => exact .nil
  | cons n l ih => exact .cons (.int _) ih
theorem lrg_of {lo hi : Int} (h : lrgOk lo hi = true) : RgOk lo hi := by
  unfold lrgOk at h
  have := of_decide_eq_true h
  exact this
theorem s_lrg {X : Cx} {A : Ad} {E : XK} {a b : Expr} {fa fb : Sl → Sto → Out D} {p p2 pos pos2 : Pos} (hc : X.calm = true) (hgl : Gl X "list") (hml : X.mg "list" = none) (hg : Gl X "range") (hm : X.mg "range" = none) (ha : PE X a (tE A E fa)) (hb : PE X b (tE A E fb))
    (hs : starEach [a, b] X.env = (false, eval a X.env) :: starEach [b] X.env) (hs2 : starEach [b] X.env = (false, eval b X.env) :: starEach [] X.env) (hs3 : starEach [Expr.Call (.Name "range" p) [a, b] [] pos] X.env = (false, eval (.Call (.Name "range" p) [a, b] [] pos) X.env) :: starEach [] X.env) :
    PE X (.Call (.Name "list" p2) [.Call (.Name "range" p) [a, b] [] pos] [] pos2) (tE A E fun σ S => (fa σ S).bind fun x S => (fb σ S).bind fun y S => match x, y with
      | .int i, .int j => if lrgOk i j = true then .ok (.loc S.length) (S ++ [.lst (lrgD i j)]) else .bad
      | _, _ => .bad) :=
  PEi (pe_listRg hc hgl hml (prg_2 hg hm ha hb hs hs2 (by rw [hs2]; rfl)) hs3) fun σ H Q ⟨m, S, σD, R, Rs, p⟩ => ⟨m, S, σD, R, Rs, p.seq.mono fun x H1 ⟨m1, S1, dx, e1, R1, rx, p1⟩ => ⟨m1, S1, σD, R1, Rs.mono e1, p1.seq.mono fun y H2 ⟨m2, S2, dy, e2, R2, ry, p2⟩ => by
    cases rx with
    | int i =>
      cases ry with
      | int j =>
        dsimp only at p2
        split at p2
        · rename_i hr
          refine ⟨i, j, rfl, rfl, lrg_of hr, fun q hq => ?_⟩
          obtain ⟨Rn, en, rn⟩ := newLst R2 (lrg_rep i j) hq
          exact p2 _ _ _ en Rn rn
        · exact p2.elim
      | _ => exact (show False from p2).elim
    | _ => exact (show False from p2).elim⟩⟩
end DI

set_option Elab.async false
set_option linter.all false
set_option maxRecDepth 100000
set_option maxHeartbeats 4000000
/-! When a text of the model is one of the language, and that it does then what the language says: expressions. -/
namespace DI
open L2 PySem PySem.Spec PyProof.Rows

/-- the program's names -/
structure PN where
  nfn : Nat
  fnl : List (Nat × Str)
  cls : List Nat
  cll : List (Nat × Str)
  mts : List (Nat × Str × Nat)
  inis : List (Nat × Nat)
  flds : List (Nat × Str)
  free : List Str
  xcs : List (Nat × Str)
  kbs : List (Nat × Nat × List Str × List Nat) := []
structure CC where
  N : List Str
  sc : Scope
  fn : Str → Bool
  pn : PN
/-- what the head says of the program's names -/
structure Facts (A : Ad) (P : Pg) (pn : PN) (K : PySem.W.Frag) (mg : Str → Option Value) : Prop where
  fn : ∀ p ∈ pn.fnl, mg p.2 = some (.ref (A.fn p.1)) ∧ PySem.W.keepIn K (.ref (A.fn p.1)) = true
  cls : ∀ c ∈ pn.cls, Cls K (A.cl c)
  cll : ∀ p ∈ pn.cll, mg p.2 = some (.ref (A.cl p.1))
  mt : ∀ p ∈ pn.mts, Meth K (A.cl p.1) p.2.1 (A.fn p.2.2)
  ini : ∀ p ∈ pn.inis, Mk K (A.cl p.1) (A.fn p.2)
  fld : ∀ p ∈ pn.flds, NoAttr K (A.cl p.1) p.2
  free : ∀ x ∈ pn.free, mg x = none
  xc : ∀ p ∈ pn.xcs, mg p.2 = some (.ref (A.cl p.1)) ∧ PySem.W.excIn K (A.cl p.1) [.type "ValueError", .type "Exception", .type "BaseException", .type "object"] "ValueError.__new__" = true ∧ PySem.W.keepIn K (.ref (A.cl p.1)) = true ∧ PySem.W.subIn K (.ref (A.cl p.1)) (.type "BaseException") = some true ∧ PySem.W.typeIn K (.ref (A.cl p.1)) = some (.type "type")
  dat : ∀ (x : Str) (d : D), P.glo x = some d → ∃ v u, mg x = some u ∧ RelV v u ∧ ∀ m H, RepD A m H d v
def vis (sc : Scope) (x : Str) : Bool := match sc.names.lookup x with | some .local => true | some .cell => true | some .free => true | _ => false
def lcl (cc : CC) (x : Str) : Bool := match cc.sc.names.lookup x with | some .local => true | some .cell => cc.fn x | _ => false
def glb (sc : Scope) (x : Str) : Bool := match sc.names.lookup x with | some .globalImplicit => true | _ => false
def okBase : Expr → Bool | .Call (.Attribute _ _ _) [] [] _ => true | .Call _ [] [] _ => false | _ => true
def notStar : Expr → Bool | .Starred _ _ => false | _ => true
def notSlice : Expr → Bool | .Slice _ _ _ _ => false | _ => true
def notSet : Expr → Bool | .Set _ _ _ => false | _ => true
def isBO : Expr → Bool | .BoolOp _ _ _ => true | _ => false
def CC.blk (cc : CC) (scope : Scope) : CC := { cc with sc := relS scope cc.sc, fn := fun x => scope.names.lookup x == some .cell }
def chkLit : Lit → Const → Bool
  | .non, .none => true
  | .bl b, .bool c => b == c
  | .int i, .int j => decide (i = j)
  | .str x, .str y => decide (x = y)
  | _, _ => false
def chkNm (cc : CC) (i : Nat) : Expr → Bool
  | .Name x _ => decide (cc.N[i]? = some x) && lcl cc x
  | _ => false
def chkNms (cc : CC) : List Nat → List Expr → Bool
  | [], [] => true
  | i :: is, e :: es => chkNm cc i e && chkNms cc is es
  | _, _ => false
def chkTg (cc : CC) : Tg → Expr → Bool
  | .nm i, e => chkNm cc i e
  | .tp is, .Tuple es _ _ => chkNms cc is es
  | _, _ => false
def noDbg (x : Str) : Bool := !(x == ("__debug__" : Str)) && !(x == ("__classdict__" : Str)) && !(x == ("__name__" : Str))
def isTup : Expr → Bool | .Tuple _ _ _ => true | _ => false
def call1 : Expr → Option (Str × Expr) | .Call (.Name x _) [e] [] _ => some (x, e) | _ => none
def call2 : Expr → Option (Str × Expr × Expr) | .Call (.Name x _) [e, e2] [] _ => some (x, e, e2) | _ => none
theorem call1_eq {e a : Expr} {x : Str} (h : call1 e = some (x, a)) : ∃ p pos, e = .Call (.Name x p) [a] [] pos := by
  unfold call1 at h
  split at h
  · cases h; exact ⟨_, _, rfl⟩
  · cases h
theorem call2_eq {e a b : Expr} {x : Str} (h : call2 e = some (x, a, b)) : ∃ p pos, e = .Call (.Name x p) [a, b] [] pos := by
  unfold call2 at h
  split at h
  · cases h; exact ⟨_, _, rfl⟩
  · cases h
mutual
def chk (cc : CC) : Ex → Expr → Bool
  | .cst l, .Constant c _ _ => chkLit l c
  | .var i, .Name x _ => decide (cc.N[i]? = some x) && vis cc.sc x && noDbg x
  | .glo y, .Name x _ => decide (x = y) && glb cc.sc x && noDbg x
  | .bty n, .Name x _ => decide (x = n) && glb cc.sc x && noDbg x && decide (x ∈ cc.pn.free) && decide (bootBuiltins x = some (.type n))
  | .bin o a b, .BinOp l op r _ => decide (o = op) && chk cc a l && chk cc b r
  | .neg a, .UnaryOp .USub e _ => chk cc a e
  | .cmp o a b, .Compare l [op] [r] _ => decide (o = op) && chk cc a l && chk cc b r && !(behindInMarks op r)
  | .chn o o' a b c, .Compare l [op, op'] [r, r'] _ => decide (o = op) && decide (o' = op') && chk cc a l && chk cc b r && chk cc c r' && !(lastMarks [op, op'] [r, r'])
  | .and_ a b, .BoolOp .And (e :: es) pos => chk cc a e && (match es with | [e2] => chk cc b e2 | e2 :: e3 :: r => chk cc b (.BoolOp .And (e2 :: e3 :: r) pos) | [] => false)
  | .or_ a b, .BoolOp .Or (e :: es) pos => chk cc a e && (match es with | [e2] => chk cc b e2 | e2 :: e3 :: r => chk cc b (.BoolOp .Or (e2 :: e3 :: r) pos) | [] => false)
  | .not_ a, .UnaryOp .Not e _ => chk cc a e
  | .ite t a b, .IfExp c x y _ => chk cc t c && chk cc a x && chk cc b y
  | .fld c o f, .Attribute e f' _ => decide (f = f') && decide (c ∈ cc.pn.cls) && decide ((c, f) ∈ cc.pn.flds) && okBase e && chk cc o e
  | .ix o i, .Subscript e s _ => notSlice s && chk cc o e && chk cc i s
  | .sl o lo hi, .Subscript e (.Slice l h none _) _ => chk cc o e && chkO cc lo l && chkO cc hi h
  | .tup es, .Tuple l _ _ => chks cc es l
  | .lst es, .List l _ => chks cc es l
  | .dct0 _, .Dict [] [] _ => true
  | .cal j es, .Call (.Name x _) l [] _ => decide ((j, x) ∈ cc.pn.fnl) && decide (j < cc.pn.nfn) && glb cc.sc x && noDbg x && chks cc es l
  | .mk c j es, .Call (.Name x _) l [] _ => decide ((c, x) ∈ cc.pn.cll) && decide ((c, j) ∈ cc.pn.inis) && decide (j < cc.pn.nfn) && glb cc.sc x && noDbg x && chks cc es l
  | .mth c j o m es, .Call (.Attribute e m' apos) l [] pos => decide (m = m') && decide ((c, m, j) ∈ cc.pn.mts) && decide (c ∈ cc.pn.cls) && decide (j < cc.pn.nfn) && okBase e && (apos.endLine == pos.line) && decide (l.length < 30) && chk cc o e && chks cc es l
  | .bi b es, .Call (.Name x _) l [] _ => decide (x = b.name) && decide (x ∈ cc.pn.free) && glb cc.sc x && !l.isEmpty && chks cc es l
  | .bm b o es, .Call (.Attribute e m' apos) l [] pos => decide (m' = b.name) && okBase e && (apos.endLine == pos.line) && decide (l.length < 30) && chk cc o e && chks cc es l
  | .lc own tg it ifs elt, .ListComp e [⟨t, iter, fs, a⟩] scope _ => decide (a = 0) && blkC cc.N cc.sc scope own && chkTg (cc.blk scope) tg t && tg.slots.all (fun i => decide (i ∈ own.map (·.2))) && notSet iter && chkI cc it t iter && chkF (cc.blk scope) ifs fs && chk (cc.blk scope) elt e
  | .lrg a b, .Call (.Name x _) [e] [] _ => decide (x = "list") && decide (x ∈ cc.pn.free) && glb cc.sc x && notStar e && (match call2 e with
    | some (y, u, v) => decide (y = "range") && decide (y ∈ cc.pn.free) && glb cc.sc y && notStar u && notStar v && chk cc a u && chk cc b v
    | none => false)
  | .calK j n ks pm es kes, .Call (.Name x _) l kws pos => decide ((j, x) ∈ cc.pn.fnl) && decide (j < cc.pn.nfn) && decide ((j, n, ks, pm) ∈ cc.pn.kbs) && glb cc.sc x && noDbg x && chks cc es l && chkK cc ks kes kws && !kws.isEmpty
  | .mthK c j o m n ks pm es kes, .Call (.Attribute e m' apos) l kws pos => decide (m = m') && decide ((c, m, j) ∈ cc.pn.mts) && decide (c ∈ cc.pn.cls) && decide (j < cc.pn.nfn) && decide ((j, n, ks, pm) ∈ cc.pn.kbs) && okBase e && (apos.endLine == pos.line) && decide (l.length + kws.length < 29) && chk cc o e && chks cc es l && chkK cc ks kes kws && !kws.isEmpty
  | _, _ => false
def chkK (cc : CC) : List Str → Exs → List Keyword → Bool
  | [], .nil, [] => true
  | k :: ks, .cons t ts, ⟨nm, e, _⟩ :: kws => decide (nm = some k) && notStar e && chk cc t e && chkK cc ks ts kws
  | _, _, _ => false
def chks (cc : CC) : Exs → List Expr → Bool
  | .nil, [] => true
  | .cons t ts, e :: es => notStar e && chk cc t e && chks cc ts es
  | _, _ => false
def chkF (cc : CC) : Exs → List Expr → Bool
  | .nil, [] => true
  | .cons t .nil, [e] => chk cc t e
  | _, _ => false
def chkO (cc : CC) : Ox → Option Expr → Bool
  | .no, none => true
  | .so t, some e => chk cc t e
  | _, _ => false
def chkI (cc : CC) : Ir → Expr → Expr → Bool
  | .ex t, _, e => chk cc t e
  | .rng1 t, _, e => match call1 e with
    | some (x, e) => decide (x = "range") && decide (x ∈ cc.pn.free) && glb cc.sc x && notStar e && chk cc t e
    | none => false
  | .rng2 t u, _, e => match call2 e with
    | some (x, e, e2) => decide (x = "range") && decide (x ∈ cc.pn.free) && glb cc.sc x && notStar e && notStar e2 && chk cc t e && chk cc u e2
    | none => false
  | .enum t, tg, e => match call1 e with
    | some (x, e) => decide (x = "enumerate") && decide (x ∈ cc.pn.free) && glb cc.sc x && isTup tg && notStar e && chk cc t e
    | none => false
end
structure Good (A : Ad) (P : Pg) (C : Nat → List D → Sto → Out D) (X : Cx) (E : XK) (k : Nat) (cc : CC) : Prop where
  hK : A.K = X.K
  calm : X.calm = true
  room : Room (k + 1) X.A
  nd : X.N.Nodup
  tk : Takes X (fun cls d _ H => E cls d H)
  pass : PassesOwn (model X.prog X.w) X.A X.env X.xe
  facts : Facts A P cc.pn X.K X.mg
  fns : ∀ j, j < cc.pn.nfn → ∃ fd ps, FnOk X.prog X.w X.K X.mg X.base (L2.CX X.prog X.w) k (A.fn j) fd ps (spC A ps.length (C j)) ∧ Binds X.K fd ps [] ∧ (∀ ds S, ds.length ≠ ps.length → C j ds S = .bad) ∧ ∀ n ks pm, (j, n, ks, pm) ∈ cc.pn.kbs → KB X.K fd ps n ks pm
  hN : X.N = cc.N
  sc : X.env.scope = cc.sc
  fn : X.fn = cc.fn
section
variable {A : Ad} {P : Pg} {C : Nat → List D → Sto → Out D} {X : Cx} {E : XK} {k : Nat} {cc : CC}
theorem Good.blk (G : Good A P C X E k cc) (s : Shared) (H : Hp) (scope : Scope) (Ca : Addr) (cl : List (Str × Addr)) (fp : List Addr) : Good A P C (X.blk s H scope (compEnvC scope cl Ca X.env) fp) EF k (cc.blk scope) where
  hK := G.hK
  calm := G.calm
  room := G.room
  nd := G.nd
  tk := takes0
  pass := PassesOwn.never
  facts := G.facts
  fns := G.fns
  hN := G.hN
  sc := by
    show relabel scope X.env = relS scope cc.sc
    rw [← G.sc] <;> rfl
  fn := rfl
theorem Good.hu (G : Good A P C X E k cc) : X.A.units + 64 < cLine := G.room.units
theorem Good.vis (G : Good A P C X E k cc) {x : Str} (h : vis cc.sc x = true) : Vis X.env.scope x := by
  rw [G.sc]
  unfold DI.vis at h
  split at h
  · exact .inl (by assumption)
  · exact .inr (.inl (by assumption))
  · exact .inr (.inr (by assumption))
  · cases h
theorem Good.glb (G : Good A P C X E k cc) {x : Str} (h : glb cc.sc x = true) : Gl X x := by
  show X.env.scope.names.lookup x = _
  rw [G.sc]
  unfold DI.glb at h
  split at h
  · assumption
  · cases h
theorem Good.lcl (G : Good A P C X E k cc) {x : Str} (h : lcl cc x = true) : Loc X.env.scope x ∧ (X.fn x = true ∨ X.env.scope.names.lookup x = some .local) := by
  rw [G.sc, G.fn]
  unfold DI.lcl at h
  split at h
  · exact ⟨.inl (by assumption), .inr (by assumption)⟩
  · exact ⟨.inr (by assumption), .inl h⟩
  · cases h
theorem noDbg_ {x : Str} (h : noDbg x = true) : (x == ("__debug__" : Str)) = false ∧ (x == ("__classdict__" : Str)) = false ∧ x ≠ "__name__" := by
  simp only [noDbg, Bool.and_eq_true, Bool.not_eq_true', beq_eq_false_iff_ne] at h
  exact ⟨beq_eq_false_iff_ne.mpr h.1.1, beq_eq_false_iff_ne.mpr h.1.2, h.2⟩
theorem base_ok {o : Expr} {f : Str} {env : Env} {w : Sem Value} (h : okBase o = true) : attributeBase o f env w = w := by
  cases o <;> first | rfl | skip
  rename_i fn args kws pos
  cases args with
  | nil => cases kws with
    | nil => cases fn <;> first | rfl | cases h
    | cons _ _ => cases fn <;> rfl
  | cons _ _ => cases fn <;> rfl
theorem star_ok {e : Expr} {es : List Expr} {env : Env} (h : notStar e = true) : starEach (e :: es) env = (false, eval e env) :: starEach es env := by
  cases e <;> first | rfl | cases h
theorem slice_ok {e : Expr} (h : notSlice e = true) : PlainIx e := by
  intro o i
  cases e <;> first | rfl | cases h
theorem set_ok {e : Expr} {env : Env} (h : notSet e = true) : ∀ x, foldedSetIterable e env x = pure x := by
  intro x
  cases e <;> first | rfl | cases h
theorem chks_star : ∀ {ts : Exs} {es : List Expr}, chks cc ts es = true → ∀ e ∈ es, notStar e = true
  | .nil, [], _, e, he => by cases he
  | .nil, _ :: _, h, _, _ => by simp [chks] at h
  | .cons _ _, [], h, _, _ => by simp [chks] at h
  | .cons t ts, e :: es, h, x, hx => by
    simp only [chks, Bool.and_eq_true] at h
    rcases List.mem_cons.mp hx with rfl | hx
    · exact h.1.1
    · exact chks_star h.2 x hx
theorem star_any : ∀ {es : List Expr} {env : Env} {pos : Pos}, (∀ e ∈ es, notStar e = true) → (backTo pos (starEach es env)).any (·.1) = false
  | [], _, _, _ => rfl
  | e :: es, env, pos, h => by
    rw [star_ok (h e List.mem_cons_self)]
    show (false || (backTo pos (starEach es env)).any (·.1)) = false
    rw [star_any fun x hx => h x (List.mem_cons_of_mem _ hx)] <;> rfl
theorem star_all : ∀ {es : List Expr} {env : Env} {pos : Pos}, (∀ e ∈ es, notStar e = true) → (backTo pos (starEach es env)).all (fun x => !x.1) = true
  | [], _, _, _ => rfl
  | e :: es, env, pos, h => by
    rw [star_ok (h e List.mem_cons_self)]
    show (true && (backTo pos (starEach es env)).all (fun x => !x.1)) = true
    rw [star_all fun x hx => h x (List.mem_cons_of_mem _ hx)] <;> rfl
theorem few_ok {es : List Expr} {env : Env} {pos : Pos} (h : ∀ e ∈ es, notStar e = true) (hl : es.length < 30) :
    ((backTo pos (starEach es env)).all (fun x => !x.1) && (backToKw pos (keywordEach [] env)).all (fun x => x.1.isSome)
      && decide (es.length + ([] : List Keyword).length + (if ([] : List Keyword).isEmpty then 0 else 1) < 30)) = true := by
  rw [star_all h]
  show (true && true && decide (es.length < 30)) = true
  rw [decide_eq_true hl] <;> rfl
theorem meth_ok {o : Expr} {m : Str} {apos pos : Pos} {es : List Expr} {env : Env} (hb : okBase o = true) (hl : (apos.endLine == pos.line) = true) (hs : ∀ e ∈ es, notStar e = true) (hn : es.length < 30) :
    eval (.Call (.Attribute o m apos) es [] pos) env = (do
      let ov ← eval o env
      standAt apos.atName
      let (f, first) ← holding [ov] (getMethod ov m (plainOf o env))
      callWith pos f first (backTo pos (starEach es env)) (backToKw pos (keywordEach [] env))) := by
  have hf : methodCallForm (es.length + ([] : List Keyword).length) (backTo pos (starEach es env)) (backToKw pos (keywordEach [] env)) = true := by
    unfold methodCallForm
    rw [star_all hs]
    show (true && true && decide (es.length < 30)) = true
    rw [decide_eq_true hn] <;> rfl
  show (do
    let ov ← attributeBase o m env (eval o env)
    standAt apos.atName
    methodCall o m apos pos env ov (es.length + ([] : List Keyword).length) (backTo pos (starEach es env)) (backToKw pos (keywordEach [] env))) = _
  rw [base_ok hb]
  congr 1
  funext ov
  congr 1
  funext _
  exact mcall_line hf hl
theorem kw_names {cc : CC} {env : Env} {pos : Pos} : ∀ {ks : List Str} {ts : Exs} {kws : List Keyword}, chkK cc ks ts kws = true → (backToKw pos (keywordEach kws env)).all (·.1.isSome) = true ∧ (backToKw pos (keywordEach kws env)).filterMap (·.1) = ks ∧ (backToKw pos (keywordEach kws env)).any (·.1.isNone) = false
  | [], .nil, [], _ => ⟨rfl, rfl, rfl⟩
  | k :: ks, .cons t ts, ⟨nm, e, p⟩ :: kws, h => by
    simp only [chkK, Bool.and_eq_true, decide_eq_true_eq] at h
    obtain ⟨⟨⟨rfl, h2⟩, h3⟩, h4⟩ := h
    obtain ⟨i1, i2, i3⟩ := kw_names (env := env) (pos := pos) h4
    refine ⟨?_, ?_, ?_⟩
    · show (true && (backToKw pos (keywordEach kws env)).all (·.1.isSome)) = true
      rw [i1]; rfl
    · show k :: (backToKw pos (keywordEach kws env)).filterMap (·.1) = k :: ks
      rw [i2]
    · show (false || (backToKw pos (keywordEach kws env)).any (·.1.isNone)) = false
      rw [i3]; rfl
  | [], .nil, _ :: _, h => by simp [chkK] at h
  | [], .cons _ _, _, h => by simp [chkK] at h
  | _ :: _, .nil, _, h => by simp [chkK] at h
  | _ :: _, .cons _ _, [], h => by simp [chkK] at h
theorem meth_okK {o : Expr} {m : Str} {apos pos : Pos} {es : List Expr} {kws : List Keyword} {env : Env} (hb : okBase o = true) (hl : (apos.endLine == pos.line) = true) (hs : ∀ e ∈ es, notStar e = true) (hn : es.length + kws.length < 29) (hk : (backToKw pos (keywordEach kws env)).all (·.1.isSome) = true) :
    eval (.Call (.Attribute o m apos) es kws pos) env = (do
      let ov ← eval o env
      standAt apos.atName
      let (f, first) ← holding [ov] (getMethod ov m (plainOf o env))
      callWith pos f first (backTo pos (starEach es env)) (backToKw pos (keywordEach kws env))) := by
  have hf : methodCallForm (es.length + kws.length) (backTo pos (starEach es env)) (backToKw pos (keywordEach kws env)) = true := by
    unfold methodCallForm
    rw [star_all hs, hk]
    show (true && true && decide (es.length + kws.length + (if (backToKw pos (keywordEach kws env)).isEmpty = true then 0 else 1) < 30)) = true
    rw [decide_eq_true (by split <;> omega)] <;> rfl
  show (do
    let ov ← attributeBase o m env (eval o env)
    standAt apos.atName
    methodCall o m apos pos env ov (es.length + kws.length) (backTo pos (starEach es env)) (backToKw pos (keywordEach kws env))) = _
  rw [base_ok hb]
  congr 1
  funext ov
  congr 1
  funext _
  exact mcall_line hf hl
theorem tg_nm (G : Good A P C X E k cc) {i : Nat} {e : Expr} (h : chkNm cc i e = true) : PG X e (gName i) ∧ ∀ es env, assignEach (e :: es) env = (false, assign e env) :: assignEach es env := by
  cases e <;> simp only [chkNm, Bool.and_eq_true, decide_eq_true_eq] at h <;> first | (cases h; done) | skip
  obtain ⟨h1, h2⟩ := G.lcl h.2
  exact ⟨pg_name G.nd (by rw [G.hN]; exact h.1) h1 h2, fun _ _ => rfl⟩
theorem tg_nms (G : Good A P C X E k cc) : ∀ {is : List Nat} {es : List Expr}, chkNms cc is es = true → PGs X es (gNames is) ∧ ∀ env, (assignEach es env).length = is.length ∧ (assignEach es env).findIdx? (·.1) = none
  | [], [], _ => ⟨pgs_nil, fun _ => ⟨rfl, rfl⟩⟩
  | [], _ :: _, h => by simp [chkNms] at h
  | _ :: _, [], h => by simp [chkNms] at h
  | i :: is, e :: es, h => by
    simp only [chkNms, Bool.and_eq_true] at h
    obtain ⟨a1, a2⟩ := tg_nm G h.1
    obtain ⟨b1, b2⟩ := tg_nms G h.2
    refine ⟨pgs_cons a1 b1 ?_, fun env => ?_⟩
    · rw [a2] <;> rfl
    · rw [a2]
      obtain ⟨c1, c2⟩ := b2 env
      refine ⟨by rw [List.length_cons, List.length_cons, c1], ?_⟩
      rw [List.findIdx?_cons]
      simp [c2]
theorem s_tg (G : Good A P C X E k cc) {tg : Tg} {e : Expr} (h : chkTg cc tg e = true) : PG X e (gOf X.K tg) := by
  cases tg with
  | nm i => exact (tg_nm G h).1
  | tp is =>
    cases e <;> first | (cases h; done) | skip
    obtain ⟨b1, b2⟩ := tg_nms G h
    exact pg_tup G.calm b1 (b2 _).1 (b2 _).2
end
end DI

set_option Elab.async false
set_option linter.all false
set_option maxRecDepth 100000
set_option maxHeartbeats 4000000
/-! Every text of the language does what the language says: expressions. -/
namespace DI
open L2 PySem PySem.Spec PyProof.Rows
section
variable {A : Ad} {P : Pg} {C : Nat → List D → Sto → Out D}
abbrev Trip (A : Ad) (P : Pg) (C : Nat → List D → Sto → Out D) (X : Cx) (E : XK) (t : Ex) (e : Expr) : Prop :=
  PE X e (tE A E (de P C t false)) ∧ PT X e (tT A E (de P C t true)) ∧ (isBO e = true → PW X e (tT A E (de P C t true)))
theorem trip {X : Cx} {E : XK} {t : Ex} {e : Expr} {f : Sl → Sto → Out D} (hK : A.K = X.K) (h : PE X e (tE A E f)) (he : ∀ whole, isTrue e X.env whole = (do let v ← whole; standAt e.pos; holding [v] (truthy v))) (hb : isBO e = false)
    (ht : ∀ b, de P C t b = fun σ S => fin b (f σ S)) : Trip A P C X E t e := by
  refine ⟨?_, ?_, fun z => by rw [hb] at z; cases z⟩
  · rw [ht]; exact h
  · rw [ht]; exact s_plain hK h he
theorem chks_nil {cc : CC} {es : Exs} (h : chks cc es [] = true) : es = .nil := by
  cases es with
  | nil => rfl
  | cons _ _ => simp [chks] at h
theorem chks_des0 {cc : CC} {es : Exs} (h : chks cc es [] = true) : des P C es = fun _ S => .ok [] S := by
  rw [chks_nil h]; funext σ S; simp only [des]
/-- what is shown of each part of a text -/
def ME (A : Ad) (P : Pg) (C : Nat → List D → Sto → Out D) (t : Ex) : Prop := ∀ {X : Cx} {E : XK} {k : Nat} {cc : CC} {e : Expr}, Good A P C X E k cc → chk cc t e = true → Trip A P C X E t e
def MS (A : Ad) (P : Pg) (C : Nat → List D → Sto → Out D) (ts : Exs) : Prop :=
  (∀ {X : Cx} {E : XK} {k : Nat} {cc : CC} {es : List Expr}, Good A P C X E k cc → chks cc ts es = true → PA X es (tAs A E (des P C ts))) ∧
  (∀ {X : Cx} {E : XK} {k : Nat} {cc : CC} {es : List Expr}, Good A P C X E k cc → chkF cc ts es = true → PTs X es (tG A E RE (deT P C ts))) ∧
  ∀ {X : Cx} {E : XK} {k : Nat} {cc : CC} {ks : List Str} {kws : List Keyword}, Good A P C X E k cc → chkK cc ks ts kws = true → PK X kws (tAs A E (des P C ts))
def MO (A : Ad) (P : Pg) (C : Nat → List D → Sto → Out D) (o : Ox) : Prop := ∀ {X : Cx} {E : XK} {k : Nat} {cc : CC} {e : Option Expr}, Good A P C X E k cc → chkO cc o e = true → L2.PO X e (tOx A E (deO P C o))
def MI (A : Ad) (P : Pg) (C : Nat → List D → Sto → Out D) (it : Ir) : Prop := ∀ {X : Cx} {E : XK} {k : Nat} {cc : CC} {tg e : Expr}, Good A P C X E k cc → chkI cc it tg e = true → PI X tg e (tI A E (deI P C it))
theorem c_cst (l : Lit) : ME A P C (.cst l) := by
    intro X E k cc e G h
    cases e <;> (try simp only [chk] at h) <;> first | (cases h; done) | skip
    rename_i c j pos
    refine trip (f := fun _ S => .ok l.d S) G.hK ?_ (fun _ => rfl) rfl (fun b => by funext σ S; simp only [de] <;> rfl)
    cases l <;> cases c <;> (try simp only [chkLit, decide_eq_true_eq, beq_iff_eq] at h) <;> first | (cases h; done) | skip
    · exact s_cst pe_non fun _ _ => .non
    · subst h; exact s_cst pe_bl fun _ _ => .bl _
    · subst h; exact s_cst pe_int fun _ _ => .int _
    · subst h; exact s_cst pe_str fun _ _ => .str _
theorem c_var (i : Nat) : ME A P C (.var i) := by
    intro X E k cc e G h
    cases e <;> (try simp only [chk, Bool.and_eq_true, decide_eq_true_eq] at h) <;> first | (cases h; done) | skip
    obtain ⟨⟨h1, h2⟩, h3⟩ := h
    obtain ⟨n1, n2, n3⟩ := noDbg_ h3
    exact trip G.hK (s_var (pe_var (by rw [G.hN]; exact h1) (G.vis h2) n1 n2)) (fun _ => rfl) rfl (fun b => by funext σ S; simp only [de] <;> rfl)
theorem c_glo (y : Str) : ME A P C (.glo y) := by
    intro X E k cc e G h
    cases e <;> (try simp only [chk, Bool.and_eq_true, decide_eq_true_eq] at h) <;> first | (cases h; done) | skip
    obtain ⟨⟨rfl, h2⟩, h3⟩ := h
    obtain ⟨n1, n2, n3⟩ := noDbg_ h3
    rename_i x pos
    cases hd : P.glo x with
    | none =>
      refine trip (f := fun _ S => .bad) G.hK ⟨fun _ _ _ _ _ _ ⟨_, _, _, _, _, p⟩ => p.elim⟩ (fun _ => rfl) rfl (fun b => by funext σ S; simp only [de, hd] <;> rfl)
    | some d =>
      obtain ⟨v, u, g1, g2, g3⟩ := G.facts.dat x d hd
      exact trip G.hK (s_cst (pe_glob (G.glb h2) g1 g2 n1) g3) (fun _ => rfl) rfl (fun b => by funext σ S; simp only [de, hd] <;> rfl)
theorem c_bty (n : String) : ME A P C (.bty n) := by
    intro X E k cc e G h
    cases e <;> (try simp only [chk, Bool.and_eq_true, decide_eq_true_eq] at h) <;> first | (cases h; done) | skip
    obtain ⟨⟨⟨⟨rfl, h2⟩, h3⟩, h4⟩, h5⟩ := h
    obtain ⟨n1, n2, n3⟩ := noDbg_ h3
    exact trip G.hK (s_cst (pe_bltn (v := .ty n) (G.glb h2) (G.facts.free _ h4) h5 rfl n3 n1) fun _ _ => .ty n) (fun _ => rfl) rfl (fun b => by funext σ S; simp only [de] <;> rfl)
theorem c_bin (o : Operator) {a : Ex} {b : Ex} (i_a : ME A P C a) (i_b : ME A P C b) : ME A P C (.bin o a b) := by
    intro X E k cc e G h
    cases e <;> (try simp only [chk, Bool.and_eq_true, decide_eq_true_eq] at h) <;> first | (cases h; done) | skip
    obtain ⟨⟨rfl, h1⟩, h2⟩ := h
    exact trip G.hK (s_bin G.hK (i_a G h1).1 (i_b G h2).1) (fun _ => rfl) rfl (fun b => by funext σ S; simp only [de] <;> rfl)
theorem c_neg  {a : Ex} (i_a : ME A P C a) : ME A P C (.neg a) := by
    intro X E k cc e G h
    cases e <;> (try simp only [chk] at h) <;> first | (cases h; done) | skip
    rename_i op e pos
    cases op <;> (try simp only [chk] at h) <;> first | (cases h; done) | skip
    exact trip G.hK (s_neg (i_a G h).1) (fun _ => rfl) rfl (fun b => by funext σ S; simp only [de] <;> rfl)
theorem c_cmp (o : CmpOp) {a : Ex} {b : Ex} (i_a : ME A P C a) (i_b : ME A P C b) : ME A P C (.cmp o a b) := by
    intro X E k cc e G h
    cases e <;> (try simp only [chk] at h) <;> first | (cases h; done) | skip
    rename_i l ops rs pos
    match ops, rs, h with
    | [op], [r], h =>
      simp only [chk, Bool.and_eq_true, decide_eq_true_eq, Bool.not_eq_true'] at h
      obtain ⟨⟨⟨rfl, h1⟩, h2⟩, h3⟩ := h
      refine ⟨?_, ?_, fun z => by cases z⟩
      · have e1 : de P C (.cmp o a b) false = fun σ S => (de P C a false σ S).bind fun x S => (de P C b false σ S).bind fun y S => .at S ((cmpSem o x y S).map D.bl) := by funext σ S; simp only [de] <;> rfl
        rw [e1]; exact s_cmp G.hK G.hu (i_a G h1).1 (i_b G h2).1 h3
      · have e1 : de P C (.cmp o a b) true = fun σ S => (de P C a false σ S).bind fun x S => (de P C b false σ S).bind fun y S => .at S ((cmpSem o x y S).map D.bl) := by funext σ S; simp only [de] <;> rfl
        rw [e1]; exact s_cmpT G.hK G.hu (i_a G h1).1 (i_b G h2).1 h3
    | [], _, h => simp [chk] at h
    | _ :: _ :: _, _, h => simp [chk] at h
    | [_], [], h => simp [chk] at h
    | [_], _ :: _ :: _, h => simp [chk] at h
theorem c_chn (o o' : CmpOp) {a : Ex} {b : Ex} {c : Ex} (i_a : ME A P C a) (i_b : ME A P C b) (i_c : ME A P C c) : ME A P C (.chn o o' a b c) := by
    intro X E k cc e G h
    cases e <;> (try simp only [chk] at h) <;> first | (cases h; done) | skip
    rename_i l ops rs pos
    match ops, rs, h with
    | [op, op'], [r, r'], h =>
      simp only [chk, Bool.and_eq_true, decide_eq_true_eq, Bool.not_eq_true'] at h
      obtain ⟨⟨⟨⟨⟨rfl, rfl⟩, h1⟩, h2⟩, h3⟩, h4⟩ := h
      refine ⟨?_, ?_, fun z => by cases z⟩
      · have e1 : de P C (.chn o o' a b c) false = fun σ S => (de P C a false σ S).bind fun x S => (de P C b false σ S).bind fun y S => match cmpSem o x y S with
          | some true => (de P C c false σ S).bind fun z S => .at S ((cmpSem o' y z S).map D.bl)
          | some false => .ok (.bl false) S
          | none => .bad := by funext σ S; simp only [de] <;> rfl
        rw [e1]; exact s_chn G.hK G.hu (i_a G h1).1 (i_b G h2).1 (i_c G h3).1 h4
      · have e1 : de P C (.chn o o' a b c) true = fun σ S => (de P C a false σ S).bind fun x S => (de P C b false σ S).bind fun y S => match cmpSem o x y S with
          | some true => (de P C c false σ S).bind fun z S => .at S ((cmpSem o' y z S).map D.bl)
          | some false => .ok (.bl false) S
          | none => .bad := by funext σ S; simp only [de] <;> rfl
        rw [e1]; exact s_chnT G.hK G.hu (i_a G h1).1 (i_b G h2).1 (i_c G h3).1 h4
    | [], _, h => simp [chk] at h
    | [_], _, h => simp [chk] at h
    | _ :: _ :: _ :: _, _, h => simp [chk] at h
    | [_, _], [], h => simp [chk] at h
    | [_, _], [_], h => simp [chk] at h
    | [_, _], _ :: _ :: _ :: _, h => simp [chk] at h
theorem c_and_  {a : Ex} {b : Ex} (i_a : ME A P C a) (i_b : ME A P C b) : ME A P C (.and_ a b) := by
    intro X E k cc e G h
    cases e <;> (try simp only [chk] at h) <;> first | (cases h; done) | skip
    rename_i op es pos
    have e1 : ∀ k, de P C (.and_ a b) k = fun σ S => (de P C a k σ S).bind fun x S => match truSem x S with | some true => de P C b k σ S | some false => .ok x S | none => .bad := fun k => by funext σ S; simp only [de] <;> rfl
    match op, es, h with
    | .Or, _, h => simp [chk] at h
    | .And, [], h => simp [chk] at h
    | .And, [_], h => simp [chk] at h
    | .And, [e, e2], h =>
      simp only [chk, Bool.and_eq_true] at h
      have ha := i_a G h.1
      have hb := i_b G h.2
      have hw := s_andT (pos := pos) ha.2.1 (PWi (pw_and1 hb.2.1) fun σ H Q z => z)
      refine ⟨?_, ?_, fun _ => ?_⟩
      · rw [e1]; exact s_and G.hK ha.1 (pe_one hb.1)
      · rw [e1]; exact hw.pt
      · rw [e1]; exact hw
    | .And, e :: e2 :: e3 :: r, h =>
      simp only [chk, Bool.and_eq_true] at h
      have ha := i_a G h.1
      have hb := i_b G h.2
      have hw := s_andT ha.2.1 (hb.2.2 rfl)
      refine ⟨?_, ?_, fun _ => ?_⟩
      · rw [e1]; exact s_and G.hK ha.1 hb.1
      · rw [e1]; exact hw.pt
      · rw [e1]; exact hw
theorem c_or_  {a : Ex} {b : Ex} (i_a : ME A P C a) (i_b : ME A P C b) : ME A P C (.or_ a b) := by
    intro X E k cc e G h
    cases e <;> (try simp only [chk] at h) <;> first | (cases h; done) | skip
    rename_i op es pos
    have e1 : ∀ k, de P C (.or_ a b) k = fun σ S => (de P C a k σ S).bind fun x S => match truSem x S with | some true => .ok x S | some false => de P C b k σ S | none => .bad := fun k => by funext σ S; simp only [de] <;> rfl
    match op, es, h with
    | .And, _, h => simp [chk] at h
    | .Or, [], h => simp [chk] at h
    | .Or, [_], h => simp [chk] at h
    | .Or, [e, e2], h =>
      simp only [chk, Bool.and_eq_true] at h
      have ha := i_a G h.1
      have hb := i_b G h.2
      have hw := s_orT (pos := pos) ha.2.1 (PWi (pw_or1 hb.2.1) fun σ H Q z => z)
      refine ⟨?_, ?_, fun _ => ?_⟩
      · rw [e1]; exact s_or G.hK ha.1 (pe_one hb.1)
      · rw [e1]; exact hw.pt
      · rw [e1]; exact hw
    | .Or, e :: e2 :: e3 :: r, h =>
      simp only [chk, Bool.and_eq_true] at h
      have ha := i_a G h.1
      have hb := i_b G h.2
      have hw := s_orT ha.2.1 (hb.2.2 rfl)
      refine ⟨?_, ?_, fun _ => ?_⟩
      · rw [e1]; exact s_or G.hK ha.1 hb.1
      · rw [e1]; exact hw.pt
      · rw [e1]; exact hw
theorem c_not_  {a : Ex} (i_a : ME A P C a) : ME A P C (.not_ a) := by
    intro X E k cc e G h
    cases e <;> (try simp only [chk] at h) <;> first | (cases h; done) | skip
    rename_i op e pos
    cases op <;> (try simp only [chk] at h) <;> first | (cases h; done) | skip
    have e1 : ∀ k, de P C (.not_ a) k = fun σ S => (de P C a k σ S).bind fun x S => .at S ((truSem x S).map fun b => D.bl (!b)) := fun k => by funext σ S; simp only [de] <;> rfl
    have ha := i_a G h
    refine ⟨?_, ?_, fun z => by cases z⟩
    · rw [e1]; exact s_not G.hK ha.1
    · rw [e1]; exact s_notT ha.2.1
theorem c_ite  {t : Ex} {a : Ex} {b : Ex} (i_t : ME A P C t) (i_a : ME A P C a) (i_b : ME A P C b) : ME A P C (.ite t a b) := by
    intro X E k cc e G h
    cases e <;> (try simp only [chk, Bool.and_eq_true] at h) <;> first | (cases h; done) | skip
    have ht := i_t G h.1.1
    have ha := i_a G h.1.2
    have hb := i_b G h.2
    have e1 : ∀ k, de P C (.ite t a b) k = fun σ S => (tstO (de P C t true σ S)).bind fun t S => if t = true then de P C a k σ S else de P C b k σ S := fun k => by funext σ S; simp only [de] <;> rfl
    refine ⟨?_, ?_, fun z => by cases z⟩
    · rw [e1]; exact s_ite ht.2.1 ha.1 hb.1
    · rw [e1]; exact s_iteT ht.2.1 ha.2.1 hb.2.1
theorem c_fld (c : Nat) (f : Str) {o : Ex} (i_o : ME A P C o) : ME A P C (.fld c o f) := by
    intro X E k cc e G h
    cases e <;> (try simp only [chk, Bool.and_eq_true, decide_eq_true_eq] at h) <;> first | (cases h; done) | skip
    obtain ⟨⟨⟨⟨rfl, h1⟩, h2⟩, h3⟩, h4⟩ := h
    exact trip G.hK (s_fld (G.facts.cls c h1) (G.facts.fld _ h2) (i_o G h4).1 (base_ok h3)) (fun _ => rfl) rfl (fun b => by funext σ S; simp only [de] <;> rfl)
theorem c_ix  {o : Ex} {i : Ex} (i_o : ME A P C o) (i_i : ME A P C i) : ME A P C (.ix o i) := by
    intro X E k cc e G h
    cases e <;> (try simp only [chk, Bool.and_eq_true] at h) <;> first | (cases h; done) | skip
    exact trip G.hK (s_ix G.hK G.hu (i_o G h.1.2).1 (i_i G h.2).1 (slice_ok h.1.1)) (fun _ => rfl) rfl (fun b => by funext σ S; simp only [de] <;> rfl)
theorem c_sl  {o : Ex} {lo : Ox} {hi : Ox} (i_o : ME A P C o) (i_lo : MO A P C lo) (i_hi : MO A P C hi) : ME A P C (.sl o lo hi) := by
    intro X E k cc e G h
    cases e <;> (try simp only [chk] at h) <;> first | (cases h; done) | skip
    rename_i e s pos
    cases s <;> (try simp only [chk] at h) <;> first | (cases h; done) | skip
    rename_i l u st p2
    cases st <;> (try simp only [chk, Bool.and_eq_true] at h) <;> first | (cases h; done) | skip
    exact trip G.hK (s_slice G.hK (i_o G h.1.1).1 (i_lo G h.1.2) (i_hi G h.2)) (fun _ => rfl) rfl (fun b => by funext σ S; simp only [de] <;> rfl)
theorem c_tup  {es : Exs} (i_es : MS A P C es) : ME A P C (.tup es) := by
    intro X E k cc e G h
    cases e <;> (try simp only [chk] at h) <;> first | (cases h; done) | skip
    exact trip G.hK (s_tup (i_es.1 G h)) (fun _ => rfl) rfl (fun b => by funext σ S; simp only [de] <;> rfl)
theorem c_lst  {es : Exs} (i_es : MS A P C es) : ME A P C (.lst es) := by
    intro X E k cc e G h
    cases e <;> (try simp only [chk] at h) <;> first | (cases h; done) | skip
    exact trip G.hK (s_lst (i_es.1 G h)) (fun _ => rfl) rfl (fun b => by funext σ S; simp only [de] <;> rfl)
theorem c_dct0 (t : Bool) : ME A P C (.dct0 t) := by
    intro X E k cc e G h
    cases e <;> (try simp only [chk] at h) <;> first | (cases h; done) | skip
    rename_i ks vs pos
    match ks, vs, h with
    | [], [], h => exact trip G.hK (s_dct0 t) (fun _ => rfl) rfl (fun b => by funext σ S; simp only [de] <;> rfl)
    | _ :: _, _, h => simp [chk] at h
    | [], _ :: _, h => simp [chk] at h
theorem c_cal (j : Nat) {es : Exs} (i_es : MS A P C es) : ME A P C (.cal j es) := by
    intro X E k cc e G h
    cases e <;> (try simp only [chk] at h) <;> first | (cases h; done) | skip
    rename_i fn l kws pos
    cases fn <;> (try simp only [chk] at h) <;> first | (cases h; done) | skip
    rename_i x p
    cases kws <;> (try simp only [chk, Bool.and_eq_true, decide_eq_true_eq] at h) <;> first | (cases h; done) | skip
    obtain ⟨⟨⟨⟨h1, h2⟩, h3⟩, h4⟩, h5⟩ := h
    obtain ⟨n1, n2, n3⟩ := noDbg_ h4
    obtain ⟨m1, m2⟩ := G.facts.fn _ h1
    obtain ⟨fd, ps, F, hb, har, _⟩ := G.fns j h2
    have hr : Room k X.A := G.room.mono (Nat.le_succ _)
    cases l with
    | nil =>
      refine trip G.hK (s_call0 F hr (G.glb h3) m1 m2 hb G.tk har n1) (fun _ => rfl) rfl (fun b => by funext σ S; simp only [de, chks_des0 h5] <;> rfl)
    | cons e l =>
      have hs := chks_star h5
      exact trip G.hK (s_call F hr (G.glb h3) m1 m2 hb G.tk har (i_es.1 G h5) n1 (star_ok (hs e List.mem_cons_self)) (star_any fun z hz => hs z (List.mem_cons_of_mem _ hz))) (fun _ => rfl) rfl (fun b => by funext σ S; simp only [de] <;> rfl)
theorem c_mk (c j : Nat) {es : Exs} (i_es : MS A P C es) : ME A P C (.mk c j es) := by
    intro X E k cc e G h
    cases e <;> (try simp only [chk] at h) <;> first | (cases h; done) | skip
    rename_i fn l kws pos
    cases fn <;> (try simp only [chk] at h) <;> first | (cases h; done) | skip
    rename_i x p
    cases kws <;> (try simp only [chk, Bool.and_eq_true, decide_eq_true_eq] at h) <;> first | (cases h; done) | skip
    obtain ⟨⟨⟨⟨⟨h1, h2⟩, h2'⟩, h3⟩, h4⟩, h5⟩ := h
    obtain ⟨n1, n2, n3⟩ := noDbg_ h4
    have m1 := G.facts.cll _ h1
    have M := G.facts.ini _ h2
    obtain ⟨fd, ps, F, hb, har, _⟩ := G.fns j h2'
    cases l with
    | nil =>
      refine trip G.hK (s_make0 M F G.room (G.glb h3) m1 hb G.tk har n1) (fun _ => rfl) rfl (fun b => by funext σ S; simp only [de, chks_des0 h5] <;> rfl)
    | cons e l =>
      have hs := chks_star h5
      exact trip G.hK (s_make M F G.room (G.glb h3) m1 hb G.tk har (i_es.1 G h5) n1 (star_ok (hs e List.mem_cons_self)) (star_any fun z hz => hs z (List.mem_cons_of_mem _ hz))) (fun _ => rfl) rfl (fun b => by funext σ S; simp only [de] <;> rfl)
theorem c_mth (c j : Nat) (m : Str) {o : Ex} {es : Exs} (i_o : ME A P C o) (i_es : MS A P C es) : ME A P C (.mth c j o m es) := by
    intro X E k cc e G h
    cases e <;> (try simp only [chk] at h) <;> first | (cases h; done) | skip
    rename_i fn l kws pos
    cases fn <;> (try simp only [chk] at h) <;> first | (cases h; done) | skip
    rename_i e0 m' apos
    cases kws <;> (try simp only [chk, Bool.and_eq_true, decide_eq_true_eq] at h) <;> first | (cases h; done) | skip
    obtain ⟨⟨⟨⟨⟨⟨⟨⟨rfl, h1⟩, h2⟩, h3⟩, h4⟩, h5⟩, h6⟩, h7⟩, h8⟩ := h
    have m2 := G.facts.cls c h2
    have M := G.facts.mt _ h1
    obtain ⟨fd, ps, F, hb, har, _⟩ := G.fns j h3
    have hr : Room k X.A := G.room.mono (Nat.le_succ _)
    have hs := chks_star h8
    cases l with
    | nil =>
      refine trip G.hK (s_meth0 (i_o G h7).1 m2 M F hr hb G.tk har (meth_ok h4 h5 hs h6)) (fun _ => rfl) rfl (fun b => by funext σ S; simp only [de, chks_des0 h8] <;> rfl)
    | cons e l =>
      exact trip G.hK (s_meth (i_o G h7).1 m2 M F hr hb G.tk har (i_es.1 G h8) (star_ok (hs e List.mem_cons_self)) (star_any fun z hz => hs z (List.mem_cons_of_mem _ hz)) (meth_ok h4 h5 hs h6)) (fun _ => rfl) rfl (fun b => by funext σ S; simp only [de] <;> rfl)
theorem c_bi (f : BI) {es : Exs} (i_es : MS A P C es) : ME A P C (.bi f es) := by
    intro X E k cc e G h
    cases e <;> (try simp only [chk] at h) <;> first | (cases h; done) | skip
    rename_i fn l kws pos
    cases fn <;> (try simp only [chk] at h) <;> first | (cases h; done) | skip
    rename_i x p
    cases kws <;> (try simp only [chk, Bool.and_eq_true, decide_eq_true_eq, Bool.not_eq_true'] at h) <;> first | (cases h; done) | skip
    obtain ⟨⟨⟨⟨rfl, h2⟩, h3⟩, h4⟩, h5⟩ := h
    cases l with
    | nil => cases h4
    | cons e l =>
      have hs := chks_star h5
      exact trip G.hK (s_bi f G.hK G.calm (G.glb h3) (G.facts.free _ h2) (i_es.1 G h5) (star_ok (hs e List.mem_cons_self)) (star_any fun z hz => hs z (List.mem_cons_of_mem _ hz))) (fun _ => rfl) rfl (fun b => by funext σ S; simp only [de] <;> rfl)
theorem c_bm (f : BM) {o : Ex} {es : Exs} (i_o : ME A P C o) (i_es : MS A P C es) : ME A P C (.bm f o es) := by
    intro X E k cc e G h
    cases e <;> (try simp only [chk] at h) <;> first | (cases h; done) | skip
    rename_i fn l kws pos
    cases fn <;> (try simp only [chk] at h) <;> first | (cases h; done) | skip
    rename_i e0 m' apos
    cases kws <;> (try simp only [chk, Bool.and_eq_true, decide_eq_true_eq] at h) <;> first | (cases h; done) | skip
    obtain ⟨⟨⟨⟨⟨rfl, h4⟩, h5⟩, h6⟩, h7⟩, h8⟩ := h
    have hs := chks_star h8
    cases l with
    | nil =>
      refine trip G.hK (s_bm0 f (i_o G h7).1 (base_ok h4) h5) (fun _ => rfl) rfl (fun b => by funext σ S; simp only [de, chks_des0 h8] <;> rfl)
    | cons e l =>
      exact trip G.hK (s_bm f (i_o G h7).1 (i_es.1 G h8) (base_ok h4) (few_ok hs h6) h5 (star_ok (hs e List.mem_cons_self)) (star_any fun z hz => hs z (List.mem_cons_of_mem _ hz))) (fun _ => rfl) rfl (fun b => by funext σ S; simp only [de] <;> rfl)
theorem c_lc (own : List (Str × Nat)) (tg : Tg) {it : Ir} {ifs : Exs} {elt : Ex} (i_it : MI A P C it) (i_ifs : MS A P C ifs) (i_elt : ME A P C elt) : ME A P C (.lc own tg it ifs elt) := by
    intro X E k cc e G h
    cases e <;> (try simp only [chk] at h) <;> first | (cases h; done) | skip
    rename_i e gs scope pos
    match gs, h with
    | [⟨t, iter, fs, a⟩], h =>
      simp only [chk, Bool.and_eq_true, decide_eq_true_eq] at h
      obtain ⟨⟨⟨⟨⟨⟨⟨rfl, h1⟩, h2⟩, h3⟩, h4⟩, h5⟩, h6⟩, h7⟩ := h
      have hB : BlkOk X.N X.env.scope scope own := by rw [G.hN, G.sc]; exact blkOk_by h1
      have htg : ∀ i ∈ tg.slots, i ∈ own.map (·.2) := fun i hi => of_decide_eq_true (List.all_eq_true.mp h3 i hi)
      exact trip G.hK (PEi (pe_lc G.calm G.nd (i_it (tg := t) G h5) hB (fun s H Ca cl fp => s_tg (G.blk s H scope Ca cl fp) h2) (fun s H Ca cl fp => i_ifs.2.1 (G.blk s H scope Ca cl fp) h6) (fun s H Ca cl fp => (i_elt (G.blk s H scope Ca cl fp) h7).1) (set_ok h4))
        (lc_in G.hK htg)) (fun _ => rfl) rfl (fun b => by funext σ S; simp only [de] <;> rfl)
    | [], h => simp [chk] at h
    | _ :: _ :: _, h => simp [chk] at h
theorem c_lrg {a b : Ex} (i_a : ME A P C a) (i_b : ME A P C b) : ME A P C (.lrg a b) := by
    intro X E k cc e G h
    cases e <;> (try simp only [chk] at h) <;> first | (cases h; done) | skip
    rename_i fn l kws pos
    cases fn <;> (try simp only [chk] at h) <;> first | (cases h; done) | skip
    rename_i x p
    match l, kws, h with
    | [e], [], h =>
      simp only [chk, Bool.and_eq_true, decide_eq_true_eq] at h
      obtain ⟨⟨⟨⟨rfl, h2⟩, h3⟩, h4⟩, h5⟩ := h
      cases hc : call2 e with
      | none => rw [hc] at h5; cases h5
      | some xa =>
        obtain ⟨y, u, v⟩ := xa
        obtain ⟨p', pos', rfl⟩ := call2_eq hc
        rw [hc] at h5
        simp only [Bool.and_eq_true, decide_eq_true_eq] at h5
        obtain ⟨⟨⟨⟨⟨⟨rfl, k2⟩, k3⟩, k4⟩, k5⟩, k6⟩, k7⟩ := h5
        exact trip G.hK (s_lrg G.calm (G.glb h3) (G.facts.free _ h2) (G.glb k3) (G.facts.free _ k2) (i_a G k6).1 (i_b G k7).1 (star_ok k4) (star_ok k5) (star_ok h4)) (fun _ => rfl) rfl (fun b => by funext σ S; simp only [de] <;> rfl)
    | [], _, h => simp [chk] at h
    | [_], _ :: _, h => simp [chk] at h
    | _ :: _ :: _, _, h => simp [chk] at h
theorem c_calK (j n : Nat) (ks : List Str) (pm : List Nat) {es kes : Exs} (i_es : MS A P C es) (i_kes : MS A P C kes) : ME A P C (.calK j n ks pm es kes) := by
    intro X E k cc e G h
    cases e <;> (try simp only [chk] at h) <;> first | (cases h; done) | skip
    rename_i fn l kws pos
    cases fn <;> (try simp only [chk] at h) <;> first | (cases h; done) | skip
    rename_i x p
    simp only [Bool.and_eq_true, decide_eq_true_eq] at h
    obtain ⟨⟨⟨⟨⟨⟨⟨h1, h2⟩, hq⟩, h3⟩, h4⟩, h5⟩, h6⟩, _⟩ := h
    obtain ⟨n1, n2, n3⟩ := noDbg_ h4
    obtain ⟨m1, m2⟩ := G.facts.fn _ h1
    obtain ⟨fd, ps, F, hb, har, hkb⟩ := G.fns j h2
    have hr : Room k X.A := G.room.mono (Nat.le_succ _)
    obtain ⟨w1, w2, w3⟩ := kw_names (env := X.env) (pos := pos) h6
    subst w2
    cases l with
    | nil =>
      refine trip G.hK (s_callK0 F hr (G.glb h3) m1 m2 (hkb _ _ _ hq) G.tk har (i_kes.2.2 G h6) n1 w1 rfl (by rw [w3]; rfl)) (fun _ => rfl) rfl (fun b => by funext σ S; simp only [de, chks_des0 h5] <;> rfl)
    | cons e l =>
      have hs := chks_star h5
      exact trip G.hK (s_callK F hr (G.glb h3) m1 m2 (hkb _ _ _ hq) G.tk har (i_es.1 G h5) (i_kes.2.2 G h6) n1 w1 rfl (star_ok (hs e List.mem_cons_self)) (by rw [star_any hs, w3]; rfl)) (fun _ => rfl) rfl (fun b => by funext σ S; simp only [de] <;> rfl)
theorem c_mthK (c j : Nat) (m : Str) (n : Nat) (ks : List Str) (pm : List Nat) {o : Ex} {es kes : Exs} (i_o : ME A P C o) (i_es : MS A P C es) (i_kes : MS A P C kes) : ME A P C (.mthK c j o m n ks pm es kes) := by
    intro X E k cc e G h
    cases e <;> (try simp only [chk] at h) <;> first | (cases h; done) | skip
    rename_i fn l kws pos
    cases fn <;> (try simp only [chk] at h) <;> first | (cases h; done) | skip
    rename_i e0 m' apos
    simp only [Bool.and_eq_true, decide_eq_true_eq] at h
    obtain ⟨⟨⟨⟨⟨⟨⟨⟨⟨⟨⟨rfl, h1⟩, h2⟩, h3⟩, hq⟩, h4⟩, h5⟩, h6⟩, h7⟩, h8⟩, h9⟩, _⟩ := h
    have m2 := G.facts.cls c h2
    have M := G.facts.mt _ h1
    obtain ⟨fd, ps, F, hb, har, hkb⟩ := G.fns j h3
    have hr : Room k X.A := G.room.mono (Nat.le_succ _)
    have hs := chks_star h8
    obtain ⟨w1, w2, w3⟩ := kw_names (env := X.env) (pos := pos) h9
    subst w2
    cases l with
    | nil =>
      refine trip G.hK (s_methK0 (i_o G h7).1 m2 M F hr (hkb _ _ _ hq) G.tk har (i_kes.2.2 G h9) w1 rfl (by rw [w3]; rfl) (meth_okK h4 h5 hs h6 w1)) (fun _ => rfl) rfl (fun b => by funext σ S; simp only [de, chks_des0 h8] <;> rfl)
    | cons e l =>
      exact trip G.hK (s_methK (i_o G h7).1 m2 M F hr (hkb _ _ _ hq) G.tk har (i_es.1 G h8) (i_kes.2.2 G h9) w1 rfl (star_ok (hs e List.mem_cons_self)) (by rw [star_any hs, w3]; rfl) (meth_okK h4 h5 hs h6 w1)) (fun _ => rfl) rfl (fun b => by funext σ S; simp only [de] <;> rfl)
theorem c_nil : MS A P C .nil := by
  refine ⟨?_, ?_, ?_⟩
  · intro X E k cc es G h
    cases es with
    | nil =>
      have e1 : des P C .nil = fun _ S => .ok [] S := by funext σ S; simp only [des] <;> rfl
      rw [e1]; exact s_nil
    | cons _ _ => simp [chks] at h
  · intro X E k cc es G h
    cases es with
    | nil =>
      have e1 : deT P C .nil = fun _ S => .ok true S := by funext σ S; simp only [deT] <;> rfl
      rw [e1]; exact s_pts0
    | cons _ _ => simp [chkF] at h
  · intro X E k cc ks kws G h
    have e1 : des P C .nil = fun _ S => .ok [] S := by funext σ S; simp only [des] <;> rfl
    match ks, kws, h with
    | [], [], h => rw [e1]; exact k_nil
    | [], _ :: _, h => simp [chkK] at h
    | _ :: _, _, h => simp [chkK] at h
theorem c_cons {t : Ex} {ts : Exs} (i_t : ME A P C t) (i_ts : MS A P C ts) : MS A P C (.cons t ts) := by
  refine ⟨?_, ?_, ?_⟩
  · intro X E k cc es G h
    cases es with
    | nil => simp [chks] at h
    | cons e es =>
      simp only [chks, Bool.and_eq_true] at h
      have e1 : des P C (.cons t ts) = fun σ S => (de P C t false σ S).bind fun d S => (des P C ts σ S).bind fun ds S => .ok (d :: ds) S := by funext σ S; simp only [des] <;> rfl
      rw [e1]; exact s_cons (i_t G h.1.2).1 (i_ts.1 G h.2) (star_ok h.1.1)
  · intro X E k cc es G h
    cases ts with
    | cons _ _ => simp [chkF] at h
    | nil =>
    match es, h with
    | [e], h =>
      simp only [chkF] at h
      have e1 : deT P C (.cons t .nil) = fun σ S => tstO (de P C t true σ S) := by funext σ S; simp only [deT] <;> rfl
      rw [e1]; exact s_pts1 (i_t G h).2.1
    | [], h => simp [chkF] at h
    | _ :: _ :: _, h => simp [chkF] at h
  · intro X E k cc ks kws G h
    have e1 : des P C (.cons t ts) = fun σ S => (de P C t false σ S).bind fun d S => (des P C ts σ S).bind fun ds S => .ok (d :: ds) S := by funext σ S; simp only [des] <;> rfl
    match ks, kws, h with
    | k1 :: ks, ⟨nm, e, p⟩ :: kws, h =>
      simp only [chkK, Bool.and_eq_true, decide_eq_true_eq] at h
      rw [e1]; exact k_cons (i_t G h.1.2).1 (i_ts.2.2 G h.2)
    | [], _, h => simp [chkK] at h
    | _ :: _, [], h => simp [chkK] at h
theorem c_no : MO A P C .no := by
    intro X E k cc e G h
    cases e with
    | none =>
      have e1 : deO P C .no = fun _ S => .ok none S := by funext σ S; simp only [deO] <;> rfl
      rw [e1]; exact s_po0
    | some _ => simp [chkO] at h
theorem c_so {t : Ex} (i_t : ME A P C t) : MO A P C (.so t) := by
    intro X E k cc e G h
    cases e with
    | none => simp [chkO] at h
    | some e =>
      simp only [chkO] at h
      have e1 : deO P C (.so t) = fun σ S => (de P C t false σ S).bind fun d S => cutOf d S := by funext σ S; simp only [deO] <;> rfl
      rw [e1]; exact s_po1 (i_t G h).1
theorem c_iex {t : Ex} (i_t : ME A P C t) : MI A P C (.ex t) := by
    intro X E k cc tg e G h
    simp only [chkI] at h
    have e1 : deI P C (.ex t) = fun σ S => (de P C t false σ S).bind fun x S => .at S (walkOf x S) := by funext σ S; simp only [deI] <;> rfl
    rw [e1]; exact s_iter G.hK (i_t G h).1
theorem c_irng1 {t : Ex} (i_t : ME A P C t) : MI A P C (.rng1 t) := by
  intro X E k cc tg e G h
  simp only [chkI] at h
  cases hc : call1 e with
  | none => rw [hc] at h; cases h
  | some xa =>
    obtain ⟨x, a⟩ := xa
    obtain ⟨p, pos, rfl⟩ := call1_eq hc
    rw [hc] at h
    simp only [Bool.and_eq_true, decide_eq_true_eq] at h
    obtain ⟨⟨⟨⟨rfl, h2⟩, h3⟩, h4⟩, h5⟩ := h
    have e1 : deI P C (.rng1 t) = fun σ S => (de P C t false σ S).bind fun x S => match x with | .int j => if rngOk 0 j = true then .ok (.rng 0 j.toNat) S else .bad | _ => .bad := by funext σ S; simp only [deI] <;> rfl
    rw [e1]; exact s_rng1 (G.glb h3) (G.facts.free _ h2) (i_t G h5).1 (star_ok h4)
theorem c_irng2 {t u : Ex} (i_t : ME A P C t) (i_u : ME A P C u) : MI A P C (.rng2 t u) := by
  intro X E k cc tg e G h
  simp only [chkI] at h
  cases hc : call2 e with
  | none => rw [hc] at h; cases h
  | some xa =>
    obtain ⟨x, a, b⟩ := xa
    obtain ⟨p, pos, rfl⟩ := call2_eq hc
    rw [hc] at h
    simp only [Bool.and_eq_true, decide_eq_true_eq] at h
    obtain ⟨⟨⟨⟨⟨⟨rfl, h2⟩, h3⟩, h4⟩, h4'⟩, h5⟩, h6⟩ := h
    have e1 : deI P C (.rng2 t u) = fun σ S => (de P C t false σ S).bind fun x S => (de P C u false σ S).bind fun y S => match x, y with
      | .int i, .int j => if rngOk i j = true then .ok (.rng i (j - i).toNat) S else .bad
      | _, _ => .bad := by funext σ S; simp only [deI] <;> rfl
    rw [e1]; exact s_rng2 (G.glb h3) (G.facts.free _ h2) (i_t G h5).1 (i_u G h6).1 (star_ok h4) (star_ok h4')
theorem c_ienum {t : Ex} (i_t : ME A P C t) : MI A P C (.enum t) := by
  intro X E k cc tg e G h
  simp only [chkI] at h
  cases hc : call1 e with
  | none => rw [hc] at h; cases h
  | some xa =>
    obtain ⟨x, a⟩ := xa
    obtain ⟨p, pos, rfl⟩ := call1_eq hc
    rw [hc] at h
    simp only [Bool.and_eq_true, decide_eq_true_eq] at h
    obtain ⟨⟨⟨⟨⟨rfl, h2⟩, h3⟩, h3'⟩, h4⟩, h5⟩ := h
    cases tg <;> first | (cases h3'; done) | skip
    have e1 : deI P C (.enum t) = fun σ S => (de P C t false σ S).bind fun x S => match walkL x S with | some w => .ok (.en w) S | none => .bad := by funext σ S; simp only [deI] <;> rfl
    rw [e1]; exact s_enum G.hK (G.glb h3) (G.facts.free _ h2) (i_t G h5).1 (star_ok h4)
theorem sAll : (∀ t, ME A P C t) ∧ (∀ ts, MS A P C ts) ∧ (∀ o, MO A P C o) ∧ ∀ it, MI A P C it := by
  refine ⟨fun t => ?_, fun t => ?_, fun t => ?_, fun t => ?_⟩
  · exact @Ex.rec (ME A P C) (MS A P C) (MO A P C) (MI A P C) (fun l => c_cst l) (fun i => c_var i) (fun x => c_glo x) (fun n => c_bty n) (fun o _ _ a b => c_bin o a b) (fun _ a => c_neg a) (fun o _ _ a b => c_cmp o a b) (fun o o' _ _ _ a b c => c_chn o o' a b c) (fun _ _ a b => c_and_ a b) (fun _ _ a b => c_or_ a b) (fun _ a => c_not_ a) (fun _ _ _ t a b => c_ite t a b) (fun c _ f o => c_fld c f o) (fun _ _ o i => c_ix o i) (fun _ _ _ o l h => c_sl o l h) (fun _ es => c_tup es) (fun _ es => c_lst es) (fun t => c_dct0 t) (fun j _ es => c_cal j es) (fun c j _ es => c_mk c j es) (fun c j _ m _ o es => c_mth c j m o es) (fun b _ es => c_bi b es) (fun b _ _ o es => c_bm b o es) (fun own tg _ _ _ it ifs elt => c_lc own tg it ifs elt) (fun _ _ a b => c_lrg a b) (fun j n ks pm _ _ a b => c_calK j n ks pm a b) (fun c j _ m n ks pm _ _ o a b => c_mthK c j m n ks pm o a b) c_nil (fun _ _ a b => c_cons a b) c_no (fun _ a => c_so a) (fun _ a => c_iex a) (fun _ a => c_irng1 a) (fun _ _ a b => c_irng2 a b) (fun _ a => c_ienum a) t
  · exact @Exs.rec (ME A P C) (MS A P C) (MO A P C) (MI A P C) (fun l => c_cst l) (fun i => c_var i) (fun x => c_glo x) (fun n => c_bty n) (fun o _ _ a b => c_bin o a b) (fun _ a => c_neg a) (fun o _ _ a b => c_cmp o a b) (fun o o' _ _ _ a b c => c_chn o o' a b c) (fun _ _ a b => c_and_ a b) (fun _ _ a b => c_or_ a b) (fun _ a => c_not_ a) (fun _ _ _ t a b => c_ite t a b) (fun c _ f o => c_fld c f o) (fun _ _ o i => c_ix o i) (fun _ _ _ o l h => c_sl o l h) (fun _ es => c_tup es) (fun _ es => c_lst es) (fun t => c_dct0 t) (fun j _ es => c_cal j es) (fun c j _ es => c_mk c j es) (fun c j _ m _ o es => c_mth c j m o es) (fun b _ es => c_bi b es) (fun b _ _ o es => c_bm b o es) (fun own tg _ _ _ it ifs elt => c_lc own tg it ifs elt) (fun _ _ a b => c_lrg a b) (fun j n ks pm _ _ a b => c_calK j n ks pm a b) (fun c j _ m n ks pm _ _ o a b => c_mthK c j m n ks pm o a b) c_nil (fun _ _ a b => c_cons a b) c_no (fun _ a => c_so a) (fun _ a => c_iex a) (fun _ a => c_irng1 a) (fun _ _ a b => c_irng2 a b) (fun _ a => c_ienum a) t
  · exact @Ox.rec (ME A P C) (MS A P C) (MO A P C) (MI A P C) (fun l => c_cst l) (fun i => c_var i) (fun x => c_glo x) (fun n => c_bty n) (fun o _ _ a b => c_bin o a b) (fun _ a => c_neg a) (fun o _ _ a b => c_cmp o a b) (fun o o' _ _ _ a b c => c_chn o o' a b c) (fun _ _ a b => c_and_ a b) (fun _ _ a b => c_or_ a b) (fun _ a => c_not_ a) (fun _ _ _ t a b => c_ite t a b) (fun c _ f o => c_fld c f o) (fun _ _ o i => c_ix o i) (fun _ _ _ o l h => c_sl o l h) (fun _ es => c_tup es) (fun _ es => c_lst es) (fun t => c_dct0 t) (fun j _ es => c_cal j es) (fun c j _ es => c_mk c j es) (fun c j _ m _ o es => c_mth c j m o es) (fun b _ es => c_bi b es) (fun b _ _ o es => c_bm b o es) (fun own tg _ _ _ it ifs elt => c_lc own tg it ifs elt) (fun _ _ a b => c_lrg a b) (fun j n ks pm _ _ a b => c_calK j n ks pm a b) (fun c j _ m n ks pm _ _ o a b => c_mthK c j m n ks pm o a b) c_nil (fun _ _ a b => c_cons a b) c_no (fun _ a => c_so a) (fun _ a => c_iex a) (fun _ a => c_irng1 a) (fun _ _ a b => c_irng2 a b) (fun _ a => c_ienum a) t
  · exact @Ir.rec (ME A P C) (MS A P C) (MO A P C) (MI A P C) (fun l => c_cst l) (fun i => c_var i) (fun x => c_glo x) (fun n => c_bty n) (fun o _ _ a b => c_bin o a b) (fun _ a => c_neg a) (fun o _ _ a b => c_cmp o a b) (fun o o' _ _ _ a b c => c_chn o o' a b c) (fun _ _ a b => c_and_ a b) (fun _ _ a b => c_or_ a b) (fun _ a => c_not_ a) (fun _ _ _ t a b => c_ite t a b) (fun c _ f o => c_fld c f o) (fun _ _ o i => c_ix o i) (fun _ _ _ o l h => c_sl o l h) (fun _ es => c_tup es) (fun _ es => c_lst es) (fun t => c_dct0 t) (fun j _ es => c_cal j es) (fun c j _ es => c_mk c j es) (fun c j _ m _ o es => c_mth c j m o es) (fun b _ es => c_bi b es) (fun b _ _ o es => c_bm b o es) (fun own tg _ _ _ it ifs elt => c_lc own tg it ifs elt) (fun _ _ a b => c_lrg a b) (fun j n ks pm _ _ a b => c_calK j n ks pm a b) (fun c j _ m n ks pm _ _ o a b => c_mthK c j m n ks pm o a b) c_nil (fun _ _ a b => c_cons a b) c_no (fun _ a => c_so a) (fun _ a => c_iex a) (fun _ a => c_irng1 a) (fun _ _ a b => c_irng2 a b) (fun _ a => c_ienum a) t
theorem sE (t : Ex) : ME A P C t := sAll.1 t
theorem sEs (ts : Exs) : MS A P C ts := sAll.2.1 ts
theorem sO (o : Ox) : MO A P C o := sAll.2.2.1 o
theorem sI (it : Ir) : MI A P C it := sAll.2.2.2 it
end
end DI

set_option Elab.async false
set_option linter.all false
set_option maxRecDepth 100000
set_option maxHeartbeats 4000000
/-! Statements by what the language says: one lemma a construct. -/
namespace DI
open L2 PySem PySem.Spec PyProof.Rows

def PostS (A : Ad) (E : XK) (m : List Addr) (H : Hp) (o : OutS) (D : Ends) : Prop :=
  match o with
  | .nx σD S' => ∀ m' H' σ', Ext A m H m' H' → Rep A m' S' H' → RepS A m' H' σD σ' → D.nx σ' H'
  | .bk σD S' => ∀ m' H' σ', Ext A m H m' H' → Rep A m' S' H' → RepS A m' H' σD σ' → D.bk σ' H'
  | .ct σD S' => ∀ m' H' σ', Ext A m H m' H' → Rep A m' S' H' → RepS A m' H' σD σ' → D.ct σ' H'
  | .rt d S' => ∀ m' H' v, Ext A m H m' H' → Rep A m' S' H' → RepD A m' H' d v → D.rt v H'
  | .err c fs _ S' => ∀ m' H' dd, Ext A m H m' H' → Rep A m' S' H' → RepX A m' H' fs dd → E (.ref (A.cl c)) dd H'
  | .bad => False
def tS (A : Ad) (E : XK) (f : Sl → Sto → OutS) : TS := fun D σ H => ∃ m S σD, Rep A m S H ∧ RepS A m H σD σ ∧ PostS A E m H (f σD S) D
section
variable {A : Ad} {E : XK} {m m' : List Addr} {H H' : Hp} {De : Ends}
theorem PostS.base {o : OutS} (p : PostS A E m H o De) (e : Ext A m H m' H') : PostS A E m' H' o De := by
  cases o <;> first | exact p | exact fun m2 H2 b e2 r x => p m2 H2 b (e.trans e2) r x
theorem PostS.thn {α β : Type} {R : List Addr → Hp → α → β → Prop} {o : Out α} {σD : Sl} {f : α → Sto → OutS} (p : PostS A E m H (o.thn σD f) De) :
    Post A E R m H o (fun b H1 => ∃ m1 S1 a, Ext A m H m1 H1 ∧ Rep A m1 S1 H1 ∧ R m1 H1 a b ∧ PostS A E m1 H1 (f a S1) De) := by
  cases o with
  | ok a S => exact fun m1 H1 b e r x => ⟨m1, S, a, e, r, x, PostS.base (o := f a S) p e⟩
  | err c fs S => exact p
  | bad => exact p
theorem PostS.tst {o : Out D} {σD : Sl} {f : Bool → Sto → OutS} (p : PostS A E m H ((tstO o).thn σD f) De) :
    Post A E RB m H o (fun b H1 => ∃ m1 S1, Ext A m H m1 H1 ∧ Rep A m1 S1 H1 ∧ PostS A E m1 H1 (f b S1) De) := by
  cases o with
  | ok d S1 =>
    intro m1 H1 x e1 R1 rx
    have e : d = .bl x := rx
    subst e
    exact ⟨m1, S1, e1, R1, PostS.base (o := f x S1) p e1⟩
  | err c fs S1 => exact p
  | bad => exact p
end
section
variable {X : Cx} {A : Ad} {E : XK} {a b c e o i : Expr} {fa fb fc fe fo fi : Sl → Sto → Out D} {pos pos' : Pos} {f g : Sl → Sto → OutS}
theorem ss_nil : PSs X [] (tS A E fun σ S => .nx σ S) := PSsi pss_nil fun D σ H ⟨m, S, σD, R, Rs, p⟩ => p m H σ Ext.refl R Rs
theorem ss_cons {st : Stmt} {sts : List Stmt} (h1 : PS X st (tS A E f)) (h2 : PSs X sts (tS A E g)) : PSs X (st :: sts) (tS A E fun σ S => (f σ S).nxt g) :=
  PSsi (pss_cons h1 h2) fun D σ H ⟨m, S, σD, R, Rs, p⟩ => ⟨m, S, σD, R, Rs, by
    revert p
    dsimp only
    cases f σD S with
    | nx σ1 S1 => exact fun p m1 H1 σ' e1 R1 Rs1 => ⟨m1, S1, σ1, R1, Rs1, PostS.base (o := g σ1 S1) p e1⟩
    | rt d S1 => exact fun p => p
    | bk d S1 => exact fun p => p
    | ct d S1 => exact fun p => p
    | err c fs d S1 => exact fun p => p
    | bad => exact fun p => p⟩
theorem ss_set {x : Str} {k : Nat} (he : PS X (.Assign [.Name x pos'] e pos) (tAsg (tE A E fe) (gName k))) : PS X (.Assign [.Name x pos'] e pos) (tS A E fun σ S => (fe σ S).thn σ fun d S => .nx (σ.set k (some d)) S) :=
  PSi he fun D σ H ⟨m, S, σD, R, Rs, p⟩ => ⟨m, S, σD, R, Rs, p.thn.mono fun x H1 ⟨m1, S1, d, e1, R1, rx, p1⟩ => p1 m1 H1 _ Ext.refl R1 ((Rs.mono e1).set rx k)⟩
theorem ss_setT {t : Expr} {is : List Nat} (hK : A.K = X.K) (he : PE X e (tE A E fe)) (hg : PG X t (gOf X.K (.tp is))) (hs : swapsWithSole [t] e pos.line X.env = pure false) (hw : swappedStores [t] e X.env = pure none)
    (h1 : (assignEach [t] X.env).map (·.2) = [assign t X.env]) :
    PS X (.Assign [t] e pos) (tS A E fun σ S => (fe σ S).thn σ fun d S => match setTg (.tp is) d σ with | some σ' => .nx σ' S | none => .bad) :=
  PSi (ps_asg he hg hs hw h1) fun D σ H ⟨m, S, σD, R, Rs, p⟩ => ⟨m, S, σD, R, Rs, p.thn.mono fun x H1 ⟨m1, S1, d, e1, R1, rx, p1⟩ => by
    cases hs : setTg (.tp is) d σD with
    | none => rw [hs] at p1; exact p1.elim
    | some σ' =>
      rw [hs] at p1
      exact gOf_in hK (fun _ => True) _ hs rx (Rs.mono e1) (fun _ _ _ _ _ => trivial) trivial fun σ2 Rs2 _ => p1 m1 H1 σ2 Ext.refl R1 Rs2⟩
theorem ss_par {x y : Str} {i j : Nat} {px py pt pt2 : Pos} {kt k2 : Nat} (hc : X.calm = true) (hN : X.N.Nodup) (hi : X.N[i]? = some x) (hj : X.N[j]? = some y) (hij : i ≠ j)
    (hx : X.env.scope.names.lookup x = some .local) (hy : X.env.scope.names.lookup y = some .local) (ha : PE X a (tE A E fa)) (hb : PE X b (tE A E fb)) (s1 : starEach [a, b] X.env = (false, eval a X.env) :: starEach [b] X.env) (s2 : starEach [b] X.env = (false, eval b X.env) :: starEach [] X.env)
    (hw : swappedStores [.Tuple [.Name x px, .Name y py] kt pt] (.Tuple [a, b] k2 pt2) X.env = pure (some [x, y])) :
    PS X (.Assign [.Tuple [.Name x px, .Name y py] kt pt] (.Tuple [a, b] k2 pt2) pos) (tS A E fun σ S => (fa σ S).thn σ fun x S => (fb σ S).thn σ fun y S => .nx ((σ.set i (some x)).set j (some y)) S) :=
  PSi (ps_par hc hN hi hj hij hx hy (pa_cons ha (pa_cons hb pa_nil s2) s1) hw) fun D σ H ⟨m, S, σD, R, Rs, p⟩ =>
    ⟨m, S, σD, R, Rs, p.thn.mono fun x H1 ⟨m1, S1, d, e1, R1, rx, p1⟩ => ⟨m1, S1, σD, R1, Rs.mono e1, p1.thn.mono fun y H2 ⟨m2, S2, d2, e2, R2, ry, p2⟩ =>
      ⟨x, y, rfl, p2 m2 H2 _ Ext.refl R2 (((Rs.mono (e1.trans e2)).set (rx.mono e2) i).set ry j)⟩⟩⟩
theorem ss_fld {cI : Nat} {n : Str} (cl : Cls X.K (A.cl cI)) (na : NoAttr X.K (A.cl cI) n) (ho : PE X o (tE A E fo)) (he : PE X e (tE A E fe)) (hs : swapsWith e (some (.Attribute o n pos')) pos.line X.env = pure false) :
    PS X (.Assign [.Attribute o n pos'] e pos) (tS A E fun σ S => (fe σ S).thn σ fun d S => (fo σ S).thn σ fun x S => match putSem x cI n d S with | some S' => .nx σ S' | none => .bad) :=
  PSi (ps_fld ho he hs) fun D σ H ⟨m, S, σD, R, Rs, p⟩ => ⟨m, S, σD, R, Rs, p.thn.mono fun y H1 ⟨m1, S1, d, e1, R1, ry, p1⟩ => ⟨m1, S1, σD, R1, Rs.mono e1, p1.thn.mono fun x H2 ⟨m2, S2, dx, e2, R2, rx, p2⟩ => by
    cases hc : putSem dx cI n d S2 with
    | none => rw [hc] at p2; exact p2.elim
    | some S' =>
      rw [hc] at p2
      cases rx with
      | @loc i ad ei =>
        simp only [putSem] at hc
        split at hc
        · rename_i c' fs hx
          split at hc
          · rename_i hcc
            obtain ⟨rfl, hl⟩ := hcc
            cases hc
            obtain ⟨a1, dx, ws, m1', g1, l1⟩ := R2.ins hx
            rw [ei] at m1'; cases m1'
            have ex : Ext A m2 H2 m2 (upd H2 ad (.ins (A.cl c') dx (putF n y ws))) := Ext.write g1 (fun _ z => by cases z) fun _ _ z => by cases z
            have R' := R2.write (c := .ins c' (putA n d fs)) ei ex (.ins upd_same (RepK.mono ex (RepK.putA (ry.mono e2) l1)))
            exact ⟨_, _, dx, ws, rfl, g1, cl, na, by rw [RepK.length l1]; exact hl, p2 m2 _ σ ex R' ((Rs.mono (e1.trans e2)).mono ex)⟩
          · cases hc
        · cases hc
      | _ => cases hc⟩⟩
theorem assign_sub {o i : Expr} {pos : Pos} {env : Env} (h : notSlice i = true) : ∀ v, assign (.Subscript o i pos) env v = (do
      let ov ← holding [v] (eval o env)
      let iv ← holding [v, ov] (eval i env)
      standAt pos
      holding [v, ov, iv] (setItem ov iv v)
      release [v, ov, iv] []) := by
  intro v
  cases i <;> first | rfl | cases h
theorem ss_sub (hn : notSlice i = true) (hu : X.A.units + 1 < cLine) (ho : PE X o (tE A E fo)) (hi : PE X i (tE A E fi)) (he : PE X e (tE A E fe)) (hs : swapsWithSole [.Subscript o i pos'] e pos.line X.env = pure false) (hw : swappedStores [.Subscript o i pos'] e X.env = pure none) :
    PS X (.Assign [.Subscript o i pos'] e pos) (tS A E fun σ S => (fe σ S).thn σ fun d S => (fo σ S).thn σ fun x S => (fi σ S).thn σ fun y S => match setSem x y d S with | some S' => .nx σ S' | none => .bad) :=
  PSi (ps_asg he (pg_sub ho hi (seti_ok (A := A) hu) (assign_sub hn)) hs hw) fun D σ H ⟨m, S, σD, R, Rs, p⟩ => ⟨m, S, σD, R, Rs, p.thn.mono fun d H1 ⟨m1, S1, dd, e1, R1, rd, p1⟩ =>
    ⟨m1, S1, σD, R1, Rs.mono e1, p1.thn.mono fun x H2 ⟨m2, S2, dx, e2, R2, rx, p2⟩ => ⟨m2, S2, σD, R2, Rs.mono (e1.trans e2), p2.thn.mono fun y H3 ⟨m3, S3, dy, e3, R3, ry, p3⟩ => by
      refine ⟨m3, S3, dx, dy, dd, R3, rx.mono e3, ry, rd.mono (e2.trans e3), ?_⟩
      cases hc : setSem dx dy dd S3 with
      | none => rw [hc] at p3; exact p3.elim
      | some S' =>
        rw [hc] at p3
        exact fun m4 H4 e4 R4 => p3 m4 H4 σ e4 R4 (Rs.mono (((e1.trans e2).trans e3).trans e4))⟩⟩⟩
theorem ss_aug {x : Str} {k : Nat} {op : Operator} {h : Int → Int → Int} (hN : X.N.Nodup) (hi : X.N[k]? = some x) (hx : Loc X.env.scope x) (he : PE X e (tE A E fe)) (ho : PIp X op (ipI h)) (hf : X.fn x = true ∨ X.env.scope.names.lookup x = some .local)
    {F : D → D → Sl → Sto → OutS} (hF : ∀ x y σ S, (∃ a b, x = .int a ∧ y = .int b ∧ F x y σ S = .nx (σ.set k (some (.int (h a b)))) S) ∨ F x y σ S = .bad) :
    PS X (.AugAssign (.Name x pos') op e pos) (tS A E fun σ S => match σ[k]? with
      | some (some x) => (fe σ S).thn σ fun y S => F x y σ S
      | _ => .bad) :=
  PSi (ps_aug hN hi hx he ho hf) fun D σ H ⟨m, S, σD, R, Rs, p⟩ => by
    dsimp only at p
    split at p
    · rename_i d hd
      obtain ⟨v, h1, h2⟩ := Rs.2 k d hd
      refine ⟨v, h1, m, S, σD, R, Rs, p.thn.mono fun y H1 ⟨m1, S1, dy, e1, R1, ry, p1⟩ => ?_⟩
      rcases hF d dy σD S1 with ⟨a, b, rfl, rfl, z⟩ | z
      · rw [z] at p1
        cases h2; cases ry
        exact ⟨a, b, rfl, rfl, p1 m1 H1 _ Ext.refl R1 ((Rs.mono e1).set (.int _) k)⟩
      · rw [z] at p1; exact p1.elim
    · exact p.elim
theorem ss_exp (he : PE X e (tE A E fe)) (hs : swapsWith e none pos.line X.env = pure false) : PS X (.Expr e pos) (tS A E fun σ S => (fe σ S).thn σ fun _ S => .nx σ S) :=
  PSi (ps_expr he hs) fun D σ H ⟨m, S, σD, R, Rs, p⟩ => ⟨m, S, σD, R, Rs, p.thn.mono fun x H1 ⟨m1, S1, d, e1, R1, rx, p1⟩ => p1 m1 H1 σ Ext.refl R1 (Rs.mono e1)⟩
theorem ss_ret (he : PE X e (tE A E fe)) : PS X (.Return (some e) pos) (tS A E fun σ S => (fe σ S).thn σ fun d S => .rt d S) :=
  PSi (ps_ret he) fun D σ H ⟨m, S, σD, R, Rs, p⟩ => ⟨m, S, σD, R, Rs, p.thn.mono fun x H1 ⟨m1, S1, d, e1, R1, rx, p1⟩ => p1 m1 H1 x Ext.refl R1 rx⟩
theorem ss_retN : PS X (.Return none pos) (tS A E fun _ S => .rt .non S) := PSi ps_retN fun D σ H ⟨m, S, σD, R, Rs, p⟩ => p m H .non Ext.refl R .non
theorem ss_pass : PS X (.Pass pos) (tS A E fun σ S => .nx σ S) := PSi ps_pass fun D σ H ⟨m, S, σD, R, Rs, p⟩ => p m H σ Ext.refl R Rs
theorem ss_brk : PS X (.Break pos) (tS A E fun σ S => .bk σ S) := PSi ps_break fun D σ H ⟨m, S, σD, R, Rs, p⟩ => p m H σ Ext.refl R Rs
theorem ss_cnt : PS X (.Continue pos) (tS A E fun σ S => .ct σ S) := PSi ps_continue fun D σ H ⟨m, S, σD, R, Rs, p⟩ => p m H σ Ext.refl R Rs
theorem ss_ite {sa sb : List Stmt} (hc : PT X c (tT A E fc)) (ha : PSs X sa (tS A E f)) (hb : PSs X sb (tS A E g)) :
    PS X (.If c sa sb pos) (tS A E fun σ S => (tstO (fc σ S)).thn σ fun t S => if t = true then f σ S else g σ S) :=
  PSi (ps_if hc ha hb) fun D σ H ⟨m, S, σD, R, Rs, p⟩ => ⟨m, S, σD, R, Rs, p.tst.mono fun x H1 ⟨m1, S1, e1, R1, p1⟩ => by
    cases x with
    | true => exact iteT ⟨m1, S1, σD, R1, Rs.mono e1, p1⟩
    | false => exact iteF ⟨m1, S1, σD, R1, Rs.mono e1, p1⟩⟩
theorem ss_whl {sb : List Stmt} (hp : PassesOwn (model X.prog X.w) X.A X.env X.xe) (hc : PT X c (tT A E fc)) (hb : PSs X sb (tS A E f)) :
    PS X (.While c sb [] pos) (tS A E fun σ S => whl (fun σ S => tstO (fc σ S)) f σ S) :=
  PSi (ps_while hp hc hb) fun D σ H ⟨m, S, σD, R, Rs, p⟩ => by
    dsimp only at p
    unfold whl at p
    split at p
    · rename_i hn
      refine ⟨fun k σ H => ∃ m S σD, Rep A m S H ∧ RepS A m H σD σ ∧ PostS A E m H (whlN (fun σ S => tstO (fc σ S)) f k σD S) D, ⟨_, m, S, σD, R, Rs, p⟩, ?_⟩
      rintro k σ1 H1 ⟨m1, S1, σ1D, R1, Rs1, p1⟩
      cases k with
      | zero => exact p1.elim
      | succ k =>
        unfold whlN at p1
        refine ⟨m1, S1, σ1D, R1, Rs1, p1.tst.mono fun x H2 ⟨m2, S2, e2, R2, p2⟩ => ?_⟩
        cases x with
        | false => exact iteF (p2 m2 H2 σ1 Ext.refl R2 (Rs1.mono e2))
        | true =>
          refine iteT ⟨_, fun σ' H' hN => ⟨k, Nat.lt_succ_self k, hN⟩, m2, S2, σ1D, R2, Rs1.mono e2, ?_⟩
          have p3 : PostS A E m2 H2 (match f σ1D S2 with
            | .nx σ' S' => whlN (fun σ S => tstO (fc σ S)) f k σ' S'
            | .ct σ' S' => whlN (fun σ S => tstO (fc σ S)) f k σ' S'
            | .bk σ' S' => .nx σ' S'
            | x => x) D := p2
          revert p3
          cases f σ1D S2 with
          | nx σ3 S3 => exact fun p3 m4 H4 σ4 e4 R4 Rs4 => ⟨m4, S3, σ3, R4, Rs4, PostS.base p3 e4⟩
          | ct σ3 S3 => exact fun p3 m4 H4 σ4 e4 R4 Rs4 => ⟨m4, S3, σ3, R4, Rs4, PostS.base p3 e4⟩
          | bk σ3 S3 => exact fun p3 => p3
          | rt d S3 => exact fun p3 => p3
          | err c fs σ3 S3 => exact fun p3 => p3
          | bad => exact fun p3 => p3
    · exact p.elim
theorem ss_for {tg : Expr} {t : Tg} {it : Expr} {sb : List Stmt} {fi : Sl → Sto → Out Walk} (hK : A.K = X.K) (hp : PassesOwn (model X.prog X.w) X.A X.env X.xe) (hc : X.calm = true) (hi : PI X tg it (tI A E fi)) (hg : PG X tg (gOf X.K t)) (hb : PSs X sb (tS A E f))
    (hs : ∀ x, foldedSetIterable it X.env x = pure x) : PS X (.For tg it sb [] pos) (tS A E fun σ S => (fi σ S).thn σ fun w S => forN w t f (wlen w S) 0 σ S) :=
  PSi (ps_for hp hc hi hg hb hs) fun D σ H ⟨m, S, σD, R, Rs, p⟩ => ⟨m, S, σD, R, Rs, p.thn.mono fun J H1 ⟨m1, S1, w, e1, R1, rj, p1⟩ => by
    refine ⟨fun i k σ H => ∃ m S σD, Ext A m1 H1 m H ∧ Rep A m S H ∧ RepS A m H σD σ ∧ PostS A E m H (forN w t f k i σD S) D, ⟨wlen w S1, m1, S1, σD, Ext.refl, R1, Rs.mono e1, p1⟩, ?_⟩
    rintro i k σ2 H2 ⟨m2, S2, σ2D, e2, R2, Rs2, p2⟩
    have z := rj i m2 S2 H2 e2 R2
    cases hw : wgo w i S2 with
    | none =>
      exfalso
      cases k with
      | zero => simp only [forN, hw] at p2; exact p2
      | succ k => simp only [forN, hw] at p2; exact p2
    | some o =>
      rw [hw] at z
      cases o with
      | none =>
        refine .inl ⟨z, ?_⟩
        cases k with
        | zero => simp only [forN, hw] at p2; exact p2 m2 H2 σ2 Ext.refl R2 Rs2
        | succ k => simp only [forN, hw] at p2; exact p2 m2 H2 σ2 Ext.refl R2 Rs2
      | some d =>
        cases k with
        | zero => simp only [forN, hw] at p2; exact p2.elim
        | succ k =>
          obtain ⟨z1, z2⟩ := z
          refine .inr ⟨z1, _, fun σ' H' hN => ⟨k, Nat.lt_succ_self k, hN⟩, fun x H3 hy => ?_⟩
          obtain ⟨e3, R3, rx⟩ := z2 x H3 hy
          have p3 := PostS.base p2 e3
          simp only [forN, hw] at p3
          cases hs : setTg t d σ2D with
          | none => rw [hs] at p3; exact p3.elim
          | some σ' =>
            rw [hs] at p3
            dsimp only at p3
            refine gOf_in hK (fun _ => True) _ hs rx (Rs2.mono e3) (fun _ _ _ _ _ => trivial) trivial fun σ4 Rs4 _ => ?_
            refine ⟨m2, S2, σ', R3, Rs4, ?_⟩
            revert p3
            cases f σ' S2 with
            | nx σ5 S5 => exact fun p3 m6 H6 σ6 e6 R6 Rs6 => ⟨m6, S5, σ5, (e2.trans e3).trans e6, R6, Rs6, PostS.base p3 e6⟩
            | ct σ5 S5 => exact fun p3 m6 H6 σ6 e6 R6 Rs6 => ⟨m6, S5, σ5, (e2.trans e3).trans e6, R6, Rs6, PostS.base p3 e6⟩
            | bk σ5 S5 => exact fun p3 => p3
            | rt d S5 => exact fun p3 => p3
            | err c fs σ5 S5 => exact fun p3 => p3
            | bad => exact fun p3 => p3⟩
theorem ss_rai {c : Nat} {x ms : Str} {j : Nat} {p p2 p3 pos2 : Pos} (hc : X.calm = true) (tk : Takes X (fun cls d _ H => E cls d H)) (q : PySem.W.excIn X.K (A.cl c) [.type "ValueError", .type "Exception", .type "BaseException", .type "object"] "ValueError.__new__" = true)
    (gC : X.mg x = some (.ref (A.cl c))) (kC : PySem.W.keepIn X.K (.ref (A.cl c)) = true) (r : Raises X (.ref (A.cl c))) (hg : Gl X x) (hdb : (x == ("__debug__" : Str)) = false) :
    PS X (.Raise (some (.Call (.Name x p) [.Constant (.str ms) j p2] [] p3)) none pos2) (tS A E fun σ S => .err c none σ S) :=
  PSi (ps_raise hc tk (pmk_own PySem.F.excBase_ValueError q gC kC r hg hdb)) fun D σ H ⟨m, S, σD, R, Rs, p⟩ => p m H none Ext.refl R .no
end
end DI

set_option Elab.async false
set_option linter.all false
set_option maxRecDepth 100000
set_option maxHeartbeats 4000000
/-! Every text of the language does what the language says: statements, defs. -/
namespace DI
open L2 PySem PySem.Spec PyProof.Rows
def notComp : Expr → Bool | .ListComp _ _ _ _ => false | .SetComp _ _ _ _ => false | .DictComp _ _ _ _ _ => false | _ => true
def isLc : Expr → Bool | .ListComp _ _ _ _ => true | _ => false
def isLoc (sc : Scope) (x : Str) : Bool := match sc.names.lookup x with | some .local => true | _ => false
def isCel (sc : Scope) (x : Str) : Bool := match sc.names.lookup x with | some .cell => true | _ => false
def isFun (sc : Scope) : Bool := match sc.kind with | .function => true | _ => false
/-- x = v: how it is stored -/
def okSet (cc : CC) (x : Str) (p : Pos) : Expr → Bool
  | .ListComp _ _ scope vp => (isFun cc.sc && isLoc cc.sc x && (p.line == vp.line) && !(scope.names.any fun (n, k) => n == x && (k == .local || k == .cell))) || isCel cc.sc x
  | v => notComp v
def notTup : Expr → Bool | .Tuple _ _ _ => false | _ => true
/-- a tuple display that is stored as a tuple -/
def okTup (sc : Scope) (ts : List Expr) : Expr → Bool
  | .Tuple vs _ _ => decide (4 ≤ ts.length) || (ts.any fun t => match t with | .Name x _ => isCel sc x | _ => false)
  | _ => true
/-! a statement's shape -/
def asNm : Stmt → Option (Str × Pos × Expr × Pos) | .Assign [.Name x p] v pos => some (x, p, v, pos) | _ => none
def asTu : Stmt → Option (List Expr × Nat × Pos × Expr × Pos) | .Assign [.Tuple ts k p] v pos => some (ts, k, p, v, pos) | _ => none
def asP2 : Stmt → Option ((Str × Pos × Str × Pos × Nat × Pos) × (Expr × Expr × Nat × Pos) × Pos) | .Assign [.Tuple [.Name x px, .Name y py] k p] (.Tuple [v, w] k2 p2) pos => some ((x, px, y, py, k, p), (v, w, k2, p2), pos) | _ => none
def asAt : Stmt → Option (Expr × Str × Pos × Expr × Pos) | .Assign [.Attribute o f p] v pos => some (o, f, p, v, pos) | _ => none
def asSu : Stmt → Option (Expr × Expr × Pos × Expr × Pos) | .Assign [.Subscript o i p] v pos => some (o, i, p, v, pos) | _ => none
def agNm : Stmt → Option (Str × Pos × Operator × Expr × Pos) | .AugAssign (.Name x p) op v pos => some (x, p, op, v, pos) | _ => none
def asRa : Stmt → Option (Str × Pos × (Str × Nat × Pos) × Pos × Pos) | .Raise (some (.Call (.Name y p) [.Constant (.str m) j p2] [] p3)) none p4 => some (y, p, (m, j, p2), p3, p4) | _ => none
theorem asNm_eq {st : Stmt} {x : Str} {p : Pos} {v : Expr} {pos : Pos} (h : asNm st = some (x, p, v, pos)) : st = .Assign [.Name x p] v pos := by
  unfold asNm at h; split at h <;> cases h; rfl
theorem asTu_eq {st : Stmt} {ts : List Expr} {k : Nat} {p : Pos} {v : Expr} {pos : Pos} (h : asTu st = some (ts, k, p, v, pos)) : st = .Assign [.Tuple ts k p] v pos := by
  unfold asTu at h; split at h <;> cases h; rfl
theorem asP2_eq {st : Stmt} {x y : Str} {px py p p2 pos : Pos} {k k2 : Nat} {v w : Expr} (h : asP2 st = some ((x, px, y, py, k, p), (v, w, k2, p2), pos)) : st = .Assign [.Tuple [.Name x px, .Name y py] k p] (.Tuple [v, w] k2 p2) pos := by
  unfold asP2 at h; split at h <;> cases h; rfl
theorem asAt_eq {st : Stmt} {o : Expr} {f : Str} {p : Pos} {v : Expr} {pos : Pos} (h : asAt st = some (o, f, p, v, pos)) : st = .Assign [.Attribute o f p] v pos := by
  unfold asAt at h; split at h <;> cases h; rfl
theorem asSu_eq {st : Stmt} {o i : Expr} {p : Pos} {v : Expr} {pos : Pos} (h : asSu st = some (o, i, p, v, pos)) : st = .Assign [.Subscript o i p] v pos := by
  unfold asSu at h; split at h <;> cases h; rfl
theorem agNm_eq {st : Stmt} {x : Str} {p : Pos} {op : Operator} {v : Expr} {pos : Pos} (h : agNm st = some (x, p, op, v, pos)) : st = .AugAssign (.Name x p) op v pos := by
  unfold agNm at h; split at h <;> cases h; rfl
theorem asRa_eq {st : Stmt} {y m : Str} {p p2 p3 p4 : Pos} {j : Nat} (h : asRa st = some (y, p, (m, j, p2), p3, p4)) : st = .Raise (some (.Call (.Name y p) [.Constant (.str m) j p2] [] p3)) none p4 := by
  unfold asRa at h; split at h <;> cases h; rfl
def asRe : Stmt → Option (Expr × Pos) | .Return (some v) pos => some (v, pos) | _ => none
def asRn : Stmt → Option Pos | .Return none pos => some pos | _ => none
def asWh : Stmt → Option (Expr × List Stmt × Pos) | .While t x [] pos => some (t, x, pos) | _ => none
def asFo : Stmt → Option (Expr × Expr × List Stmt × Pos) | .For t i x [] pos => some (t, i, x, pos) | _ => none
theorem asRe_eq {st : Stmt} {v : Expr} {pos : Pos} (h : asRe st = some (v, pos)) : st = .Return (some v) pos := by
  unfold asRe at h; split at h <;> cases h; rfl
theorem asRn_eq {st : Stmt} {pos : Pos} (h : asRn st = some pos) : st = .Return none pos := by
  unfold asRn at h; split at h <;> cases h; rfl
theorem asWh_eq {st : Stmt} {t : Expr} {x : List Stmt} {pos : Pos} (h : asWh st = some (t, x, pos)) : st = .While t x [] pos := by
  unfold asWh at h; split at h <;> cases h; rfl
theorem asFo_eq {st : Stmt} {t i : Expr} {x : List Stmt} {pos : Pos} (h : asFo st = some (t, i, x, pos)) : st = .For t i x [] pos := by
  unfold asFo at h; split at h <;> cases h; rfl
mutual
def chkS (cc : CC) : Sm → Stmt → Bool
  | .set i e, st => match asNm st with
    | some (x, p, v, _) => decide (cc.N[i]? = some x) && lcl cc x && okSet cc x p v && chk cc e v
    | none => false
  | .setT is e, st => match asTu st with
    | some (ts, _, _, v, _) => chkNms cc is ts && okTup cc.sc ts v && chk cc e v
    | none => false
  | .par i j a b, st => match asP2 st with
    | some ((x, px, y, py, _, _), (v, w, _, _), _) => decide (cc.N[i]? = some x) && decide (cc.N[j]? = some y) && decide (i ≠ j) && decide (x ≠ y) && isFun cc.sc && isLoc cc.sc x && isLoc cc.sc y && (px.line == py.line) &&
      !([v, w].all (foldedForSure 8)) && !([v, w].all (constantsAlone 8)) && notStar v && notStar w && chk cc a v && chk cc b w
    | none => false
  | .fld c o f e, st => match asAt st with
    | some (oe, f', _, v, _) => decide (f = f') && decide (c ∈ cc.pn.cls) && decide ((c, f) ∈ cc.pn.flds) && chk cc o oe && chk cc e v
    | none => false
  | .sub o i e, st => match asSu st with
    | some (oe, ie, _, v, _) => notSlice ie && chk cc o oe && chk cc i ie && chk cc e v
    | none => false
  | .aug i op e, st => match agNm st with
    | some (x, _, op', v, _) => decide (op = op') && (decide (op = .Add) || decide (op = .Sub)) && decide (cc.N[i]? = some x) && lcl cc x && chk cc e v
    | none => false
  | .exp e, .Expr v _ => notComp v && chk cc e v
  | .ret e, st => match asRe st with
    | some (v, _) => chk cc e v
    | none => false
  | .retN, st => (asRn st).isSome
  | .ite c a b, .If t x y _ => chk cc c t && chkSs cc a x && chkSs cc b y
  | .whl c b, st => match asWh st with
    | some (t, x, _) => chk cc c t && chkSs cc b x
    | none => false
  | .for_ tg it b, st => match asFo st with
    | some (t, i, x, _) => chkTg cc tg t && chkI cc it t i && notSet i && chkSs cc b x
    | none => false
  | .pass, .Pass _ => true
  | .brk, .Break _ => true
  | .cnt, .Continue _ => true
  | .rai c x, st => match asRa st with
    | some (y, _) => decide (x = y) && decide ((c, x) ∈ cc.pn.xcs) && glb cc.sc x && noDbg x
    | none => false
  | _, _ => false
def chkSs (cc : CC) : Sms → List Stmt → Bool
  | .nil, [] => true
  | .cons s ss, st :: sts => chkS cc s st && chkSs cc ss sts
  | _, _ => false
end
section
variable {A : Ad} {P : Pg} {C : Nat → List D → Sto → Out D} {X : Cx} {E : XK} {k : Nat} {cc : CC}
theorem swap_no {v : Expr} {t : Option Expr} {l : Nat} {env : Env} (h : notComp v = true) : swapsWith v t l env = pure false := by cases v <;> first | rfl | cases h
theorem swap_tup {v : Expr} {ts : List Expr} {kt : Nat} {tp : Pos} {l : Nat} {env : Env} : swapsWithSole [.Tuple ts kt tp] v l env = pure false := by cases v <;> rfl
theorem swap_sub {v o i : Expr} {tp : Pos} {l : Nat} {env : Env} : swapsWithSole [.Subscript o i tp] v l env = pure false := by cases v <;> rfl
theorem swap_att {v o : Expr} {f : Str} {tp : Pos} {l : Nat} {env : Env} : swapsWith v (some (.Attribute o f tp)) l env = pure false := by cases v <;> rfl
theorem swaps_sub {v o i : Expr} {tp : Pos} {env : Env} : swappedStores [.Subscript o i tp] v env = pure none := by cases v <;> rfl
theorem loc_eq {sc : Scope} {x : Str} (h : isLoc sc x = true) : sc.names.lookup x = some .local := by
  unfold isLoc at h; split at h
  · assumption
  · cases h
theorem cel_eq {sc : Scope} {x : Str} (h : isCel sc x = true) : sc.names.lookup x = some .cell := by
  unfold isCel at h; split at h
  · assumption
  · cases h
theorem fun_eq {sc : Scope} (h : isFun sc = true) : sc.kind = .function := by
  unfold isFun at h; split at h
  · assumption
  · cases h
theorem swap_cel {e : Expr} {gs : List Comprehension} {scope : Scope} {vp p : Pos} {x : Str} {l : Nat} {env : Env} (h : env.scope.names.lookup x = some .cell) : swapsWith (.ListComp e gs scope vp) (some (.Name x p)) l env = pure false := by
  have hk : env.kindOf x = some .cell := h
  show (pure (env.blockKind == .function && env.kindOf x == some .local && p.line == vp.line && !(scope.names.any fun (n, k) => n == x && (k == .local || k == .cell))) : Sem Bool) = pure false
  rw [hk]
  congr 1
  have : (some NameKind.cell == some NameKind.local) = false := rfl
  rw [this, Bool.and_false, Bool.false_and, Bool.false_and]
theorem swaps_none {ts : List Expr} {v : Expr} {kt : Nat} {tp : Pos} {env : Env} (h : okTup env.scope ts v = true) : swappedStores [.Tuple ts kt tp] v env = pure none := by
  cases v <;> first | rfl | skip
  rename_i vs k2 p2
  simp only [okTup, Bool.or_eq_true, decide_eq_true_eq] at h
  show (do
    if !(ts.length == 2 || ts.length == 3) || vs.length != ts.length || env.blockKind != .function then return none
    if vs.any fun | .Starred .. => true | _ => false then return none
    let line := (ts.head?.map (·.pos.line)).getD 0
    let names := ts.filterMap fun
      | .Name id pos => if env.kindOf id == some .local && pos.line == line then some id else none
      | _ => none
    if names.length != ts.length || names.eraseDups.length != names.length then return none
    if vs.all (foldedForSure 8) then return none
    if vs.all (constantsAlone 8) then unsupported "assign.tuple-of-constant-expressions:order-of-the-stores"
    return some names : Sem (Option (List Str))) = pure none
  have hn : ∀ line : Nat, (ts.any fun t => match t with | .Name x _ => isCel env.scope x | _ => false) = true → ((ts.filterMap fun
      | .Name id pos => if env.kindOf id == some .local && pos.line == line then some id else none
      | _ => none).length != ts.length) = true := by
    intro line h
    obtain ⟨t, ht, hc⟩ := List.any_eq_true.mp h
    rw [bne_iff_ne]
    intro e
    have := List.filterMap_length_eq_length.mp e t ht
    cases t <;> first | (cases hc; done) | skip
    rename_i x p
    have hk : env.kindOf x = some .cell := cel_eq hc
    dsimp only at this
    rw [hk] at this
    exact absurd this (by simp)
  by_cases c1 : (!(ts.length == 2 || ts.length == 3) || vs.length != ts.length || env.blockKind != .function) = true
  · rw [if_pos c1] <;> rfl
  · rw [if_neg c1]
    rcases h with h | h
    · exfalso
      apply c1
      have e2 : (ts.length == 2) = false := by rw [beq_eq_false_iff_ne]; omega
      have e3 : (ts.length == 3) = false := by rw [beq_eq_false_iff_ne]; omega
      rw [e2, e3] <;> rfl
    · by_cases c2 : (vs.any fun | .Starred .. => true | _ => false) = true
      · simp only [c2, if_true] <;> rfl
      · have z := hn ((ts.head?.map (·.pos.line)).getD 0) h
        simp only [c2, z, Bool.true_or, if_true] <;> rfl
theorem swaps_two {x y : Str} {px py pt pt2 : Pos} {kt k2 : Nat} {v w : Expr} {env : Env} (hxy : x ≠ y) (hf : env.scope.kind = .function) (hx : env.scope.names.lookup x = some .local) (hy : env.scope.names.lookup y = some .local)
    (hl : (px.line == py.line) = true) (h1 : ([v, w].all (foldedForSure 8)) = false) (h2 : ([v, w].all (constantsAlone 8)) = false) (s1 : notStar v = true) (s2 : notStar w = true) :
    swappedStores [.Tuple [.Name x px, .Name y py] kt pt] (.Tuple [v, w] k2 pt2) env = pure (some [x, y]) := by
  have kx : env.kindOf x = some .local := hx
  have ky : env.kindOf y = some .local := hy
  have hb : env.blockKind = .function := by unfold Env.blockKind; rw [hf] <;> rfl
  have es : ([v, w].any fun | .Starred .. => true | _ => false) = false := by
    cases v <;> first | (cases s1; done) | (cases w <;> first | rfl | (cases s2; done))
  have el : (py.line == px.line) = true := by rw [beq_iff_eq] at hl ⊢; exact hl.symm
  show (do
    if !(2 == 2 || 2 == 3) || 2 != 2 || env.blockKind != .function then return none
    if [v, w].any fun | .Starred .. => true | _ => false then return none
    let names := [Expr.Name x px, Expr.Name y py].filterMap fun
      | .Name id pos => if env.kindOf id == some .local && pos.line == px.line then some id else none
      | _ => none
    if names.length != 2 || names.eraseDups.length != names.length then return none
    if [v, w].all (foldedForSure 8) then return none
    if [v, w].all (constantsAlone 8) then unsupported "assign.tuple-of-constant-expressions:order-of-the-stores"
    return some names : Sem (Option (List Str))) = pure (some [x, y])
  have en : ([Expr.Name x px, Expr.Name y py].filterMap fun
      | .Name id pos => if env.kindOf id == some .local && pos.line == px.line then some id else none
      | _ => none) = [x, y] := by
    have el' : py.line = px.line := by simpa using el
    rw [List.filterMap_cons_some (b := x) (by dsimp only; rw [kx]; simp), List.filterMap_cons_some (b := y) (by dsimp only; rw [ky, el']; simp)] <;> rfl
  have ee : ([x, y].eraseDups.length != [x, y].length) = false := by
    have : [x, y].eraseDups = [x, y] := by
      rw [List.eraseDups_cons]
      have : [y].filter (fun b => !b == x) = [y] := by
        have : (y == x) = false := beq_eq_false_iff_ne.mpr (Ne.symm hxy)
        simp [this]
      rw [this] <;> rfl
    rw [this] <;> simp
  rw [hb, es, en]
  simp only [ee, h1, h2]
  rfl
end
end DI

set_option Elab.async false
set_option linter.all false
set_option maxRecDepth 100000
set_option maxHeartbeats 4000000
/-! Statements, defs, programs: each does what the language says. -/
namespace DI
open L2 PySem PySem.Spec PyProof.Rows
section
variable {A : Ad} {P : Pg} {C : Nat → List D → Sto → Out D}
def NS (A : Ad) (P : Pg) (C : Nat → List D → Sto → Out D) (s : Sm) : Prop := ∀ {X : Cx} {E : XK} {k : Nat} {cc : CC} {st : Stmt}, Good A P C X E k cc → chkS cc s st = true → PS X st (tS A E (dS P C s))
def NSs (A : Ad) (P : Pg) (C : Nat → List D → Sto → Out D) (ss : Sms) : Prop := ∀ {X : Cx} {E : XK} {k : Nat} {cc : CC} {sts : List Stmt}, Good A P C X E k cc → chkSs cc ss sts = true → PSs X sts (tS A E (dSs P C ss))
theorem tSeq_ {f g : Sl → Sto → OutS} {X : Cx} {E : XK} {st : Stmt} (h : PS X st (tS A E f)) (e : ∀ σ S, g σ S = f σ S) : PS X st (tS A E g) := by
  have : g = f := by funext σ S; exact e σ S
  rw [this]; exact h
theorem n_set (i : Nat) (e : Ex) : NS A P C (.set i e) := by
  intro X E k cc st G h
  simp only [chkS] at h
  cases ha : asNm st with
  | none => rw [ha] at h; cases h
  | some q =>
    obtain ⟨x, p, v, pos⟩ := q
    rw [ha] at h
    have := asNm_eq ha
    subst this
    clear ha
    simp only [Bool.and_eq_true, decide_eq_true_eq] at h
    obtain ⟨⟨⟨h1, h2⟩, h3⟩, h4⟩ := h
    obtain ⟨l1, l2⟩ := G.lcl h2
    refine tSeq_ (f := fun σ S => (de P C e false σ S).thn σ fun d S => .nx (σ.set i (some d)) S) (ss_set ?_) (fun σ S => by simp only [dS])
    by_cases hv : notComp v = true
    · exact ps_set G.nd (by rw [G.hN]; exact h1) l1 (sE e G h4).1 (swap_no hv) l2
    · cases v <;> first | (exact absurd rfl hv) | skip
      · rename_i elt gs scope vp
        simp only [okSet, Bool.or_eq_true, Bool.and_eq_true] at h3
        rcases h3 with ⟨⟨⟨k1, k2⟩, k3⟩, k4⟩ | k1
        · have hx : X.env.scope.names.lookup x = some .local := by rw [G.sc]; exact loc_eq k2
          cases e <;> (try simp only [chk] at h4) <;> first | (cases h4; done) | skip
          rename_i own tg it ifs el
          match gs, h4 with
          | [⟨t, iter, fs, a⟩], h4 =>
            simp only [chk, Bool.and_eq_true, decide_eq_true_eq] at h4
            obtain ⟨⟨⟨⟨⟨⟨⟨rfl, h1'⟩, h2'⟩, h3'⟩, h4'⟩, h5'⟩, h6'⟩, h7'⟩ := h4
            have hB : BlkOk X.N X.env.scope scope own := by rw [G.hN, G.sc]; exact blkOk_by h1'
            have htg : ∀ i ∈ tg.slots, i ∈ own.map (·.2) := fun i hi => of_decide_eq_true (List.all_eq_true.mp h3' i hi)
            refine PSi (ps_setLc (g := gOf X.K tg) (wi := tI A E (deI P C it)) (tt := tG A EF RE (deT P C ifs)) (te := tE A EF (de P C el false)) G.calm G.nd (by rw [G.hN]; exact h1) hx (sw_true (by rw [G.sc]; exact fun_eq k1) hx k3 (by simpa using k4)) (sI it (tg := t) G h5') hB (fun s H Ca cl fp => s_tg (G.blk s H scope Ca cl fp) h2') (fun s H Ca cl fp => (sEs ifs).2.1 (G.blk s H scope Ca cl fp) h6') (fun s H Ca cl fp => (sE el (G.blk s H scope Ca cl fp) h7').1) (set_ok h4')) ?_
            intro D σ H hw
            refine lc_in G.hK htg σ H _ ?_
            have e1 : de P C (.lc own tg it ifs el) false = fun σ S => (deI P C it σ S).bind fun w S =>
      (lcLoop w tg (wipeD σ (own.map (·.2))) S.length (fun σ S => deT P C ifs σ S) (fun σ S => de P C el false σ S) (wlen w S) 0 (S ++ [.lst []])).bind fun _ S' => .ok (.loc S.length) S' := by funext σ S; simp only [de] <;> rfl
            rw [e1] at hw
            exact hw
          | [], h4 => simp [chk] at h4
          | _ :: _ :: _, h4 => simp [chk] at h4
        · exact ps_set G.nd (by rw [G.hN]; exact h1) l1 (sE e G h4).1 (swap_cel (by rw [G.sc]; exact cel_eq k1)) l2
      · simp only [okSet] at h3; exact absurd h3 hv
      · simp only [okSet] at h3; exact absurd h3 hv
theorem n_setT (is : List Nat) (e : Ex) : NS A P C (.setT is e) := by
  intro X E k cc st G h
  simp only [chkS] at h
  cases hv : asTu st with
  | none => rw [hv] at h; cases h
  | some q =>
    obtain ⟨ts, kt, tp, v, pos⟩ := q
    rw [hv] at h
    have := asTu_eq hv
    subst this
    simp only [Bool.and_eq_true] at h
    obtain ⟨⟨h1, h2⟩, h3⟩ := h
    have hg : chkTg cc (.tp is) (.Tuple ts kt tp) = true := h1
    exact tSeq_ (ss_setT G.hK (sE e G h3).1 (s_tg G hg) swap_tup (swaps_none (by rw [G.sc]; exact h2)) rfl) (fun σ S => by simp only [dS] <;> rfl)
theorem n_par (i j : Nat) (a b : Ex) : NS A P C (.par i j a b) := by
  intro X E k cc st G h
  simp only [chkS] at h
  cases hv : asP2 st with
  | none => rw [hv] at h; cases h
  | some q =>
    obtain ⟨⟨x, px, y, py, kt, tp⟩, ⟨v, w, k2, p2⟩, pos⟩ := q
    rw [hv] at h
    have := asP2_eq hv
    subst this
    simp only [Bool.and_eq_true, decide_eq_true_eq, Bool.not_eq_true'] at h
    obtain ⟨⟨⟨⟨⟨⟨⟨⟨⟨⟨⟨⟨⟨h1, h2⟩, h3⟩, h4⟩, h5⟩, h6⟩, h7⟩, h8⟩, h9⟩, h10⟩, h11⟩, h12⟩, h13⟩, h14⟩ := h
    have hx := loc_eq h6
    have hy := loc_eq h7
    rw [← G.sc] at hx hy
    exact tSeq_ (ss_par G.calm G.nd (by rw [G.hN]; exact h1) (by rw [G.hN]; exact h2) h3 hx hy (sE a G h13).1 (sE b G h14).1 (star_ok h11) (star_ok h12) (swaps_two h4 (by rw [G.sc]; exact fun_eq h5) hx hy h8 h9 h10 h11 h12)) (fun σ S => by simp only [dS])
theorem n_fld (c : Nat) (o : Ex) (f : Str) (e : Ex) : NS A P C (.fld c o f e) := by
  intro X E k cc st G h
  simp only [chkS] at h
  cases hv : asAt st with
  | none => rw [hv] at h; cases h
  | some q =>
    obtain ⟨oe, f', p, v, pos⟩ := q
    rw [hv] at h
    have := asAt_eq hv
    subst this
    simp only [Bool.and_eq_true, decide_eq_true_eq] at h
    obtain ⟨⟨⟨⟨rfl, h1⟩, h2⟩, h3⟩, h4⟩ := h
    exact tSeq_ (ss_fld (G.facts.cls c h1) (G.facts.fld _ h2) (sE o G h3).1 (sE e G h4).1 swap_att) (fun σ S => by simp only [dS] <;> rfl)
theorem n_sub (o i e : Ex) : NS A P C (.sub o i e) := by
  intro X E k cc st G h
  simp only [chkS] at h
  cases hv : asSu st with
  | none => rw [hv] at h; cases h
  | some q =>
    obtain ⟨oe, ie, p, v, pos⟩ := q
    rw [hv] at h
    have := asSu_eq hv
    subst this
    simp only [Bool.and_eq_true] at h
    obtain ⟨⟨⟨h1, h2⟩, h3⟩, h4⟩ := h
    exact tSeq_ (ss_sub h1 (by have := G.hu; omega) (sE o G h2).1 (sE i G h3).1 (sE e G h4).1 swap_sub swaps_sub) (fun σ S => by simp only [dS] <;> rfl)
theorem n_aug (i : Nat) (op : Operator) (e : Ex) : NS A P C (.aug i op e) := by
  intro X E k cc st G h
  simp only [chkS] at h
  cases hv : agNm st with
  | none => rw [hv] at h; cases h
  | some q =>
    obtain ⟨x, p, op', v, pos⟩ := q
    rw [hv] at h
    have := agNm_eq hv
    subst this
    simp only [Bool.and_eq_true, Bool.or_eq_true, decide_eq_true_eq] at h
    obtain ⟨⟨⟨⟨rfl, h1⟩, h2⟩, h3⟩, h4⟩ := h
    obtain ⟨l1, l2⟩ := G.lcl h3
    rcases h1 with rfl | rfl
    · refine tSeq_ (ss_aug G.nd (by rw [G.hN]; exact h2) l1 (sE e G h4).1 ip_add l2 (F := fun x y σ S => match x, y with | .int a, .int b => .nx (σ.set i (some (.int (a + b)))) S | _, _ => .bad) ?_) (fun σ S => ?_)
      · intro x y σ S
        cases x <;> (try exact .inr rfl) <;> cases y <;> (try exact .inr rfl)
        exact .inl ⟨_, _, rfl, rfl, rfl⟩
      · cases hσ : σ[i]? with
        | none => simp only [dS, hσ]
        | some o =>
          cases o with
          | none => simp only [dS, hσ]
          | some x =>
            simp only [dS, hσ]
            congr 1
            funext y S
            cases x <;> first | rfl | (cases y <;> rfl)
    · refine tSeq_ (ss_aug G.nd (by rw [G.hN]; exact h2) l1 (sE e G h4).1 ip_sub l2 (F := fun x y σ S => match x, y with | .int a, .int b => .nx (σ.set i (some (.int (a - b)))) S | _, _ => .bad) ?_) (fun σ S => ?_)
      · intro x y σ S
        cases x <;> (try exact .inr rfl) <;> cases y <;> (try exact .inr rfl)
        exact .inl ⟨_, _, rfl, rfl, rfl⟩
      · cases hσ : σ[i]? with
        | none => simp only [dS, hσ]
        | some o =>
          cases o with
          | none => simp only [dS, hσ]
          | some x =>
            simp only [dS, hσ]
            congr 1
            funext y S
            cases x <;> first | rfl | (cases y <;> rfl)
theorem n_exp (e : Ex) : NS A P C (.exp e) := by
  intro X E k cc st G h
  cases st <;> (try simp only [chkS] at h) <;> first | (cases h; done) | skip
  simp only [Bool.and_eq_true] at h
  exact tSeq_ (ss_exp (sE e G h.2).1 (swap_no h.1)) (fun σ S => by simp only [dS])
theorem n_ret (e : Ex) : NS A P C (.ret e) := by
  intro X E k cc st G h
  simp only [chkS] at h
  cases hv : asRe st with
  | none => rw [hv] at h; cases h
  | some q =>
    obtain ⟨v, pos⟩ := q
    rw [hv] at h
    have := asRe_eq hv
    subst this
    exact tSeq_ (ss_ret (sE e G h).1) (fun σ S => by simp only [dS])
theorem n_retN : NS A P C .retN := by
  intro X E k cc st G h
  simp only [chkS] at h
  cases hv : asRn st with
  | none => rw [hv] at h; cases h
  | some pos =>
    have := asRn_eq hv
    subst this
    exact tSeq_ ss_retN (fun σ S => by simp only [dS])
theorem n_ite (c : Ex) {a b : Sms} (ia : NSs A P C a) (ib : NSs A P C b) : NS A P C (.ite c a b) := by
  intro X E k cc st G h
  cases st <;> (try simp only [chkS] at h) <;> first | (cases h; done) | skip
  simp only [Bool.and_eq_true] at h
  exact tSeq_ (ss_ite (sE c G h.1.1).2.1 (ia G h.1.2) (ib G h.2)) (fun σ S => by simp only [dS])
theorem n_whl (c : Ex) {b : Sms} (ib : NSs A P C b) : NS A P C (.whl c b) := by
  intro X E k cc st G h
  simp only [chkS] at h
  cases hv : asWh st with
  | none => rw [hv] at h; cases h
  | some q =>
    obtain ⟨t, x, pos⟩ := q
    rw [hv] at h
    have := asWh_eq hv
    subst this
    simp only [Bool.and_eq_true] at h
    exact tSeq_ (ss_whl G.pass (sE c G h.1).2.1 (ib G h.2)) (fun σ S => by simp only [dS])
theorem n_for (tg : Tg) (it : Ir) {b : Sms} (ib : NSs A P C b) : NS A P C (.for_ tg it b) := by
  intro X E k cc st G h
  simp only [chkS] at h
  cases hv : asFo st with
  | none => rw [hv] at h; cases h
  | some q =>
    obtain ⟨t, i, x, pos⟩ := q
    rw [hv] at h
    have := asFo_eq hv
    subst this
    simp only [Bool.and_eq_true] at h
    obtain ⟨⟨⟨h1, h2⟩, h3⟩, h4⟩ := h
    exact tSeq_ (ss_for G.hK G.pass G.calm (sI it G h2) (s_tg G h1) (ib G h4) (set_ok h3)) (fun σ S => by simp only [dS])
theorem n_pass : NS A P C .pass := by
  intro X E k cc st G h
  cases st <;> (try simp only [chkS] at h) <;> first | (cases h; done) | skip
  exact tSeq_ ss_pass (fun σ S => by simp only [dS])
theorem n_brk : NS A P C .brk := by
  intro X E k cc st G h
  cases st <;> (try simp only [chkS] at h) <;> first | (cases h; done) | skip
  exact tSeq_ ss_brk (fun σ S => by simp only [dS])
theorem n_cnt : NS A P C .cnt := by
  intro X E k cc st G h
  cases st <;> (try simp only [chkS] at h) <;> first | (cases h; done) | skip
  exact tSeq_ ss_cnt (fun σ S => by simp only [dS])
theorem n_rai (c : Nat) (x : Str) : NS A P C (.rai c x) := by
  intro X E k cc st G h
  simp only [chkS] at h
  cases hv : asRa st with
  | none => rw [hv] at h; cases h
  | some q =>
    obtain ⟨y, p, ⟨m, j, p2⟩, p3, p4⟩ := q
    rw [hv] at h
    have := asRa_eq hv
    subst this
    simp only [Bool.and_eq_true, decide_eq_true_eq] at h
    obtain ⟨⟨⟨rfl, h1⟩, h2⟩, h3⟩ := h
    obtain ⟨g1, g2, g3, g4, g5⟩ := G.facts.xc _ h1
    exact tSeq_ (ss_rai G.calm G.tk g2 g1 g3 (raises_own g4 g5) (G.glb h2) (noDbg_ h3).1) (fun σ S => by simp only [dS])
theorem n_nil : NSs A P C .nil := by
  intro X E k cc sts G h
  cases sts with
  | cons _ _ => simp [chkSs] at h
  | nil =>
    have e1 : dSs P C .nil = fun σ S => .nx σ S := by funext σ S; simp only [dSs]
    rw [e1]; exact ss_nil
theorem n_cons {s : Sm} {ss : Sms} (i1 : NS A P C s) (i2 : NSs A P C ss) : NSs A P C (.cons s ss) := by
  intro X E k cc sts G h
  cases sts with
  | nil => simp [chkSs] at h
  | cons st sts =>
    simp only [chkSs, Bool.and_eq_true] at h
    have e1 : dSs P C (.cons s ss) = fun σ S => (dS P C s σ S).nxt (dSs P C ss) := by funext σ S; simp only [dSs]
    rw [e1]; exact ss_cons (i1 G h.1) (i2 G h.2)
theorem sSs (ss : Sms) : NSs A P C ss := by
  exact @Sms.rec (NS A P C) (NSs A P C) (fun i e => n_set i e) (fun is e => n_setT is e) (fun i j a b => n_par i j a b) (fun c o f e => n_fld c o f e) (fun o i e => n_sub o i e) (fun i o e => n_aug i o e)
    (fun e => n_exp e) (fun e => n_ret e) n_retN (fun c _ _ a b => n_ite c a b) (fun c _ b => n_whl c b) (fun tg it _ b => n_for tg it b) n_pass n_brk n_cnt (fun c x => n_rai c x) n_nil (fun _ _ a b => n_cons a b) ss
end
/-! ### defs -/
def startD (n : Nat) (ds : List D) : Sl := ds.map some ++ List.replicate (n - ds.length) none
noncomputable def runB (P : Pg) (C : Nat → List D → Sto → Out D) (n np : Nat) (T : Sms) (ds : List D) (S : Sto) : Out D :=
  if ds.length = np then match dSs P C T (startD n ds) S with
    | .nx _ S' => .ok .non S'
    | .rt v S' => .ok v S'
    | .err c fs _ S' => .err c fs S'
    | _ => .bad
  else .bad
theorem runB_len {P : Pg} {C : Nat → List D → Sto → Out D} {n np : Nat} {T : Sms} : ∀ ds S, ds.length ≠ np → runB P C n np T ds S = .bad := fun ds S h => by unfold runB; rw [if_neg h]
section
variable {A : Ad} {P : Pg} {C : Nat → List D → Sto → Out D} {Pr : Program} {w : World} {K : PySem.W.Frag} {mg : Str → Option Value} {base : Heap}
theorem start_rep {m : List Addr} {H : Hp} {N : List Str} : ∀ {ds : List D} {vs : List V}, RepL A m H ds vs → RepS A m H (startD N.length ds) (L2.start N vs) := by
  intro ds vs l
  have hl := l.length
  refine ⟨?_, fun i d h => ?_⟩
  · unfold startD L2.start
    simp only [List.length_append, List.length_map, List.length_replicate, hl]
  · unfold startD at h
    unfold L2.start
    by_cases c : i < ds.length
    · rw [List.getElem?_append_left (by rw [List.length_map]; exact c), List.getElem?_map] at h
      rw [List.getElem?_append_left (by rw [List.length_map, hl]; exact c), List.getElem?_map]
      cases hd : ds[i]? with
      | none => rw [hd] at h; cases h
      | some d' =>
        rw [hd] at h
        cases h
        obtain ⟨v, h1, h2⟩ := l.get hd
        exact ⟨v, by rw [h1]; rfl, h2⟩
    · rw [List.getElem?_append_right (by rw [List.length_map]; omega), List.getElem?_replicate] at h
      split at h <;> cases h
/-- a def of the language keeps its promise -/
theorem fn_ok {x qual : Str} {st : Stmt} {f : Addr} {fd : FuncData} {N ps : List Str} {k : Nat} {T : Sms} {pn : PN} {dvs : List V} {kws : List (Str × V)} (F : FunD K x qual (defArgs st) (defBody st) (defScope st) dvs kws f fd) (S : FnScope N ps (defScope st)) (hK : A.K = K) (facts : Facts A P pn K mg)
    (hchk : chkSs ⟨N, defScope st, fun _ => true, pn⟩ T (defBody st) = true)
    (fns : ∀ j, j < pn.nfn → ∃ fd ps, FnOk Pr w K mg base (L2.CX Pr w) k (A.fn j) fd ps (spC A ps.length (C j)) ∧ Binds K fd ps [] ∧ (∀ ds S, ds.length ≠ ps.length → C j ds S = .bad) ∧ ∀ n ks pm, (j, n, ks, pm) ∈ pn.kbs → KB K fd ps n ks pm) :
    FnOk Pr w K mg base (L2.CX Pr w) (k + 2) f fd ps (spC A ps.length (runB P C N.length ps.length T)) := by
  refine F.ok S (fun vs H Q E h => ?_) (fun cdv A' outer s H vs Q E hr h => ?_)
  · obtain ⟨m, S, ds, _, l, hl, _⟩ := h
    rw [l.length, hl]
  · obtain ⟨m, S0, ds, R, l, hl, p⟩ := h
    refine ⟨tS A E (dSs P C T), sSs T (k := k) (cc := ⟨N, defScope st, fun _ => true, pn⟩) ?_ hchk, m, S0, startD N.length ds, R, start_rep l, ?_⟩
    · exact {
        hK := hK
        calm := rfl
        room := hr
        nd := S.nd
        tk := takes_of rfl rfl rfl rfl
        pass := passes_of rfl
        facts := facts
        fns := fns
        hN := rfl
        sc := rfl
        fn := rfl }
    · unfold runB at p
      rw [if_pos hl] at p
      revert p
      cases dSs P C T (startD N.length ds) S0 with
      | nx σ S1 => exact fun p m1 H1 σ' e1 R1 Rs1 => p m1 H1 .non e1 R1 .non
      | rt v S1 => exact fun p => p
      | err c fs σ S1 => exact fun p => p
      | bk σ S1 => exact fun p => p.elim
      | ct σ S1 => exact fun p => p.elim
      | bad => exact fun p => p
theorem fn_bad {k : Nat} {f : Addr} {fd : FuncData} {ps : List Str} {n : Nat} : FnOk Pr w K mg base (L2.CX Pr w) k f fd ps (spC A n fun _ _ => .bad) :=
  ⟨fun vs H Q E ⟨_, _, _, _, _, _, p⟩ => p.elim, fun _ _ _ _ _ _ _ _ _ _ _ _ _ ⟨_, _, _, _, _, _, p⟩ => p.elim⟩
/-! ### programs -/
/-- a def of a program: where it stands, its text, its names, its parameters, what it is in the language -/
structure Df where
  at_ : Str × Option Str
  nm : Str
  qual : Str
  st : Stmt
  N : List Str
  ps : List Str
  T : Sms
def Df.dd (d : Df) : He.DefD := ⟨d.at_, d.nm, d.qual, defArgs d.st, defBody d.st, defScope d.st, [], []⟩
/-- what is to be seen of a def, whatever the head -/
structure DfOk (pn : PN) (d : Df) : Prop where
  sc : FnScope d.N d.ps (defScope d.st)
  ck : chkSs ⟨d.N, defScope d.st, fun _ => true, pn⟩ d.T (defBody d.st) = true
  bi : ∀ (kV doc pm : Value) (an : Option Addr) (cdv ct : Value) (us : List Value), us.length = d.ps.length → bindArgs (PySem.W.fnOf d.nm d.qual (defArgs d.st) (defBody d.st) (defScope d.st) .none kV doc pm an cdv ct) ⟨us, []⟩ = pure (d.ps.zip us)
/-- the program's calls, to a depth -/
noncomputable def calls (P : Pg) (ds : List Df) : Nat → Nat → List D → Sto → Out D
  | 0, _ => fun _ _ => .bad
  | d + 1, j => match ds[j]? with
    | some f => runB P (calls P ds d) f.N.length f.ps.length f.T
    | none => fun _ _ => .bad
theorem calls_len {P : Pg} {fs : List Df} {d j : Nat} {f : Df} (h : fs[j]? = some f) : ∀ ds S, ds.length ≠ f.ps.length → calls P fs d j ds S = .bad := by
  intro ds S hl
  cases d with
  | zero => rfl
  | succ d =>
    unfold calls
    rw [h]
    exact runB_len ds S hl
/-- each shape of a call with keywords binds -/
abbrev KbsOk (pn : PN) (fs : List Df) : Prop := ∀ j n ks pm, (j, n, ks, pm) ∈ pn.kbs → ∀ f, fs[j]? = some f → ∀ (kV doc pmv : Value) (an : Option Addr) (cdv ct : Value) (us ws : List Value), us.length = n → ws.length = ks.length → bindArgs (PySem.W.fnOf f.nm f.qual (defArgs f.st) (defBody f.st) (defScope f.st) .none kV doc pmv an cdv ct) ⟨us, ks.zip ws⟩ = pure (f.ps.zip (pmL pm (us ++ ws)))
theorem all_ok {fs : List Df} {pn : PN} (hn : pn.nfn = fs.length) (hK : A.K = K) (facts : Facts A P pn K mg) (ok : ∀ f ∈ fs, DfOk pn f) (kbs : KbsOk pn fs)
    (fds : ∀ j f, fs[j]? = some f → ∃ fd, FunD K f.nm f.qual (defArgs f.st) (defBody f.st) (defScope f.st) [] [] (A.fn j) fd) :
    ∀ d j, j < pn.nfn → ∃ fd ps, FnOk Pr w K mg base (L2.CX Pr w) (2 * d) (A.fn j) fd ps (spC A ps.length (calls P fs d j)) ∧ Binds K fd ps [] ∧ (∀ ds S, ds.length ≠ ps.length → calls P fs d j ds S = .bad) ∧ ∀ n ks pm, (j, n, ks, pm) ∈ pn.kbs → KB K fd ps n ks pm := by
  intro d
  induction d with
  | zero =>
    intro j hj
    rw [hn] at hj
    obtain ⟨f, hf⟩ : ∃ f, fs[j]? = some f := ⟨_, List.getElem?_eq_getElem hj⟩
    obtain ⟨fd, F⟩ := fds j f hf
    exact ⟨fd, f.ps, fn_bad, F.bindsN (ok f (List.mem_of_getElem? hf)).bi, fun _ _ _ => rfl, fun n ks pm hq => kb_of F (kbs j n ks pm hq f hf)⟩
  | succ d ih =>
    intro j hj
    rw [hn] at hj
    obtain ⟨f, hf⟩ : ∃ f, fs[j]? = some f := ⟨_, List.getElem?_eq_getElem hj⟩
    obtain ⟨fd, F⟩ := fds j f hf
    have o := ok f (List.mem_of_getElem? hf)
    have e : calls P fs (d + 1) j = runB P (calls P fs d) f.N.length f.ps.length f.T := by
      funext ds S
      show (match fs[j]? with
        | some f => runB P (calls P fs d) f.N.length f.ps.length f.T
        | none => fun _ _ => .bad) ds S = _
      rw [hf]
    refine ⟨fd, f.ps, ?_, F.bindsN o.bi, calls_len hf, fun n ks pm hq => kb_of F (kbs j n ks pm hq f hf)⟩
    rw [e]
    exact fn_ok F o.sc hK facts o.ck ih
/-- the law's promise -/
theorem law_sp {fs : List Df} {d j : Nat} (hl : ∀ ns : List Int, ns.length ≤ 63 → ∃ S', calls P fs d j [.rl (ns.map D.int)] [] = .ok (.bl true) S') (H : Hp) (a : Addr) (ns : List Int) (h : ns.length ≤ 63) (hO : Only H) (hS : SqL A.K H a (ns.map V.int)) :
    spC A 1 (calls P fs d j) [.ref a] H (fun v _ => v = .bl true) fun _ _ _ => False := by
  refine ⟨[], [], [.rl (ns.map D.int)], ⟨fun i c h => by simp at h, rfl, List.nodup_nil⟩, .cons (.rl (RoL.of_only hO hS) (RepL.ints ns)) .nil, rfl, ?_⟩
  obtain ⟨S', e⟩ := hl ns h
  rw [e]
  intro m' H' v _ _ r
  cases r
  rfl
theorem says_all {fa : List He.Fa} {fn : List He.DefD} (c : He.SaysD fa fn K) : ∀ f ∈ fa, f.ok K = true := by
  intro f hf
  obtain ⟨i, hi, e⟩ := List.getElem_of_mem hf
  exact c.fact i (by rw [List.getElem?_eq_getElem hi, e])
end
end DI

set_option Elab.async false
set_option linter.all false
set_option maxRecDepth 100000
set_option maxHeartbeats 4000000
/-! The head: a program's facts by names, and the end. -/
namespace DI
open L2 PySem PySem.Spec PyProof.Rows
theorem walk_ofEw {l : PySem.W.OpenLaw} {n k : Nat} {q : Program} {loose : List Str} {XP : (Str → Option Value) → Heap → Prop} {YP : World → Heap → Prop} {d : DefRec} {CX : World → CXT} {x : Str}
    (hn : l.most = some n) (hn2 : n ≤ sizeLine) (hdf : d.params.defaults = []) (hr : Room k callerA)
    (F : ∀ (w : World) (mg : Str → Option Value) (fa : Addr) (h : Heap), YP w h → h.Ns mainGlobals mg → mg d.name = some (.ref fa) →
      ∃ (K : PySem.W.Frag) (fd : FuncData) (sp : Sp), K.In h ∧ (∀ (s : Shared) (u : Value), BindsTo s fd ⟨[u], []⟩ [(x, u)]) ∧
        (∀ (H : Hp) (a : Addr) (ns : List Int), ns.length ≤ n → Only H → SqL K H a (ns.map V.int) → sp [.ref a] H (fun v _ => v = .bl true) fun _ _ _ => False) ∧
        ∀ base : Heap, K.In base → base.Ns mainGlobals mg → FnOk l.prog w K mg base (CX w) k fa fd [x] sp)
    (hCX : ∀ (w : World) (H : Hp) (s : Shared) (e : Value) (s' : Shared), CX w [] H s (fun _ _ _ => False) e s' → False) :
    PySem.W.WalkO q loose XP YP l.row.toRowW d [] (fun f vs => PySem.call f vs) := by
  refine Att.attach_call hn hdf fun w s₀ s₁ mg mb fa o pm cd doc a vs ns G Y ho hd hcd hmg hobj hints hlen hg => ?_
  obtain ⟨K, fd, sp, KX, hb, hsp, hF⟩ := F w mg fa _ Y G.T.g hmg
  exact law_call KX G.T.g G.T.b G.T.builtins G.T.nolimit hg hobj hints (Nat.le_trans hlen hn2) hr hF hb (fun H hO hS => hsp H a ns hlen hO hS) fun H e s' => hCX w H s₁ e s'
def nmC (pn : PN) (c : Nat) : Str := match (pn.cll ++ pn.xcs).find? (fun p => p.1 == c) with | some p => p.2 | none => Str.empty
def AdOf (K : PySem.W.Frag) (fs : List Df) (pn : PN) : Ad := ⟨K, fun j => match fs[j]? with | some f => He.fAd K f.at_ | none => 0, fun c => He.ga K (nmC pn c)⟩
def faOf (pn : PN) : List He.Fa :=
  pn.fnl.map (fun p => .glo p.2) ++ (pn.fnl.map (fun p => .keep p.2) ++ (pn.cls.map (fun c => .cls (nmC pn c)) ++ (pn.cll.map (fun p => .glo p.2) ++ (pn.mts.map (fun p => .meth (nmC pn p.1) p.2.1) ++
  (pn.inis.map (fun p => .mkr (nmC pn p.1)) ++ (pn.flds.map (fun p => .noat (nmC pn p.1) p.2) ++ (pn.free.map (fun x => .free x) ++ (pn.xcs.map (fun p => .glo p.2) ++ pn.xcs.map (fun p => .exc p.2)))))))))
def pnOk (fs : List Df) (pn : PN) : Bool :=
  pn.fnl.all (fun p => match fs[p.1]? with | some f => decide (f.at_ = (p.2, none)) | none => false) &&
  (pn.mts.all (fun p => match fs[p.2.2]? with | some f => decide (f.at_ = (nmC pn p.1, some p.2.1)) | none => false) &&
  (pn.inis.all (fun p => match fs[p.2]? with | some f => decide (f.at_ = (nmC pn p.1, some ("__init__" : Str))) | none => false) &&
  (pn.cll.all (fun p => decide (nmC pn p.1 = p.2)) && pn.xcs.all (fun p => decide (nmC pn p.1 = p.2)))))
section
variable {K : PySem.W.Frag} {mg : Str → Option Value} {h : Heap} {fs : List Df} {pn : PN} {P : Pg}
theorem ad_fn {j : Nat} {q : Str × Option Str} (e : (match fs[j]? with | some f => decide (f.at_ = q) | none => false) = true) : (AdOf K fs pn).fn j = He.fAd K q := by
  show (match fs[j]? with | some f => He.fAd K f.at_ | none => 0) = _
  cases hf : fs[j]? with
  | none => rw [hf] at e; cases e
  | some f =>
    rw [hf] at e
    exact congrArg (He.fAd K) (of_decide_eq_true e)
theorem facts_of (X : K.In h) (G : h.Ns mainGlobals mg) (ok : pnOk fs pn = true) (c : ∀ f ∈ faOf pn, f.ok K = true)
    (dat : ∀ (x : Str) (d : D), P.glo x = some d → ∃ v u, mg x = some u ∧ RelV v u ∧ ∀ m H, RepD (AdOf K fs pn) m H d v) : Facts (AdOf K fs pn) P pn K mg := by
  simp only [pnOk, Bool.and_eq_true, List.all_eq_true] at ok
  obtain ⟨o1, o2, o3, o4, o5⟩ := ok
  simp only [faOf, List.mem_append, List.mem_map] at c
  refine ⟨fun p hp => ?_, fun x hx => ?_, fun p hp => ?_, fun p hp => ?_, fun p hp => ?_, fun p hp => ?_, fun x hx => ?_, fun p hp => ?_, dat⟩
  · rw [ad_fn (o1 p hp)]
    exact ⟨He.glo_ok X G (c (.glo p.2) (.inl ⟨p, hp, rfl⟩)), He.keep_ok (c (.keep p.2) (.inr (.inl ⟨p, hp, rfl⟩)))⟩
  · exact He.cls_ok (c (.cls (nmC pn x)) (.inr (.inr (.inl ⟨x, hx, rfl⟩))))
  · have e : nmC pn p.1 = p.2 := of_decide_eq_true (o4 p hp)
    show mg p.2 = some (.ref (He.ga K (nmC pn p.1)))
    rw [e]
    exact He.glo_ok X G (c (.glo p.2) (.inr (.inr (.inr (.inl ⟨p, hp, rfl⟩)))))
  · rw [ad_fn (o2 p hp)]
    exact He.meth_ok (c (.meth (nmC pn p.1) p.2.1) (.inr (.inr (.inr (.inr (.inl ⟨p, hp, rfl⟩))))))
  · rw [ad_fn (o3 p hp)]
    exact He.mkr_ok (c (.mkr (nmC pn p.1)) (.inr (.inr (.inr (.inr (.inr (.inl ⟨p, hp, rfl⟩)))))))
  · exact He.noat_ok (c (.noat (nmC pn p.1) p.2) (.inr (.inr (.inr (.inr (.inr (.inr (.inl ⟨p, hp, rfl⟩))))))))
  · exact He.free_ok X G (c (.free x) (.inr (.inr (.inr (.inr (.inr (.inr (.inr (.inl ⟨x, hx, rfl⟩)))))))))
  · have e : nmC pn p.1 = p.2 := of_decide_eq_true (o5 p hp)
    show mg p.2 = some (.ref (He.ga K (nmC pn p.1))) ∧ PySem.W.excIn K (He.ga K (nmC pn p.1)) _ _ = true ∧ PySem.W.keepIn K (.ref (He.ga K (nmC pn p.1))) = true ∧ PySem.W.subIn K (.ref (He.ga K (nmC pn p.1))) (.type "BaseException") = some true ∧ PySem.W.typeIn K (.ref (He.ga K (nmC pn p.1))) = some (.type "type")
    rw [e]
    exact ⟨He.glo_ok X G (c (.glo p.2) (.inr (.inr (.inr (.inr (.inr (.inr (.inr (.inr (.inl ⟨p, hp, rfl⟩)))))))))), He.exc_ok (c (.exc p.2) (.inr (.inr (.inr (.inr (.inr (.inr (.inr (.inr (.inr ⟨p, hp, rfl⟩))))))))))⟩
/-- the law by its calls -/
theorem law_F {w : World} {Pr : Program} {fa : Addr} {d j : Nat} {f : Df} {x : Str} (c : ∃ K : PySem.W.Frag, K.In h ∧ He.SaysD (faOf pn) (fs.map Df.dd) K) (G : h.Ns mainGlobals mg) (hm : mg f.nm = some (.ref fa)) (ok : pnOk fs pn = true) (hn : pn.nfn = fs.length)
    (oks : ∀ f ∈ fs, DfOk pn f) (kbs : KbsOk pn fs) (hf : fs[j]? = some f) (hfn : (j, f.nm) ∈ pn.fnl) (hps : f.ps = [x])
    (dat : ∀ (K : PySem.W.Frag) (base : Heap), K.In base → base.Ns mainGlobals mg → (∀ f ∈ faOf pn, f.ok K = true) → ∀ (x : Str) (d : D), P.glo x = some d → ∃ v u, mg x = some u ∧ RelV v u ∧ ∀ m H, RepD (AdOf K fs pn) m H d v)
    (hl : ∀ ns : List Int, ns.length ≤ 63 → ∃ S', calls P fs (d + 1) j [.rl (ns.map D.int)] [] = .ok (.bl true) S') :
    ∃ (K : PySem.W.Frag) (fd : FuncData) (sp : Sp), K.In h ∧ (∀ (s : Shared) (u : Value), BindsTo s fd ⟨[u], []⟩ [(x, u)]) ∧
        (∀ (H : Hp) (a : Addr) (ns : List Int), ns.length ≤ 63 → Only H → SqL K H a (ns.map V.int) → sp [.ref a] H (fun v _ => v = .bl true) fun _ _ _ => False) ∧
        ∀ base : Heap, K.In base → base.Ns mainGlobals mg → FnOk Pr w K mg base (L2.CX Pr w) (2 * d + 2) fa fd [x] sp := by
  obtain ⟨K, X, s⟩ := c
  have ca := says_all s
  have fds : ∀ j f, fs[j]? = some f → ∃ fd, FunD K f.nm f.qual (defArgs f.st) (defBody f.st) (defScope f.st) [] [] ((AdOf K fs pn).fn j) fd := by
    intro j f hf
    have e : (fs.map Df.dd)[j]? = some f.dd := by rw [List.getElem?_map, hf]; rfl
    obtain ⟨fd, F⟩ := s.def_ j e
    have e2 : (AdOf K fs pn).fn j = He.fAd K f.at_ := by
      show (match fs[j]? with | some f => He.fAd K f.at_ | none => 0) = _
      rw [hf]
    rw [e2]
    exact ⟨fd, F⟩
  have hj : j < pn.nfn := by
    rw [hn]
    exact (List.getElem?_eq_some_iff.mp hf).1
  have fct : ∀ base : Heap, K.In base → base.Ns mainGlobals mg → Facts (AdOf K fs pn) P pn K mg := fun base X2 G2 => facts_of X2 G2 ok ca (dat K base X2 G2 ca)
  have fcth := fct h X G
  have ef := fcth.fn _ hfn
  have e3 : fa = (AdOf K fs pn).fn j := by
    have := hm.symm.trans ef.1
    cases this
    rfl
  obtain ⟨fd, F⟩ := fds j f hf
  have b := FunD.bindsA (ps := [x]) F fun a b c d e g us hl => by
    have := (oks f (List.mem_of_getElem? hf)).bi a b c d e g us (by rw [hl, hps])
    rw [hps] at this
    exact this
  refine ⟨K, fd, spC (AdOf K fs pn) 1 (calls P fs (d + 1) j), X, fun s v => b s [v] rfl, fun H a ns hlen hO hS => law_sp hl H a ns hlen hO hS, fun base X2 G2 => ?_⟩
  have o := oks f (List.mem_of_getElem? hf)
  have e : calls P fs (d + 1) j = runB P (calls P fs d) f.N.length f.ps.length f.T := by
    funext ds S
    show (match fs[j]? with
      | some f => runB P (calls P fs d) f.N.length f.ps.length f.T
      | none => fun _ _ => .bad) ds S = _
    rw [hf]
  have r := fn_ok (mg := mg) (w := w) (Pr := Pr) (base := base) F o.sc rfl (fct base X2 G2) o.ck (all_ok (w := w) (Pr := Pr) (base := base) hn rfl (fct base X2 G2) oks kbs fds d)
  rw [e3, e]
  rw [hps] at r
  rw [hps]
  exact r
end
end DI

set_option Elab.async false
set_option linter.all false
set_option maxRecDepth 100000
namespace K25
open PySem L2 DI
def top (i : Nat) : Stmt := PySem.Challenge.pw_flowboxes_k25_floats_height_by_height.main.body.getD i (.Pass ⟨0, 0, 0, 0⟩)
def pn : PN where
  nfn := 17
  fnl := [(0, ("_law_cell_at" : Str)), (2, ("_law_digit" : Str)), (3, ("_law_one" : Str)), (4, ("_law_asked" : Str)), (5, ("_law_spot" : Str)), (6, ("_law_placed" : Str)), (14, ("_law_lowest" : Str)), (15, ("_law_right" : Str)), (16, ("law" : Str))]
  cls := [0]
  cll := [(0, ("Strip" : Str))]
  mts := [(0, ("floats" : Str), 7), (0, ("lefts" : Str), 8), (0, ("rights" : Str), 9), (0, ("spot" : Str), 10), (0, ("below" : Str), 11), (0, ("place" : Str), 12), (0, ("lowest" : Str), 13)]
  inis := [(0, 1)]
  flds := [(0, ("rows" : Str))]
  free := [("int" : Str), ("isinstance" : Str), ("len" : Str), ("list" : Str), ("max" : Str), ("min" : Str), ("range" : Str), ("str" : Str)]
  xcs := [(2, ("NoSide" : Str))]
  kbs := [(12, 1, [("top" : Str), ("height" : Str), ("width" : Str), ("end" : Str), ("start" : Str), ("side" : Str)], [0, 6, 5, 4, 3, 2, 1]), (13, 1, [("side" : Str)], [0, 1])]
/-! law_cell_at -/
abbrev s_law_cell_at : Stmt := top 7
def t_law_cell_at : Sms := (.cons (.ret (.ite (.cmp .Lt (.var 1) (.bi .len (.cons (.var 0) .nil))) (.ix (.var 0) (.var 1)) (.cst (.int 0))))
  .nil)
def N_law_cell_at : List Str := [("script" : Str), ("k" : Str)]
def ps_law_cell_at : List Str := [("script" : Str), ("k" : Str)]
def d_law_cell_at : Df := ⟨(("_law_cell_at" : Str), none), ("_law_cell_at" : Str), ("_law_cell_at" : Str), s_law_cell_at, N_law_cell_at, ps_law_cell_at, t_law_cell_at⟩
theorem o_law_cell_at : DfOk pn d_law_cell_at := ⟨⟨rfl, rfl, rfl, by decide +kernel, rfl, by decide +kernel, by decide +kernel⟩, by decide +kernel, fun _ _ _ _ _ _ us hl => match us, hl with | [_, _], _ => rfl⟩
/-! Strip_init -/
abbrev s_Strip_init : Stmt := inClass (top 5) 0
def t_Strip_init : Sms := (.cons (.fld 0 (.var 0) ("rows" : Str) (.lst .nil))
  .nil)
def N_Strip_init : List Str := [("self" : Str)]
def ps_Strip_init : List Str := [("self" : Str)]
def d_Strip_init : Df := ⟨(("Strip" : Str), some ("__init__" : Str)), ("__init__" : Str), ("Strip.__init__" : Str), s_Strip_init, N_Strip_init, ps_Strip_init, t_Strip_init⟩
theorem o_Strip_init : DfOk pn d_Strip_init := ⟨⟨rfl, rfl, rfl, by decide +kernel, rfl, by decide +kernel, by decide +kernel⟩, by decide +kernel, fun _ _ _ _ _ _ us hl => match us, hl with | [_], _ => rfl⟩
/-! law_digit -/
abbrev s_law_digit : Stmt := top 8
def t_law_digit_1 : Sms := (.cons (.exp (.bm .extend (.var 0) (.cons (.lst (.cons (.bin .Mod (.bi .int_ (.cons (.ix (.var 0) (.cst (.int 0))) .nil)) (.cst (.int 2147483647))) (.cons (.cst (.int 0)) .nil))) .nil)))
  (.cons (.sub (.var 0) (.cst (.int 0)) (.ix (.lst (.cons (.cst (.int 0)) (.cons (.ix (.var 0) (.cst (.int 0))) .nil))) (.bi .int_ (.cons (.cmp .GtE (.ix (.var 0) (.cst (.int 0))) (.bin .Pow (.cst (.int 10)) (.cst (.int 18)))) .nil))))
  .nil))
def t_law_digit_2 : Sms := (.cons (.set 2 (.bin .Mod (.bi .int_ (.cons (.ix (.var 0) (.cst (.int 0))) .nil)) (.var 1)))
  (.cons (.sub (.var 0) (.cst (.int 0)) (.bin .FloorDiv (.ix (.var 0) (.cst (.int 0))) (.var 1)))
  (.cons (.ret (.var 2))
  .nil)))
def t_law_digit_3 : Sms := (.cons (.sub (.var 0) (.cst (.int 2)) (.bin .Add (.ix (.var 0) (.cst (.int 2))) (.cst (.int 1))))
  (.cons (.set 3 (.bin .Mod (.bi .int_ (.cons (.bin .Mult (.bin .Add (.bin .Add (.ix (.var 0) (.cst (.int 1))) (.bin .Mult (.cst (.int 7919)) (.ix (.var 0) (.cst (.int 2))))) (.cst (.int 1))) (.cst (.int 48271))) .nil)) (.cst (.int 2147483647))))
  (.cons (.set 3 (.bin .Mod (.bi .int_ (.cons (.bin .Mult (.var 3) (.bin .Add (.bin .FloorDiv (.var 3) (.cst (.int 1009))) (.cst (.int 69621)))) .nil)) (.cst (.int 2147483647))))
  (.cons (.ret (.bin .Mod (.bin .Mod (.bi .int_ (.cons (.bin .Mult (.var 3) (.bin .Add (.bin .FloorDiv (.var 3) (.cst (.int 2003))) (.cst (.int 40692)))) .nil)) (.cst (.int 2147483399))) (.var 1)))
  .nil))))
def t_law_digit_4 : Sms := (.cons (.ite (.cmp .GtE (.ix (.var 0) (.cst (.int 0))) (.var 1)) t_law_digit_2 .nil)
  t_law_digit_3)
def t_law_digit : Sms := (.cons (.ite (.cmp .Eq (.bi .len (.cons (.var 0) .nil)) (.cst (.int 1))) t_law_digit_1 .nil)
  t_law_digit_4)
def N_law_digit : List Str := [("state" : Str), ("base" : Str), ("found" : Str), ("mixed" : Str)]
def ps_law_digit : List Str := [("state" : Str), ("base" : Str)]
def d_law_digit : Df := ⟨(("_law_digit" : Str), none), ("_law_digit" : Str), ("_law_digit" : Str), s_law_digit, N_law_digit, ps_law_digit, t_law_digit⟩
theorem o_law_digit : DfOk pn d_law_digit := ⟨⟨rfl, rfl, rfl, by decide +kernel, rfl, by decide +kernel, by decide +kernel⟩, by decide +kernel, fun _ _ _ _ _ _ us hl => match us, hl with | [_, _], _ => rfl⟩
/-! law_one -/
abbrev s_law_one : Stmt := top 9
def t_law_one : Sms := (.cons (.ret (.ix (.var 1) (.cal 2 (.cons (.var 0) (.cons (.bi .len (.cons (.var 1) .nil)) .nil)))))
  .nil)
def N_law_one : List Str := [("state" : Str), ("some" : Str)]
def ps_law_one : List Str := [("state" : Str), ("some" : Str)]
def d_law_one : Df := ⟨(("_law_one" : Str), none), ("_law_one" : Str), ("_law_one" : Str), s_law_one, N_law_one, ps_law_one, t_law_one⟩
theorem o_law_one : DfOk pn d_law_one := ⟨⟨rfl, rfl, rfl, by decide +kernel, rfl, by decide +kernel, by decide +kernel⟩, by decide +kernel, fun _ _ _ _ _ _ us hl => match us, hl with | [_, _], _ => rfl⟩
/-! law_asked -/
abbrev s_law_asked : Stmt := top 13
def t_law_asked : Sms := (.cons (.set 2 (.bin .Sub (.cal 2 (.cons (.var 0) (.cons (.var 1) .nil))) (.bin .FloorDiv (.var 1) (.cst (.int 3)))))
  (.cons (.set 3 (.bin .Add (.var 2) (.cal 3 (.cons (.var 0) (.cons (.lst (.cons (.var 1) (.cons (.var 1) (.cons (.cal 2 (.cons (.var 0) (.cons (.var 1) .nil))) (.cons (.cst (.int 0)) (.cons (.bin .Sub (.cst (.int 0)) (.cal 2 (.cons (.var 0) (.cons (.cst (.int 9)) .nil)))) .nil)))))) .nil)))))
  (.cons (.set 4 (.cal 3 (.cons (.var 0) (.cons (.lst (.cons (.cal 2 (.cons (.var 0) (.cons (.var 1) .nil))) (.cons (.cal 2 (.cons (.var 0) (.cons (.bin .Add (.cst (.int 1)) (.bin .FloorDiv (.var 1) (.cst (.int 3)))) .nil))) (.cons (.cst (.int 0)) (.cons (.bin .Sub (.cst (.int 0)) (.cal 2 (.cons (.var 0) (.cons (.cst (.int 9)) .nil)))) .nil))))) .nil))))
  (.cons (.set 5 (.cal 3 (.cons (.var 0) (.cons (.lst (.cons (.cal 2 (.cons (.var 0) (.cons (.var 1) .nil))) (.cons (.bin .Add (.cst (.int 1)) (.cal 2 (.cons (.var 0) (.cons (.cst (.int 9)) .nil)))) (.cons (.cst (.int 0)) (.cons (.bin .Sub (.cst (.int 0)) (.cal 2 (.cons (.var 0) (.cons (.cst (.int 9)) .nil)))) .nil))))) .nil))))
  (.cons (.ret (.tup (.cons (.cal 3 (.cons (.var 0) (.cons (.lst (.cons (.cst (.str ("left" : Str))) (.cons (.cst (.str ("right" : Str))) .nil))) .nil))) (.cons (.var 2) (.cons (.var 3) (.cons (.var 4) (.cons (.var 5) (.cons (.bin .Sub (.cal 2 (.cons (.var 0) (.cons (.bin .Add (.cst (.int 1)) (.bin .FloorDiv (.var 1) (.cst (.int 4)))) .nil))) (.cst (.int 3))) .nil))))))))
  .nil)))))
def N_law_asked : List Str := [("state" : Str), ("most" : Str), ("begin" : Str), ("far" : Str), ("wide" : Str), ("high" : Str)]
def ps_law_asked : List Str := [("state" : Str), ("most" : Str)]
def d_law_asked : Df := ⟨(("_law_asked" : Str), none), ("_law_asked" : Str), ("_law_asked" : Str), s_law_asked, N_law_asked, ps_law_asked, t_law_asked⟩
theorem o_law_asked : DfOk pn d_law_asked := ⟨⟨rfl, rfl, rfl, by decide +kernel, rfl, by decide +kernel, by decide +kernel⟩, by decide +kernel, fun _ _ _ _ _ _ us hl => match us, hl with | [_, _], _ => rfl⟩
/-! law_spot -/
abbrev s_law_spot : Stmt := top 11
def t_law_spot_1 : Sms := (.cons (.ret (.cst .non))
  .nil)
def t_law_spot_2 : Sms := (.cons (.set 8 (.lc [(("one" : Str), 11)] (.nm 11) (.ex (.var 6)) (.cons (.cmp .Lt (.var 11) (.bin .Add (.var 7) (.var 3))) .nil) (.var 11)))
  (.cons (.ret (.ite (.cmp .NotEq (.var 8) (.lst .nil)) (.cst .non) (.var 7)))
  .nil))
def t_law_spot_3 : Sms := (.cons (.set 7 (.bi .max1 (.cons (.bin .Add (.var 5) (.lst (.cons (.ix (.var 2) (.cst (.int 0))) .nil))) .nil)))
  (.cons (.ite (.and_ (.cmp .Gt (.var 7) (.ix (.var 2) (.cst (.int 0)))) (.cmp .Gt (.bin .Add (.var 7) (.var 3)) (.ix (.var 2) (.cst (.int 1))))) t_law_spot_1 .nil)
  t_law_spot_2))
def t_law_spot_4 : Sms := (.cons (.ret (.cst .non))
  .nil)
def t_law_spot_5 : Sms := (.cons (.set 9 (.lc [(("one" : Str), 11)] (.nm 11) (.ex (.var 5)) (.cons (.cmp .Gt (.var 11) (.bin .Sub (.var 7) (.var 3))) .nil) (.var 11)))
  (.cons (.ret (.ite (.cmp .NotEq (.var 9) (.lst .nil)) (.cst .non) (.bin .Sub (.var 7) (.var 3))))
  .nil))
def t_law_spot_6 : Sms := (.cons (.set 7 (.bi .min1 (.cons (.bin .Add (.var 6) (.lst (.cons (.ix (.var 2) (.cst (.int 1))) .nil))) .nil)))
  (.cons (.ite (.and_ (.cmp .Lt (.var 7) (.ix (.var 2) (.cst (.int 1)))) (.cmp .Lt (.bin .Sub (.var 7) (.var 3)) (.ix (.var 2) (.cst (.int 0))))) t_law_spot_4 .nil)
  t_law_spot_5))
def t_law_spot : Sms := (.cons (.set 5 (.lc [(("row" : Str), 10)] (.nm 10) (.ex (.var 0)) (.cons (.and_ (.cmp .Eq (.ix (.var 10) (.cst (.int 0))) (.cst (.str ("left" : Str)))) (.cmp .Gt (.ix (.var 10) (.cst (.int 4))) (.var 4))) .nil) (.ix (.var 10) (.cst (.int 3)))))
  (.cons (.set 6 (.lc [(("row" : Str), 10)] (.nm 10) (.ex (.var 0)) (.cons (.and_ (.cmp .Eq (.ix (.var 10) (.cst (.int 0))) (.cst (.str ("right" : Str)))) (.cmp .Gt (.ix (.var 10) (.cst (.int 4))) (.var 4))) .nil) (.ix (.var 10) (.cst (.int 1)))))
  (.cons (.ite (.cmp .Eq (.var 1) (.cst (.str ("left" : Str)))) t_law_spot_3 .nil)
  t_law_spot_6)))
def N_law_spot : List Str := [("strip" : Str), ("hand" : Str), ("ends" : Str), ("wide" : Str), ("y" : Str), ("lefts" : Str), ("rights" : Str), ("at" : Str), ("near" : Str), ("far" : Str), ("row" : Str), ("one" : Str)]
def ps_law_spot : List Str := [("strip" : Str), ("hand" : Str), ("ends" : Str), ("wide" : Str), ("y" : Str)]
def d_law_spot : Df := ⟨(("_law_spot" : Str), none), ("_law_spot" : Str), ("_law_spot" : Str), s_law_spot, N_law_spot, ps_law_spot, t_law_spot⟩
theorem o_law_spot : DfOk pn d_law_spot := ⟨⟨rfl, rfl, rfl, by decide +kernel, rfl, by decide +kernel, by decide +kernel⟩, by decide +kernel, fun _ _ _ _ _ _ us hl => match us, hl with | [_, _, _, _, _], _ => rfl⟩
/-! law_placed -/
abbrev s_law_placed : Stmt := top 12
def t_law_placed_1 : Sms := (.cons (.ret (.tup (.cons (.var 1) (.cons (.var 9) (.cons (.var 8) (.cons (.bin .Add (.var 9) (.var 6)) (.cons (.bin .Add (.var 8) (.var 7)) .nil)))))))
  .nil)
def t_law_placed_2 : Sms := (.cons (.set 9 (.cal 5 (.cons (.var 0) (.cons (.var 1) (.cons (.var 2) (.cons (.var 6) (.cons (.var 8) .nil)))))))
  (.cons (.ite (.cmp .IsNot (.var 9) (.cst .non)) t_law_placed_1 .nil)
  .nil))
def t_law_placed_3 : Sms := (.cons (.ret (.cst .non))
  .nil)
def t_law_placed : Sms := (.cons (.set 5 (.bi .max1 (.cons (.bin .Add (.lst (.cons (.var 4) .nil)) (.lc [(("row" : Str), 10)] (.nm 10) (.ex (.var 0)) .nil (.ix (.var 10) (.cst (.int 2))))) .nil)))
  (.cons (.par 6 7 (.bi .max2 (.cons (.cst (.int 0)) (.cons (.ix (.var 3) (.cst (.int 0))) .nil))) (.bi .max2 (.cons (.cst (.int 0)) (.cons (.ix (.var 3) (.cst (.int 1))) .nil))))
  (.cons (.for_ (.nm 8) (.rng2 (.var 5) (.bin .Add (.bi .max1 (.cons (.bin .Add (.lst (.cons (.var 5) .nil)) (.lc [(("row" : Str), 10)] (.nm 10) (.ex (.var 0)) .nil (.ix (.var 10) (.cst (.int 4))))) .nil)) (.cst (.int 1)))) t_law_placed_2)
  t_law_placed_3)))
def N_law_placed : List Str := [("strip" : Str), ("hand" : Str), ("ends" : Str), ("size" : Str), ("least" : Str), ("begin" : Str), ("wide" : Str), ("high" : Str), ("y" : Str), ("at" : Str), ("row" : Str)]
def ps_law_placed : List Str := [("strip" : Str), ("hand" : Str), ("ends" : Str), ("size" : Str), ("least" : Str)]
def d_law_placed : Df := ⟨(("_law_placed" : Str), none), ("_law_placed" : Str), ("_law_placed" : Str), s_law_placed, N_law_placed, ps_law_placed, t_law_placed⟩
theorem o_law_placed : DfOk pn d_law_placed := ⟨⟨rfl, rfl, rfl, by decide +kernel, rfl, by decide +kernel, by decide +kernel⟩, by decide +kernel, fun _ _ _ _ _ _ us hl => match us, hl with | [_, _, _, _, _], _ => rfl⟩
/-! Strip_floats -/
abbrev s_Strip_floats : Stmt := inClass (top 5) 1
def t_Strip_floats : Sms := (.cons (.ret (.bi .list_ (.cons (.fld 0 (.var 0) ("rows" : Str)) .nil)))
  .nil)
def N_Strip_floats : List Str := [("self" : Str)]
def ps_Strip_floats : List Str := [("self" : Str)]
def d_Strip_floats : Df := ⟨(("Strip" : Str), some ("floats" : Str)), ("floats" : Str), ("Strip.floats" : Str), s_Strip_floats, N_Strip_floats, ps_Strip_floats, t_Strip_floats⟩
theorem o_Strip_floats : DfOk pn d_Strip_floats := ⟨⟨rfl, rfl, rfl, by decide +kernel, rfl, by decide +kernel, by decide +kernel⟩, by decide +kernel, fun _ _ _ _ _ _ us hl => match us, hl with | [_], _ => rfl⟩
/-! Strip_lefts -/
abbrev s_Strip_lefts : Stmt := inClass (top 5) 3
def t_Strip_lefts : Sms := (.cons (.ret (.bi .max1 (.cons (.bin .Add (.lst (.cons (.var 1) .nil)) (.lc [(("row" : Str), 3)] (.nm 3) (.ex (.fld 0 (.var 0) ("rows" : Str))) (.cons (.and_ (.cmp .Eq (.ix (.var 3) (.cst (.int 0))) (.cst (.str ("left" : Str)))) (.cmp .Gt (.ix (.var 3) (.cst (.int 4))) (.var 2))) .nil) (.ix (.var 3) (.cst (.int 3))))) .nil)))
  .nil)
def N_Strip_lefts : List Str := [("self" : Str), ("start" : Str), ("y" : Str), ("row" : Str)]
def ps_Strip_lefts : List Str := [("self" : Str), ("start" : Str), ("y" : Str)]
def d_Strip_lefts : Df := ⟨(("Strip" : Str), some ("lefts" : Str)), ("lefts" : Str), ("Strip.lefts" : Str), s_Strip_lefts, N_Strip_lefts, ps_Strip_lefts, t_Strip_lefts⟩
theorem o_Strip_lefts : DfOk pn d_Strip_lefts := ⟨⟨rfl, rfl, rfl, by decide +kernel, rfl, by decide +kernel, by decide +kernel⟩, by decide +kernel, fun _ _ _ _ _ _ us hl => match us, hl with | [_, _, _], _ => rfl⟩
/-! Strip_rights -/
abbrev s_Strip_rights : Stmt := inClass (top 5) 4
def t_Strip_rights : Sms := (.cons (.ret (.bi .min1 (.cons (.bin .Add (.lst (.cons (.var 1) .nil)) (.lc [(("row" : Str), 3)] (.nm 3) (.ex (.fld 0 (.var 0) ("rows" : Str))) (.cons (.and_ (.cmp .Eq (.ix (.var 3) (.cst (.int 0))) (.cst (.str ("right" : Str)))) (.cmp .Gt (.ix (.var 3) (.cst (.int 4))) (.var 2))) .nil) (.ix (.var 3) (.cst (.int 1))))) .nil)))
  .nil)
def N_Strip_rights : List Str := [("self" : Str), ("end" : Str), ("y" : Str), ("row" : Str)]
def ps_Strip_rights : List Str := [("self" : Str), ("end" : Str), ("y" : Str)]
def d_Strip_rights : Df := ⟨(("Strip" : Str), some ("rights" : Str)), ("rights" : Str), ("Strip.rights" : Str), s_Strip_rights, N_Strip_rights, ps_Strip_rights, t_Strip_rights⟩
theorem o_Strip_rights : DfOk pn d_Strip_rights := ⟨⟨rfl, rfl, rfl, by decide +kernel, rfl, by decide +kernel, by decide +kernel⟩, by decide +kernel, fun _ _ _ _ _ _ us hl => match us, hl with | [_, _, _], _ => rfl⟩
/-! Strip_spot -/
abbrev s_Strip_spot : Stmt := inClass (top 5) 5
def t_Strip_spot_1 : Sms := (.cons (.ret (.cst .non))
  .nil)
def t_Strip_spot_2 : Sms := (.cons (.ret (.var 6))
  .nil)
def t_Strip_spot_3 : Sms := (.cons (.set 8 (.lc [(("row" : Str), 9)] (.nm 9) (.ex (.fld 0 (.var 0) ("rows" : Str))) (.cons (.and_ (.cmp .Eq (.ix (.var 9) (.cst (.int 0))) (.cst (.str ("right" : Str)))) (.cmp .Gt (.ix (.var 9) (.cst (.int 4))) (.var 5))) .nil) (.ix (.var 9) (.cst (.int 1)))))
  (.cons (.ite (.or_ (.and_ (.cmp .NotEq (.var 6) (.var 2)) (.cmp .Gt (.bin .Add (.var 6) (.var 4)) (.var 3))) (.and_ (.var 8) (.cmp .Gt (.bin .Add (.var 6) (.var 4)) (.bi .min1 (.cons (.var 8) .nil))))) t_Strip_spot_1 .nil)
  t_Strip_spot_2))
def t_Strip_spot_4 : Sms := (.cons (.ret (.cst .non))
  .nil)
def t_Strip_spot_5 : Sms := (.cons (.ret (.bin .Sub (.var 7) (.var 4)))
  .nil)
def t_Strip_spot_6 : Sms := (.cons (.set 8 (.lc [(("row" : Str), 9)] (.nm 9) (.ex (.fld 0 (.var 0) ("rows" : Str))) (.cons (.and_ (.cmp .Eq (.ix (.var 9) (.cst (.int 0))) (.cst (.str ("left" : Str)))) (.cmp .Gt (.ix (.var 9) (.cst (.int 4))) (.var 5))) .nil) (.ix (.var 9) (.cst (.int 3)))))
  (.cons (.ite (.or_ (.and_ (.cmp .NotEq (.var 7) (.var 3)) (.cmp .Lt (.bin .Sub (.var 7) (.var 4)) (.var 2))) (.and_ (.var 8) (.cmp .Lt (.bin .Sub (.var 7) (.var 4)) (.bi .max1 (.cons (.var 8) .nil))))) t_Strip_spot_4 .nil)
  t_Strip_spot_5))
def t_Strip_spot : Sms := (.cons (.par 6 7 (.mth 0 8 (.var 0) ("lefts" : Str) (.cons (.var 2) (.cons (.var 5) .nil))) (.mth 0 9 (.var 0) ("rights" : Str) (.cons (.var 3) (.cons (.var 5) .nil))))
  (.cons (.ite (.cmp .Eq (.var 1) (.cst (.str ("left" : Str)))) t_Strip_spot_3 .nil)
  t_Strip_spot_6))
def N_Strip_spot : List Str := [("self" : Str), ("side" : Str), ("start" : Str), ("end" : Str), ("width" : Str), ("y" : Str), ("left" : Str), ("right" : Str), ("others" : Str), ("row" : Str)]
def ps_Strip_spot : List Str := [("self" : Str), ("side" : Str), ("start" : Str), ("end" : Str), ("width" : Str), ("y" : Str)]
def d_Strip_spot : Df := ⟨(("Strip" : Str), some ("spot" : Str)), ("spot" : Str), ("Strip.spot" : Str), s_Strip_spot, N_Strip_spot, ps_Strip_spot, t_Strip_spot⟩
theorem o_Strip_spot : DfOk pn d_Strip_spot := ⟨⟨rfl, rfl, rfl, by decide +kernel, rfl, by decide +kernel, by decide +kernel⟩, by decide +kernel, fun _ _ _ _ _ _ us hl => match us, hl with | [_, _, _, _, _, _], _ => rfl⟩
/-! Strip_below -/
abbrev s_Strip_below : Stmt := inClass (top 5) 9
def t_Strip_below : Sms := (.cons (.set 2 (.lc [(("row" : Str), 3)] (.nm 3) (.ex (.fld 0 (.var 0) ("rows" : Str))) (.cons (.cmp .Gt (.ix (.var 3) (.cst (.int 4))) (.var 1)) .nil) (.ix (.var 3) (.cst (.int 4)))))
  (.cons (.ret (.ite (.var 2) (.bi .min1 (.cons (.var 2) .nil)) (.cst .non)))
  .nil))
def N_Strip_below : List Str := [("self" : Str), ("top" : Str), ("found" : Str), ("row" : Str)]
def ps_Strip_below : List Str := [("self" : Str), ("top" : Str)]
def d_Strip_below : Df := ⟨(("Strip" : Str), some ("below" : Str)), ("below" : Str), ("Strip.below" : Str), s_Strip_below, N_Strip_below, ps_Strip_below, t_Strip_below⟩
theorem o_Strip_below : DfOk pn d_Strip_below := ⟨⟨rfl, rfl, rfl, by decide +kernel, rfl, by decide +kernel, by decide +kernel⟩, by decide +kernel, fun _ _ _ _ _ _ us hl => match us, hl with | [_, _], _ => rfl⟩
/-! Strip_place -/
abbrev s_Strip_place : Stmt := inClass (top 5) 6
def t_Strip_place_1 : Sms := (.cons (.rai 2 ("NoSide" : Str))
  .nil)
def t_Strip_place_2 : Sms := (.cons (.set 9 (.mth 0 11 (.var 0) ("below" : Str) (.cons (.var 9) .nil)))
  (.cons (.set 10 (.mth 0 10 (.var 0) ("spot" : Str) (.cons (.var 1) (.cons (.var 2) (.cons (.var 3) (.cons (.var 7) (.cons (.var 9) .nil)))))))
  .nil))
def t_Strip_place_3 : Sms := (.cons (.exp (.bm .append (.fld 0 (.var 0) ("rows" : Str)) (.cons (.tup (.cons (.var 1) (.cons (.var 10) (.cons (.var 9) (.cons (.bin .Add (.var 10) (.var 7)) (.cons (.bin .Add (.var 9) (.var 8)) .nil)))))) .nil)))
  (.cons (.ret (.ix (.fld 0 (.var 0) ("rows" : Str)) (.neg (.cst (.int 1)))))
  .nil))
def t_Strip_place_4 : Sms := (.cons (.par 7 8 (.bi .max2 (.cons (.cst (.int 0)) (.cons (.var 4) .nil))) (.bi .max2 (.cons (.cst (.int 0)) (.cons (.var 5) .nil))))
  (.cons (.set 9 (.bi .max1 (.cons (.bin .Add (.lst (.cons (.var 6) .nil)) (.lc [(("row" : Str), 11)] (.nm 11) (.ex (.fld 0 (.var 0) ("rows" : Str))) .nil (.ix (.var 11) (.cst (.int 2))))) .nil)))
  (.cons (.set 10 (.mth 0 10 (.var 0) ("spot" : Str) (.cons (.var 1) (.cons (.var 2) (.cons (.var 3) (.cons (.var 7) (.cons (.var 9) .nil)))))))
  (.cons (.whl (.cmp .Is (.var 10) (.cst .non)) t_Strip_place_2)
  t_Strip_place_3))))
def t_Strip_place : Sms := (.cons (.ite (.or_ (.not_ (.bi .isi (.cons (.var 1) (.cons (.bty "str") .nil)))) (.cmp .NotIn (.var 1) (.tup (.cons (.cst (.str ("left" : Str))) (.cons (.cst (.str ("right" : Str))) .nil))))) t_Strip_place_1 .nil)
  t_Strip_place_4)
def N_Strip_place : List Str := [("self" : Str), ("side" : Str), ("start" : Str), ("end" : Str), ("width" : Str), ("height" : Str), ("top" : Str), ("wide" : Str), ("high" : Str), ("y" : Str), ("left" : Str), ("row" : Str)]
def ps_Strip_place : List Str := [("self" : Str), ("side" : Str), ("start" : Str), ("end" : Str), ("width" : Str), ("height" : Str), ("top" : Str)]
def d_Strip_place : Df := ⟨(("Strip" : Str), some ("place" : Str)), ("place" : Str), ("Strip.place" : Str), s_Strip_place, N_Strip_place, ps_Strip_place, t_Strip_place⟩
theorem o_Strip_place : DfOk pn d_Strip_place := ⟨⟨rfl, rfl, rfl, by decide +kernel, rfl, by decide +kernel, by decide +kernel⟩, by decide +kernel, fun _ _ _ _ _ _ us hl => match us, hl with | [_, _, _, _, _, _, _], _ => rfl⟩
/-! Strip_lowest -/
abbrev s_Strip_lowest : Stmt := inClass (top 5) 2
def t_Strip_lowest_1 : Sms := (.cons (.rai 2 ("NoSide" : Str))
  .nil)
def t_Strip_lowest_2 : Sms := (.cons (.set 2 (.lc [(("row" : Str), 3)] (.nm 3) (.ex (.fld 0 (.var 0) ("rows" : Str))) (.cons (.cmp .In (.var 1) (.tup (.cons (.cst (.str ("both" : Str))) (.cons (.ix (.var 3) (.cst (.int 0))) .nil)))) .nil) (.ix (.var 3) (.cst (.int 4)))))
  (.cons (.ret (.ite (.var 2) (.bi .max1 (.cons (.var 2) .nil)) (.cst .non)))
  .nil))
def t_Strip_lowest : Sms := (.cons (.ite (.or_ (.not_ (.bi .isi (.cons (.var 1) (.cons (.bty "str") .nil)))) (.cmp .NotIn (.var 1) (.tup (.cons (.cst (.str ("left" : Str))) (.cons (.cst (.str ("right" : Str))) (.cons (.cst (.str ("both" : Str))) .nil)))))) t_Strip_lowest_1 .nil)
  t_Strip_lowest_2)
def N_Strip_lowest : List Str := [("self" : Str), ("side" : Str), ("found" : Str), ("row" : Str)]
def ps_Strip_lowest : List Str := [("self" : Str), ("side" : Str)]
def d_Strip_lowest : Df := ⟨(("Strip" : Str), some ("lowest" : Str)), ("lowest" : Str), ("Strip.lowest" : Str), s_Strip_lowest, N_Strip_lowest, ps_Strip_lowest, t_Strip_lowest⟩
theorem o_Strip_lowest : DfOk pn d_Strip_lowest := ⟨⟨rfl, rfl, rfl, by decide +kernel, rfl, by decide +kernel, by decide +kernel⟩, by decide +kernel, fun _ _ _ _ _ _ us hl => match us, hl with | [_, _], _ => rfl⟩
/-! law_lowest -/
abbrev s_law_lowest : Stmt := top 10
def t_law_lowest : Sms := (.cons (.set 2 (.lc [(("row" : Str), 3)] (.nm 3) (.ex (.var 0)) (.cons (.cmp .In (.var 1) (.tup (.cons (.cst (.str ("both" : Str))) (.cons (.ix (.var 3) (.cst (.int 0))) .nil)))) .nil) (.ix (.var 3) (.cst (.int 4)))))
  (.cons (.ret (.ite (.cmp .NotEq (.var 2) (.lst .nil)) (.bi .max1 (.cons (.var 2) .nil)) (.cst .non)))
  .nil))
def N_law_lowest : List Str := [("strip" : Str), ("word" : Str), ("found" : Str), ("row" : Str)]
def ps_law_lowest : List Str := [("strip" : Str), ("word" : Str)]
def d_law_lowest : Df := ⟨(("_law_lowest" : Str), none), ("_law_lowest" : Str), ("_law_lowest" : Str), s_law_lowest, N_law_lowest, ps_law_lowest, t_law_lowest⟩
theorem o_law_lowest : DfOk pn d_law_lowest := ⟨⟨rfl, rfl, rfl, by decide +kernel, rfl, by decide +kernel, by decide +kernel⟩, by decide +kernel, fun _ _ _ _ _ _ us hl => match us, hl with | [_, _], _ => rfl⟩
/-! law_right -/
abbrev s_law_right : Stmt := top 14
def t_law_right_1 : Sms := (.cons (.ret (.cst (.bl false)))
  .nil)
def t_law_right_2 : Sms := (.cons (.set 6 (.mth 0 12 (.var 1) ("place" : Str) (.cons (.ix (.var 4) (.cst (.int 0))) (.cons (.ix (.var 4) (.cst (.int 1))) (.cons (.ix (.var 4) (.cst (.int 2))) (.cons (.ix (.var 4) (.cst (.int 3))) (.cons (.ix (.var 4) (.cst (.int 4))) (.cons (.ix (.var 4) (.cst (.int 5))) .nil))))))))
  .nil)
def t_law_right_3 : Sms := (.cons (.set 6 (.mthK 0 12 (.var 1) ("place" : Str) 1 [("top" : Str), ("height" : Str), ("width" : Str), ("end" : Str), ("start" : Str), ("side" : Str)] [0, 6, 5, 4, 3, 2, 1] .nil (.cons (.ix (.var 4) (.cst (.int 5))) (.cons (.ix (.var 4) (.cst (.int 4))) (.cons (.ix (.var 4) (.cst (.int 3))) (.cons (.ix (.var 4) (.cst (.int 2))) (.cons (.ix (.var 4) (.cst (.int 1))) (.cons (.ix (.var 4) (.cst (.int 0))) .nil))))))))
  .nil)
def t_law_right_4 : Sms := (.cons (.ret (.cst (.bl false)))
  .nil)
def t_law_right_5 : Sms := (.cons (.ret (.cst (.bl false)))
  .nil)
def t_law_right_6 : Sms := (.cons (.ite (.or_ (.cmp .NotEq (.mth 0 13 (.var 1) ("lowest" : Str) (.cons (.var 7) .nil)) (.cal 14 (.cons (.var 2) (.cons (.var 7) .nil)))) (.cmp .NotEq (.mthK 0 13 (.var 1) ("lowest" : Str) 1 [("side" : Str)] [0, 1] .nil (.cons (.var 7) .nil)) (.mth 0 13 (.var 1) ("lowest" : Str) (.cons (.var 7) .nil)))) t_law_right_5 .nil)
  .nil)
def t_law_right_7 : Sms := (.cons (.for_ (.nm 7) (.ex (.tup (.cons (.cst (.str ("left" : Str))) (.cons (.cst (.str ("right" : Str))) (.cons (.cst (.str ("both" : Str))) .nil))))) t_law_right_6)
  .nil)
def t_law_right_8 : Sms := (.cons (.exp (.bm .append (.var 2) (.cons (.var 5) .nil)))
  (.cons (.ite (.or_ (.cmp .NotEq (.var 6) (.var 5)) (.cmp .NotEq (.mth 0 7 (.var 1) ("floats" : Str) .nil) (.var 2))) t_law_right_4 .nil)
  t_law_right_7))
def t_law_right_9 : Sms := (.cons (.set 4 (.cal 4 (.cons (.var 0) (.cons (.cst (.int 40)) .nil))))
  (.cons (.set 5 (.cal 6 (.cons (.var 2) (.cons (.ix (.var 4) (.cst (.int 0))) (.cons (.sl (.var 4) (.so (.cst (.int 1))) (.so (.cst (.int 3)))) (.cons (.sl (.var 4) (.so (.cst (.int 3))) (.so (.cst (.int 5)))) (.cons (.ix (.var 4) (.cst (.int 5))) .nil)))))))
  (.cons (.ite (.cmp .Eq (.cal 2 (.cons (.var 0) (.cons (.cst (.int 2)) .nil))) (.cst (.int 0))) t_law_right_2 t_law_right_3)
  t_law_right_8)))
def t_law_right_10 : Sms := (.cons (.exp (.bm .append (.mth 0 7 (.var 1) ("floats" : Str) .nil) (.cons (.cst .non) .nil)))
  (.cons (.ret (.cmp .Eq (.mth 0 7 (.var 1) ("floats" : Str) .nil) (.var 2)))
  .nil))
def t_law_right_11 : Sms := (.cons (.for_ (.nm 3) (.rng1 (.bin .Add (.cst (.int 1)) (.cal 2 (.cons (.var 0) (.cons (.cst (.int 12)) .nil))))) t_law_right_9)
  t_law_right_10)
def t_law_right : Sms := (.cons (.setT [1, 2] (.tup (.cons (.mk 0 1 .nil) (.cons (.lst .nil) .nil))))
  (.cons (.ite (.or_ (.cmp .NotEq (.mth 0 7 (.var 1) ("floats" : Str) .nil) (.lst .nil)) (.cmp .NotEq (.lc [(("word" : Str), 7)] (.nm 7) (.ex (.tup (.cons (.cst (.str ("left" : Str))) (.cons (.cst (.str ("right" : Str))) (.cons (.cst (.str ("both" : Str))) .nil))))) .nil (.mth 0 13 (.var 1) ("lowest" : Str) (.cons (.var 7) .nil))) (.bin .Mult (.lst (.cons (.cst .non) .nil)) (.cst (.int 3))))) t_law_right_1 .nil)
  t_law_right_11))
def N_law_right : List Str := [("state" : Str), ("strip" : Str), ("known" : Str), ("turn" : Str), ("ask" : Str), ("due" : Str), ("told" : Str), ("word" : Str)]
def ps_law_right : List Str := [("state" : Str)]
def d_law_right : Df := ⟨(("_law_right" : Str), none), ("_law_right" : Str), ("_law_right" : Str), s_law_right, N_law_right, ps_law_right, t_law_right⟩
theorem o_law_right : DfOk pn d_law_right := ⟨⟨rfl, rfl, rfl, by decide +kernel, rfl, by decide +kernel, by decide +kernel⟩, by decide +kernel, fun _ _ _ _ _ _ us hl => match us, hl with | [_], _ => rfl⟩
/-! law -/
abbrev s_law : Stmt := top 15
def t_law_1 : Sms := (.cons (.ret (.cst (.bl false)))
  .nil)
def t_law_2 : Sms := (.cons (.set 2 (.lst (.cons (.bin .Add (.cal 0 (.cons (.var 0) (.cons (.var 1) .nil))) (.bin .Mult (.cst (.int 173)) (.var 1))) .nil)))
  (.cons (.ite (.or_ (.not_ (.cal 15 (.cons (.var 2) .nil))) (.not_ (.cal 15 (.cons (.var 2) .nil)))) t_law_1 .nil)
  .nil))
def t_law_3 : Sms := (.cons (.ret (.cst (.bl true)))
  .nil)
def t_law : Sms := (.cons (.for_ (.nm 1) (.rng1 (.bi .max2 (.cons (.cst (.int 1)) (.cons (.bi .min2 (.cons (.cst (.int 6)) (.cons (.bi .len (.cons (.var 0) .nil)) .nil))) .nil)))) t_law_2)
  t_law_3)
def N_law : List Str := [("script" : Str), ("k" : Str), ("state" : Str)]
def ps_law : List Str := [("script" : Str)]
def d_law : Df := ⟨(("law" : Str), none), ("law" : Str), ("law" : Str), s_law, N_law, ps_law, t_law⟩
theorem o_law : DfOk pn d_law := ⟨⟨rfl, rfl, rfl, by decide +kernel, rfl, by decide +kernel, by decide +kernel⟩, by decide +kernel, fun _ _ _ _ _ _ us hl => match us, hl with | [_], _ => rfl⟩
def fs : List Df := [d_law_cell_at, d_Strip_init, d_law_digit, d_law_one, d_law_asked, d_law_spot, d_law_placed, d_Strip_floats, d_Strip_lefts, d_Strip_rights, d_Strip_spot, d_Strip_below, d_Strip_place, d_Strip_lowest, d_law_lowest, d_law_right, d_law]
theorem o_all : ∀ f ∈ fs, DfOk pn f := by
  intro f hf
  simp only [fs, List.mem_cons, List.not_mem_nil, or_false] at hf
  rcases hf with rfl | rfl | rfl | rfl | rfl | rfl | rfl | rfl | rfl | rfl | rfl | rfl | rfl | rfl | rfl | rfl | rfl
  · exact o_law_cell_at
  · exact o_Strip_init
  · exact o_law_digit
  · exact o_law_one
  · exact o_law_asked
  · exact o_law_spot
  · exact o_law_placed
  · exact o_Strip_floats
  · exact o_Strip_lefts
  · exact o_Strip_rights
  · exact o_Strip_spot
  · exact o_Strip_below
  · exact o_Strip_place
  · exact o_Strip_lowest
  · exact o_law_lowest
  · exact o_law_right
  · exact o_law
theorem kbs_ok : KbsOk pn fs := by
  intro j n ks pm h f hf
  simp only [pn, List.mem_cons, List.not_mem_nil, or_false, Prod.mk.injEq] at h
  rcases h with ⟨rfl, rfl, rfl, rfl⟩ | ⟨rfl, rfl, rfl, rfl⟩
  · obtain rfl : d_Strip_place = f := Option.some.inj hf
    exact fun _ _ _ _ _ _ us ws h1 h2 => match us, ws, h1, h2 with | [_], [_, _, _, _, _, _], _, _ => rfl
  · obtain rfl : d_Strip_lowest = f := Option.some.inj hf
    exact fun _ _ _ _ _ _ us ws h1 h2 => match us, ws, h1, h2 with | [_], [_], _, _ => rfl

end K25

set_option Elab.async false
set_option linter.all false
set_option maxRecDepth 100000
set_option maxHeartbeats 0
namespace K25
open L2 DI PySem PySem.Spec PyProof.Rows
abbrev R : PySem.W.OpenRow := PySem.W.OpenLaw.row PySem.Challenge.rw_flowboxes_k25_floats_height_by_height
def fa : List He.Fa := faOf pn
def fn : List He.DefD := fs.map Df.dd
abbrev hk : PySem.W.Hook := He.hookD 6 fa fn
def ob (s : PySem.W.SharedT) : He.AlD := He.obsDG 6 fa fn (HandSHeadRun.getT s)
theorem ob_eq (s : PySem.W.SharedT) : ob s = hk.obs s.abs := He.obsDG_eq (HandSHeadRun.getT_eq s)
def loose : List Str := ["_wall", "__name__", "BoxError", "NoSide", "Strip", "_law_cell_at", "_law_digit", "_law_one", "_law_lowest", "_law_spot", "_law_placed", "_law_asked", "_law_right"]
theorem run (w : World) : HandSHeadRun.RunEq R (PySem.W.view R.prog [15]) hk ob 30000 loose w := by
  intro os
  kernel_rfl
end K25

set_option Elab.async false
set_option linter.all false
set_option maxRecDepth 100000
set_option maxHeartbeats 4000000
/-! What a text comes to: a calculus of answers. -/
namespace DI
open L2 PySem PySem.Spec PyProof.Rows
def W {α : Type} (o : Out α) (Q : α → Sto → Prop) : Prop := match o with | .ok a S => Q a S | _ => False
structure Po where
  nx : Sl → Sto → Prop := fun _ _ => False
  rt : D → Sto → Prop := fun _ _ => False
  bk : Sl → Sto → Prop := fun _ _ => False
  ct : Sl → Sto → Prop := fun _ _ => False
def WS (o : OutS) (Q : Po) : Prop := match o with | .nx σ S => Q.nx σ S | .rt d S => Q.rt d S | .bk σ S => Q.bk σ S | .ct σ S => Q.ct σ S | _ => False
section
variable {α β : Type}
theorem W_bind (o : Out α) (f : α → Sto → Out β) (Q : β → Sto → Prop) : W (o.bind f) Q = W o fun a S => W (f a S) Q := by cases o <;> rfl
theorem W_ok (a : α) (S : Sto) (Q : α → Sto → Prop) : W (.ok a S) Q = Q a S := rfl
theorem W_bad (Q : α → Sto → Prop) : W .bad Q = False := rfl
theorem of_some (a : α) (S : Sto) : Out.of (some (a, S)) = .ok a S := rfl
theorem at_some (a : α) (S : Sto) : Out.at S (some a) = .ok a S := rfl
theorem fin_f (o : Out D) : fin false o = o := rfl
theorem fin_t (o : Out D) : fin true o = o.bind fun d S => .at S ((truSem d S).map D.bl) := rfl
theorem fin_bl (b t : Bool) (S : Sto) : fin b (.ok (.bl t) S) = .ok (.bl t) S := by cases b <;> rfl
theorem W_tst (o : Out D) (Q : Bool → Sto → Prop) : W (tstO o) Q = W o fun d S => match d with | .bl t => Q t S | _ => False := by
  unfold tstO
  rw [W_bind]
  congr 1
  funext d S
  cases d <;> rfl
theorem W_mono {o : Out α} {Q R : α → Sto → Prop} (h : W o Q) (i : ∀ a S, Q a S → R a S) : W o R := by
  cases o with
  | ok a S => exact i a S h
  | err => exact h
  | bad => exact h
theorem W_ex {o : Out α} {Q : α → Sto → Prop} (h : W o Q) : ∃ a S, o = .ok a S ∧ Q a S := by
  cases o with
  | ok a S => exact ⟨a, S, rfl, h⟩
  | err => exact h.elim
  | bad => exact h.elim
theorem WS_thn (o : Out α) (σ : Sl) (f : α → Sto → OutS) (Q : Po) : WS (o.thn σ f) Q = W o fun a S => WS (f a S) Q := by cases o <;> rfl
theorem WS_nx (σ : Sl) (S : Sto) (Q : Po) : WS (.nx σ S) Q = Q.nx σ S := rfl
theorem WS_rt (d : D) (S : Sto) (Q : Po) : WS (.rt d S) Q = Q.rt d S := rfl
theorem WS_bk (σ : Sl) (S : Sto) (Q : Po) : WS (.bk σ S) Q = Q.bk σ S := rfl
theorem WS_ct (σ : Sl) (S : Sto) (Q : Po) : WS (.ct σ S) Q = Q.ct σ S := rfl
theorem WS_bad (Q : Po) : WS .bad Q = False := rfl
theorem WS_nxt (o : OutS) (f : Sl → Sto → OutS) (Q : Po) : WS (o.nxt f) Q = WS o { Q with nx := fun σ S => WS (f σ S) Q } := by cases o <;> rfl
theorem WS_mono {o : OutS} {Q R : Po} (h : WS o Q) (i1 : ∀ σ S, Q.nx σ S → R.nx σ S) (i2 : ∀ d S, Q.rt d S → R.rt d S) (i3 : ∀ σ S, Q.bk σ S → R.bk σ S := by intros; assumption) (i4 : ∀ σ S, Q.ct σ S → R.ct σ S := by intros; assumption) : WS o R := by
  cases o with
  | nx σ S => exact i1 _ _ h
  | rt d S => exact i2 _ _ h
  | bk σ S => exact i3 _ _ h
  | ct σ S => exact i4 _ _ h
  | err => exact h.elim
  | bad => exact h.elim
theorem W_run {P : Pg} {C : Nat → List D → Sto → Out D} {n np : Nat} {T : Sms} {ds : List D} {S : Sto} {Q : D → Sto → Prop} (hl : ds.length = np) (h : WS (dSs P C T (startD n ds) S) { nx := fun _ S => Q .non S, rt := Q }) : W (runB P C n np T ds S) Q := by
  unfold runB
  rw [if_pos hl]
  revert h
  cases dSs P C T (startD n ds) S <;> exact fun h => h
theorem W_call {P : Pg} {fs : List Df} {d j : Nat} {f : Df} {ds : List D} {S : Sto} {Q : D → Sto → Prop} (hf : fs[j]? = some f) (hl : ds.length = f.ps.length) (h : WS (dSs P (calls P fs d) f.T (startD f.N.length ds) S) { nx := fun _ S => Q .non S, rt := Q }) : W (calls P fs (d + 1) j ds S) Q := by
  unfold calls
  rw [hf]
  exact W_run hl h
/-! ### loops -/
theorem WS_forN {w : Walk} {tg : Tg} {b : Sl → Sto → OutS} {Q : Po} (I : Nat → Sl → Sto → Prop) {n : Nat}
    (hend : ∀ σ S, I n σ S → wgo w n S = some none)
    (hgo : ∀ i σ S, i < n → I i σ S → ∃ d σ', wgo w i S = some (some d) ∧ setTg tg d σ = some σ' ∧ WS (b σ' S) { nx := fun σ S => I (i + 1) σ S, rt := Q.rt, bk := Q.nx, ct := fun σ S => I (i + 1) σ S })
    (hq : ∀ σ S, I n σ S → Q.nx σ S) : ∀ k i σ S, i + k = n → I i σ S → WS (forN w tg b k i σ S) Q := by
  intro k
  induction k with
  | zero =>
    intro i σ S e h
    have : i = n := by omega
    subst this
    unfold forN
    rw [hend σ S h]
    exact hq σ S h
  | succ k ih =>
    intro i σ S e h
    obtain ⟨d, σ', h1, h2, h3⟩ := hgo i σ S (by omega) h
    unfold forN
    rw [h1]
    show WS (match setTg tg d σ with
      | none => .bad
      | some σ' => match b σ' S with
        | .nx σ' S' => forN w tg b k (i + 1) σ' S'
        | .ct σ' S' => forN w tg b k (i + 1) σ' S'
        | .bk σ' S' => .nx σ' S'
        | x => x) Q
    rw [h2]
    show WS (match b σ' S with
        | .nx σ' S' => forN w tg b k (i + 1) σ' S'
        | .ct σ' S' => forN w tg b k (i + 1) σ' S'
        | .bk σ' S' => .nx σ' S'
        | x => x) Q
    revert h3
    cases b σ' S with
    | nx σ1 S1 => exact fun h3 => ih (i + 1) σ1 S1 (by omega) h3
    | ct σ1 S1 => exact fun h3 => ih (i + 1) σ1 S1 (by omega) h3
    | bk σ1 S1 => exact fun h3 => h3
    | rt d S1 => exact fun h3 => h3
    | err => exact fun h3 => h3
    | bad => exact fun h3 => h3
/-- a for over a walk whose length stays -/
theorem WS_for {w : Walk} {tg : Tg} {b : Sl → Sto → OutS} {Q : Po} {n : Nat} {σ : Sl} {S : Sto} (I : Nat → Sl → Sto → Prop) (h0 : I 0 σ S)
    (hend : ∀ σ S, I n σ S → wgo w n S = some none)
    (hgo : ∀ i σ S, i < n → I i σ S → ∃ d σ', wgo w i S = some (some d) ∧ setTg tg d σ = some σ' ∧ WS (b σ' S) { nx := fun σ S => I (i + 1) σ S, rt := Q.rt, bk := Q.nx, ct := fun σ S => I (i + 1) σ S })
    (hq : ∀ σ S, I n σ S → Q.nx σ S) : WS (forN w tg b n 0 σ S) Q := WS_forN I hend hgo hq n 0 σ S (by omega) h0
theorem whlN_more {t : Sl → Sto → Out Bool} {b : Sl → Sto → OutS} : ∀ {n m : Nat} {σ : Sl} {S : Sto}, whlN t b n σ S ≠ .bad → n ≤ m → whlN t b m σ S = whlN t b n σ S := by
  intro n
  induction n with
  | zero => intro m σ S h; exact absurd rfl h
  | succ n ih =>
    intro m σ S h hm
    obtain ⟨m, rfl⟩ : ∃ k, m = k + 1 := ⟨m - 1, by omega⟩
    unfold whlN at h ⊢
    revert h
    cases t σ S with
    | bad => intro h; rfl
    | err => intro h; rfl
    | ok k S1 =>
      show ((if k = true then _ else _) ≠ OutS.bad) → (if k = true then _ else _) = (if k = true then _ else _)
      cases k with
      | false => intro h; rfl
      | true =>
        rw [if_pos rfl]
        cases b σ S1 with
        | nx σ' S' => exact fun h => ih h (by omega)
        | ct σ' S' => exact fun h => ih h (by omega)
        | bk => intro h; rfl
        | rt => intro h; rfl
        | err => intro h; rfl
        | bad => intro h; rfl
theorem whl_of {t : Sl → Sto → Out Bool} {b : Sl → Sto → OutS} {n : Nat} {σ : Sl} {S : Sto} (h : whlN t b n σ S ≠ .bad) : whl t b σ S = whlN t b n σ S := by
  have hx : ∃ n, whlN t b n σ S ≠ .bad := ⟨n, h⟩
  unfold whl
  rw [dif_pos hx]
  have hc := Classical.choose_spec hx
  by_cases q : n ≤ Classical.choose hx
  · exact whlN_more h q
  · exact (whlN_more hc (by omega)).symm
theorem WS_ne {o : OutS} {Q : Po} (h : WS o Q) : o ≠ .bad := fun e => by rw [e] at h; exact h
theorem WS_whlN {t : Sl → Sto → Out Bool} {b : Sl → Sto → OutS} {Q : Po} (I : Nat → Sl → Sto → Prop)
    (hs : ∀ m σ S, I m σ S → W (t σ S) fun k S1 => if k = true then WS (b σ S1) { nx := fun σ S => ∃ m', m' < m ∧ I m' σ S, rt := Q.rt, bk := Q.nx, ct := fun σ S => ∃ m', m' < m ∧ I m' σ S } else Q.nx σ S1) :
    ∀ n m σ S, m < n → I m σ S → WS (whlN t b n σ S) Q := by
  intro n
  induction n with
  | zero => intro m σ S h; omega
  | succ n ih =>
    intro m σ S hm h
    have := hs m σ S h
    unfold whlN
    rw [WS_thn]
    refine W_mono this fun k S1 h => ?_
    cases k with
    | false => exact h
    | true =>
      rw [if_pos rfl] at h ⊢
      revert h
      cases b σ S1 with
      | nx σ' S' => exact fun ⟨m', h1, h2⟩ => ih m' σ' S' (by omega) h2
      | ct σ' S' => exact fun ⟨m', h1, h2⟩ => ih m' σ' S' (by omega) h2
      | bk => exact fun h => h
      | rt => exact fun h => h
      | err => exact fun h => h
      | bad => exact fun h => h
/-- a while by a measure -/
theorem WS_whl {t : Sl → Sto → Out Bool} {b : Sl → Sto → OutS} {Q : Po} {σ : Sl} {S : Sto} (I : Nat → Sl → Sto → Prop) {m : Nat} (h0 : I m σ S)
    (hs : ∀ m σ S, I m σ S → W (t σ S) fun k S1 => if k = true then WS (b σ S1) { nx := fun σ S => ∃ m', m' < m ∧ I m' σ S, rt := Q.rt, bk := Q.nx, ct := fun σ S => ∃ m', m' < m ∧ I m' σ S } else Q.nx σ S1) : WS (whl t b σ S) Q := by
  have h := WS_whlN I hs (m + 1) m σ S (by omega) h0
  rw [whl_of (WS_ne h)]
  exact h
/-- a comprehension's loop: J i acc S: behind i turns, S the store without the new list -/
theorem W_lcLoop {w : Walk} {tg : Tg} {σ : Sl} {n : Nat} {test : Sl → Sto → Out Bool} {elt : Sl → Sto → Out D} {Q : Unit → Sto → Prop} (J : Nat → Sto → Prop) {k0 : Nat}
    (hend : ∀ S, J k0 S → wgo w k0 S = some none)
    (hgo : ∀ i S, i < k0 → J i S → ∃ d σ', wgo w i S = some (some d) ∧ setTg tg d σ = some σ' ∧ W (test σ' S) fun t S1 => if t = true then W (elt σ' S1) fun v S2 => ∃ acc, S2[n]? = some (.lst acc) ∧ acc.length < sizeLine ∧ J (i + 1) (S2.set n (.lst (acc ++ [v]))) else J (i + 1) S1)
    (hq : ∀ S, J k0 S → Q () S) : ∀ k i S, i + k = k0 → J i S → W (lcLoop w tg σ n test elt k i S) Q := by
  intro k
  induction k with
  | zero =>
    intro i S e h
    have : i = k0 := by omega
    subst this
    unfold lcLoop
    rw [hend S h]
    exact hq S h
  | succ k ih =>
    intro i S e h
    obtain ⟨d, σ', h1, h2, h3⟩ := hgo i S (by omega) h
    unfold lcLoop
    rw [h1]
    show W (match setTg tg d σ with
      | none => .bad
      | some σ' => match test σ' S with
        | .ok false S1 => lcLoop w tg σ n test elt k (i + 1) S1
        | .ok true S1 => match elt σ' S1 with
          | .ok v S2 => match S2[n]? with
            | some (.lst acc) => if acc.length < sizeLine then lcLoop w tg σ n test elt k (i + 1) (S2.set n (.lst (acc ++ [v]))) else .bad
            | _ => .bad
          | _ => .bad
        | _ => .bad) Q
    rw [h2]
    show W (match test σ' S with
        | .ok false S1 => lcLoop w tg σ n test elt k (i + 1) S1
        | .ok true S1 => match elt σ' S1 with
          | .ok v S2 => match S2[n]? with
            | some (.lst acc) => if acc.length < sizeLine then lcLoop w tg σ n test elt k (i + 1) (S2.set n (.lst (acc ++ [v]))) else .bad
            | _ => .bad
          | _ => .bad
        | _ => .bad) Q
    revert h3
    cases test σ' S with
    | err => exact fun h3 => h3
    | bad => exact fun h3 => h3
    | ok t S1 =>
      cases t with
      | false => exact fun h3 => ih (i + 1) S1 (by omega) h3
      | true =>
        intro h3
        replace h3 : W (elt σ' S1) _ := h3
        show W (match elt σ' S1 with
          | .ok v S2 => match S2[n]? with
            | some (.lst acc) => if acc.length < sizeLine then lcLoop w tg σ n test elt k (i + 1) (S2.set n (.lst (acc ++ [v]))) else .bad
            | _ => .bad
          | _ => .bad) Q
        revert h3
        cases elt σ' S1 with
        | err => exact fun h3 => h3.elim
        | bad => exact fun h3 => h3.elim
        | ok v S2 =>
          rintro ⟨acc, a1, a2, a3⟩
          show W (match S2[n]? with
            | some (.lst acc) => if acc.length < sizeLine then lcLoop w tg σ n test elt k (i + 1) (S2.set n (.lst (acc ++ [v]))) else .bad
            | _ => .bad) Q
          rw [a1]
          show W (if acc.length < sizeLine then lcLoop w tg σ n test elt k (i + 1) (S2.set n (.lst (acc ++ [v]))) else .bad) Q
          rw [if_pos a2]
          exact ih (i + 1) _ (by omega) a3
end
/-! ### frames: all but the cells of B stay -/
def Fr (B : List Nat) (S S' : Sto) : Prop := S.length ≤ S'.length ∧ ∀ k, k < S.length → k ∉ B → S'[k]? = S[k]?
theorem Fr.refl {B : List Nat} {S : Sto} : Fr B S S := ⟨Nat.le_refl _, fun _ _ _ => rfl⟩
theorem Fr.trans {B : List Nat} {S S1 S2 : Sto} (a : Fr B S S1) (b : Fr B S1 S2) : Fr B S S2 := ⟨Nat.le_trans a.1 b.1, fun k h1 h2 => (b.2 k (Nat.lt_of_lt_of_le h1 a.1) h2).trans (a.2 k h1 h2)⟩
theorem Fr.push {B : List Nat} {S : Sto} {c : Cell} : Fr B S (S ++ [c]) := ⟨by simp, fun k h _ => by rw [List.getElem?_append_left h]⟩
theorem Fr.set {B : List Nat} {S : Sto} {i : Nat} {c : Cell} (h : i ∈ B ∨ S.length ≤ i) : Fr B S (S.set i c) := ⟨by simp, fun k h1 h2 => by
  rw [List.getElem?_set_ne]
  rintro rfl
  rcases h with h | h
  · exact h2 h
  · omega⟩
theorem Fr.sub {B B' : List Nat} {S S' : Sto} (a : Fr B S S') (h : ∀ k ∈ B, k < S.length → k ∈ B') : Fr B' S S' := ⟨a.1, fun k h1 h2 => a.2 k h1 fun h3 => h2 (h k h3 h1)⟩
theorem Fr.get {B : List Nat} {S S' : Sto} (a : Fr B S S') {k : Nat} {c : Cell} (h : S[k]? = some c) (hk : k ∉ B) : S'[k]? = some c := by
  rw [a.2 k (List.getElem?_eq_some_iff.mp h).1 hk]; exact h
theorem Fr.lt {B : List Nat} {S S' : Sto} (a : Fr B S S') {k : Nat} (h : k < S.length) : k < S'.length := Nat.lt_of_lt_of_le h a.1
/-- grow, then change what is new or of B -/
theorem Fr.setr {B : List Nat} {S S1 : Sto} {i : Nat} {c : Cell} (a : Fr B S S1) (h : i ∈ B ∨ S.length ≤ i) : Fr B S (S1.set i c) := ⟨by simpa using a.1, fun k h1 h2 => by
  rw [List.getElem?_set_ne]
  · exact a.2 k h1 h2
  · rintro rfl
    rcases h with h | h
    · exact h2 h
    · omega⟩
theorem Fr.pushr {B : List Nat} {S S1 : Sto} {c : Cell} (a : Fr B S S1) : Fr B S (S1 ++ [c]) := a.trans Fr.push
theorem get_push {S : Sto} {c : Cell} : (S ++ [c])[S.length]? = some c := by simp
theorem get_pushl {S : Sto} {c c' : Cell} {k : Nat} (h : S[k]? = some c') : (S ++ [c])[k]? = some c' := by
  rw [List.getElem?_append_left (List.getElem?_eq_some_iff.mp h).1]; exact h
theorem get_set {S : Sto} {c : Cell} {k : Nat} (h : k < S.length) : (S.set k c)[k]? = some c := by simp [h]
theorem get_setn {S : Sto} {c : Cell} {k i : Nat} (h : i ≠ k) : (S.set i c)[k]? = S[k]? := List.getElem?_set_ne h
theorem lt_of {S : Sto} {c : Cell} {k : Nat} (h : S[k]? = some c) : k < S.length := (List.getElem?_eq_some_iff.mp h).1
end DI

set_option Elab.async false
set_option linter.all false
set_option maxRecDepth 100000
set_option maxHeartbeats 4000000
/-! The calculus's steps, one for each construct. -/
namespace DI
open L2 PySem PySem.Spec PyProof.Rows
section
variable {P : Pg} {C : Nat → List D → Sto → Out D} {σ : Sl} {S : Sto} {Q : D → Sto → Prop} {b : Bool}
theorem w_int {i : Int} (k : Q (.int i) S) : W (de P C (.cst (.int i)) false σ S) Q := by simp only [de, fin_f]; exact k
theorem w_str {i : Str} (k : Q (.str i) S) : W (de P C (.cst (.str i)) false σ S) Q := by simp only [de, fin_f]; exact k
theorem w_blc {i : Bool} (k : Q (.bl i) S) : W (de P C (.cst (.bl i)) false σ S) Q := by simp only [de, fin_f]; exact k
theorem w_non (k : Q .non S) : W (de P C (.cst .non) false σ S) Q := by simp only [de, fin_f]; exact k
theorem w_var {i : Nat} (h : ∃ d, σ[i]? = some (some d) ∧ Q d S) : W (de P C (.var i) false σ S) Q := by
  obtain ⟨d, h, k⟩ := h
  simp only [de, fin_f, h]; exact k
theorem w_bty {n : String} (k : Q (.ty n) S) : W (de P C (.bty n) false σ S) Q := by simp only [de, fin_f]; exact k
theorem w_glo {x : Str} {d : D} (h : P.glo x = some d) (k : Q d S) : W (de P C (.glo x) false σ S) Q := by simp only [de, fin_f, h]; exact k
theorem W_of {o : Option (D × Sto)} {r : D × Sto} (h : o = some r) (k : Q r.1 r.2) : W (.of o) Q := by subst h; exact k
theorem w_bin {o : Operator} {a c : Ex} (k : W (de P C a false σ S) fun x S => W (de P C c false σ S) fun y S => W (.of (opSem o x y S)) Q) : W (de P C (.bin o a c) false σ S) Q := by
  simp only [de, fin_f, W_bind]; exact k
theorem w_add {i j : Int} (k : Q (.int (i + j)) S) : W (.of (opSem .Add (.int i) (.int j) S)) Q := k
theorem w_sub {i j : Int} (k : Q (.int (i - j)) S) : W (.of (opSem .Sub (.int i) (.int j) S)) Q := k
theorem w_mul {i j : Int} (h : (-(2 ^ 64) < i ∧ i < 2 ^ 64) ∨ (-(2 ^ 64) < j ∧ j < 2 ^ 64)) (k : Q (.int (i * j)) S) : W (.of (opSem .Mult (.int i) (.int j) S)) Q := by
  unfold opSem
  simp only [h, if_true]
  exact k
theorem w_div {i j : Int} (h : 0 < j ∧ j < 1073741824) (k : Q (.int (i / j)) S) : W (.of (opSem .FloorDiv (.int i) (.int j) S)) Q := by
  unfold opSem
  simp only [h, if_true, and_self]
  exact k
theorem w_mod {i j : Int} (h : 0 < j) (k : Q (.int (i % j)) S) : W (.of (opSem .Mod (.int i) (.int j) S)) Q := by
  unfold opSem
  simp only [h, if_true]
  exact k
theorem w_pow {i j : Int} (h : 0 ≤ j ∧ j ≤ 1000000 ∧ i.natAbs < 2 ^ 64) (k : Q (.int (i ^ j.toNat)) S) : W (.of (opSem .Pow (.int i) (.int j) S)) Q := by
  unfold opSem
  simp only [h, if_true, and_self]
  exact k
theorem w_addT {xs ys : List D} (h : xs.length + ys.length ≤ sizeLine) (k : Q (.tup (xs ++ ys)) S) : W (.of (opSem .Add (.tup xs) (.tup ys) S)) Q := by
  unfold opSem
  simp only [h, if_true]
  exact k
theorem w_addL {a c : Nat} {xs ys : List D} (h1 : S[a]? = some (.lst xs)) (h2 : S[c]? = some (.lst ys)) (h : xs.length + ys.length ≤ sizeLine) (k : Q (.loc S.length) (S ++ [.lst (xs ++ ys)])) : W (.of (opSem .Add (.loc a) (.loc c) S)) Q := by
  unfold opSem
  simp only [h1, h2, h, if_true]
  exact k
theorem w_neg {a : Ex} (k : W (de P C a false σ S) fun x S => ∃ i, x = .int i ∧ Q (.int (-i)) S) : W (de P C (.neg a) false σ S) Q := by
  simp only [de, fin_f, W_bind]
  refine W_mono k fun x S h => ?_
  obtain ⟨i, rfl, h⟩ := h
  exact h
theorem W_at {α : Type} {o : Option α} {d : α} {Q : α → Sto → Prop} (h : o = some d) (k : Q d S) : W (.at S o) Q := by subst h; exact k
theorem w_cmp {o : CmpOp} {a c : Ex} (k : W (de P C a false σ S) fun x S => W (de P C c false σ S) fun y S => ∃ t, cmpSem o x y S = some t ∧ Q (.bl t) S) : W (de P C (.cmp o a c) b σ S) Q := by
  simp only [de, W_bind]
  refine W_mono k fun x S h => W_mono h fun y S h => ?_
  obtain ⟨t, h1, h2⟩ := h
  rw [h1]; exact h2
theorem w_chn {o o' : CmpOp} {a c e : Ex} (k : W (de P C a false σ S) fun x S => W (de P C c false σ S) fun y S => ∃ t, cmpSem o x y S = some t ∧ (t = true → W (de P C e false σ S) fun z S => ∃ t, cmpSem o' y z S = some t ∧ Q (.bl t) S) ∧ (t = false → Q (.bl false) S)) : W (de P C (.chn o o' a c e) b σ S) Q := by
  simp only [de, W_bind]
  refine W_mono k fun x S h => W_mono h fun y S h => ?_
  obtain ⟨t, h1, h2, h3⟩ := h
  rw [h1]
  cases t with
  | false => exact h3 rfl
  | true =>
    show W (Out.bind _ _) Q
    rw [W_bind]
    refine W_mono (h2 rfl) fun z S h => ?_
    obtain ⟨t, h1, h2⟩ := h
    rw [h1]; exact h2
theorem w_and {a c : Ex} (k : W (de P C a b σ S) fun x S => ∃ t, truSem x S = some t ∧ (t = true → W (de P C c b σ S) Q) ∧ (t = false → Q x S)) : W (de P C (.and_ a c) b σ S) Q := by
  simp only [de, W_bind]
  refine W_mono k fun x S h => ?_
  obtain ⟨t, h1, h2, h3⟩ := h
  rw [h1]
  cases t with
  | false => exact h3 rfl
  | true => exact h2 rfl
theorem w_or {a c : Ex} (k : W (de P C a b σ S) fun x S => ∃ t, truSem x S = some t ∧ (t = true → Q x S) ∧ (t = false → W (de P C c b σ S) Q)) : W (de P C (.or_ a c) b σ S) Q := by
  simp only [de, W_bind]
  refine W_mono k fun x S h => ?_
  obtain ⟨t, h1, h2, h3⟩ := h
  rw [h1]
  cases t with
  | false => exact h3 rfl
  | true => exact h2 rfl
theorem w_not {a : Ex} (k : W (de P C a b σ S) fun x S => ∃ t, truSem x S = some t ∧ Q (.bl (!t)) S) : W (de P C (.not_ a) b σ S) Q := by
  simp only [de, W_bind]
  refine W_mono k fun x S h => ?_
  obtain ⟨t, h1, h2⟩ := h
  rw [h1]; exact h2
theorem w_ite {t a c : Ex} (k : W (de P C t true σ S) fun d S => ∃ t, d = .bl t ∧ (t = true → W (de P C a b σ S) Q) ∧ (t = false → W (de P C c b σ S) Q)) : W (de P C (.ite t a c) b σ S) Q := by
  simp only [de, W_bind, W_tst]
  refine W_mono k fun x S h => ?_
  obtain ⟨t, rfl, h2, h3⟩ := h
  cases t with
  | false => exact h3 rfl
  | true => exact h2 rfl
theorem w_fld {c : Nat} {o : Ex} {f : Str} (k : W (de P C o false σ S) fun x S => ∃ d, fldSem x c f S = some d ∧ Q d S) : W (de P C (.fld c o f) false σ S) Q := by
  simp only [de, fin_f, W_bind]
  refine W_mono k fun x S h => ?_
  obtain ⟨d, h1, h2⟩ := h
  rw [h1]; exact h2
theorem w_ix {o i : Ex} (k : W (de P C o false σ S) fun x S => W (de P C i false σ S) fun y S => ∃ d, itemSem x y S = some d ∧ Q d S) : W (de P C (.ix o i) false σ S) Q := by
  simp only [de, fin_f, W_bind]
  refine W_mono k fun x S h => W_mono h fun y S h => ?_
  obtain ⟨d, h1, h2⟩ := h
  rw [h1]; exact h2
theorem w_no {Q : Option Int → Sto → Prop} (k : Q none S) : W (deO P C .no σ S) Q := by simp only [deO]; exact k
theorem w_so {e : Ex} {Q : Option Int → Sto → Prop} (k : W (de P C e false σ S) fun d S => ∃ i, d = .int i ∧ Q (some i) S) : W (deO P C (.so e) σ S) Q := by
  simp only [deO, W_bind]
  refine W_mono k fun x S h => ?_
  obtain ⟨i, rfl, h⟩ := h
  exact h
theorem w_sl {o : Ex} {lo hi : Ox} (k : W (de P C o false σ S) fun x S => W (deO P C lo σ S) fun l S => W (deO P C hi σ S) fun h S => ∃ r S', sliceSem x l h S = some (r, S') ∧ Q r S') : W (de P C (.sl o lo hi) false σ S) Q := by
  simp only [de, fin_f, W_bind]
  refine W_mono k fun x S h => W_mono h fun l S h => W_mono h fun h S k => ?_
  obtain ⟨r, S', h1, h2⟩ := k
  rw [h1]; exact h2
theorem w_nil {Q : List D → Sto → Prop} (k : Q [] S) : W (des P C .nil σ S) Q := by simp only [des]; exact k
theorem w_cons {e : Ex} {es : Exs} {Q : List D → Sto → Prop} (k : W (de P C e false σ S) fun d S => W (des P C es σ S) fun ds S => Q (d :: ds) S) : W (des P C (.cons e es) σ S) Q := by
  simp only [des, W_bind]; exact k
theorem w_tup {es : Exs} (k : W (des P C es σ S) fun ds S => ds.length ≤ sizeLine ∧ Q (.tup ds) S) : W (de P C (.tup es) false σ S) Q := by
  simp only [de, fin_f, W_bind]
  refine W_mono k fun ds S h => ?_
  rw [if_pos h.1]; exact h.2
theorem w_lst {es : Exs} (k : W (des P C es σ S) fun ds S => ds.length ≤ sizeLine ∧ Q (.loc S.length) (S ++ [.lst ds])) : W (de P C (.lst es) false σ S) Q := by
  simp only [de, fin_f, W_bind]
  refine W_mono k fun ds S h => ?_
  rw [if_pos h.1]; exact h.2
theorem w_cal {j : Nat} {es : Exs} (k : W (des P C es σ S) fun ds S => W (C j ds S) Q) : W (de P C (.cal j es) false σ S) Q := by
  simp only [de, fin_f, W_bind]; exact k
theorem w_mk {c j : Nat} {es : Exs} (k : W (des P C es σ S) fun ds S => W (C j (.loc S.length :: ds) (S ++ [.ins c []])) fun r S' => r = .non ∧ Q (.loc S.length) S') : W (de P C (.mk c j es) false σ S) Q := by
  simp only [de, fin_f, W_bind]
  refine W_mono k fun ds S h => W_mono h fun r S' h => ?_
  obtain ⟨rfl, h⟩ := h
  exact h
theorem w_mth {c j : Nat} {o : Ex} {m : Str} {es : Exs} (k : W (de P C o false σ S) fun x S => ∃ a fs, x = .loc a ∧ S[a]? = some (.ins c fs) ∧ fs.lookup m = none ∧ W (des P C es σ S) fun ds S => W (C j (.loc a :: ds) S) Q) : W (de P C (.mth c j o m es) false σ S) Q := by
  simp only [de, fin_f, W_bind]
  refine W_mono k fun x S h => ?_
  obtain ⟨a, fs, rfl, h1, h2, h3⟩ := h
  simp only [h1, h2, and_self, if_true, W_bind]
  exact h3
theorem w_calK {j n : Nat} {ks : List Str} {pm : List Nat} {es kes : Exs} (k : W (des P C es σ S) fun ds S => W (des P C kes σ S) fun zs S => (ds.length = n ∧ zs.length = ks.length) ∧ W (C j (pmL pm (ds ++ zs)) S) Q) : W (de P C (.calK j n ks pm es kes) false σ S) Q := by
  simp only [de, fin_f, W_bind]
  refine W_mono k fun ds S h => W_mono h fun zs S h => ?_
  rw [if_pos h.1]; exact h.2
theorem w_mthK {c j : Nat} {o : Ex} {m : Str} {n : Nat} {ks : List Str} {pm : List Nat} {es kes : Exs} (k : W (de P C o false σ S) fun x S => ∃ a fs, x = .loc a ∧ S[a]? = some (.ins c fs) ∧ fs.lookup m = none ∧ W (des P C es σ S) fun ds S => W (des P C kes σ S) fun zs S => (ds.length + 1 = n ∧ zs.length = ks.length) ∧ W (C j (pmL pm (.loc a :: ds ++ zs)) S) Q) : W (de P C (.mthK c j o m n ks pm es kes) false σ S) Q := by
  simp only [de, fin_f, W_bind]
  refine W_mono k fun x S h => ?_
  obtain ⟨a, fs, rfl, h1, h2, h3⟩ := h
  simp only [h1, h2, and_self, if_true, W_bind]
  refine W_mono h3 fun ds S h => W_mono h fun zs S h => ?_
  rw [if_pos h.1]; exact h.2
theorem w_lrg {a c : Ex} (k : W (de P C a false σ S) fun x S => W (de P C c false σ S) fun y S => ∃ i j, x = .int i ∧ y = .int j ∧ lrgOk i j = true ∧ Q (.loc S.length) (S ++ [.lst (lrgD i j)])) : W (de P C (.lrg a c) false σ S) Q := by
  simp only [de, fin_f, W_bind]
  refine W_mono k fun x S h => W_mono h fun y S h => ?_
  obtain ⟨i, j, rfl, rfl, h1, h2⟩ := h
  simp only [h1, if_true]; exact h2
theorem w_bi {f : BI} {es : Exs} (k : W (des P C es σ S) fun ds S => ∃ r S', biSem f ds S = some (r, S') ∧ Q r S') : W (de P C (.bi f es) false σ S) Q := by
  simp only [de, fin_f, W_bind]
  refine W_mono k fun ds S h => ?_
  obtain ⟨r, S', h1, h2⟩ := h
  rw [h1]; exact h2
theorem w_bm {f : BM} {o : Ex} {es : Exs} (k : W (de P C o false σ S) fun x S => ∃ a xs, x = .loc a ∧ S[a]? = some (.lst xs) ∧ W (des P C es σ S) fun ds S => ∃ r S', bmSem f (.loc a) ds S = some (r, S') ∧ Q r S') : W (de P C (.bm f o es) false σ S) Q := by
  simp only [de, fin_f, W_bind]
  refine W_mono k fun x S h => ?_
  obtain ⟨a, xs, rfl, h1, h2⟩ := h
  simp only [h1, W_bind]
  refine W_mono h2 fun ds S h => ?_
  obtain ⟨r, S', h1, h2⟩ := h
  rw [h1]; exact h2
theorem w_lc {own : List (Str × Nat)} {tg : Tg} {it : Ir} {ifs : Exs} {elt : Ex} (k : W (deI P C it σ S) fun w S1 => W (lcLoop w tg (wipeD σ (own.map (·.2))) S1.length (fun σ S => deT P C ifs σ S) (fun σ S => de P C elt false σ S) (wlen w S1) 0 (S1 ++ [.lst []])) fun _ S' => Q (.loc S1.length) S') : W (de P C (.lc own tg it ifs elt) false σ S) Q := by
  simp only [de, fin_f, W_bind]
  exact k
theorem w_iex {e : Ex} {Q : Walk → Sto → Prop} (k : W (de P C e false σ S) fun x S => ∃ w, walkOf x S = some w ∧ Q w S) : W (deI P C (.ex e) σ S) Q := by
  simp only [deI, W_bind]
  refine W_mono k fun x S h => ?_
  obtain ⟨w, h1, h2⟩ := h
  rw [h1]; exact h2
theorem w_rng1 {e : Ex} {Q : Walk → Sto → Prop} (k : W (de P C e false σ S) fun x S => ∃ j, x = .int j ∧ rngOk 0 j = true ∧ Q (.rng 0 j.toNat) S) : W (deI P C (.rng1 e) σ S) Q := by
  simp only [deI, W_bind]
  refine W_mono k fun x S h => ?_
  obtain ⟨j, rfl, h1, h2⟩ := h
  simp only [h1, if_true]; exact h2
theorem w_rng2 {e e' : Ex} {Q : Walk → Sto → Prop} (k : W (de P C e false σ S) fun x S => W (de P C e' false σ S) fun y S => ∃ i j, x = .int i ∧ y = .int j ∧ rngOk i j = true ∧ Q (.rng i (j - i).toNat) S) : W (deI P C (.rng2 e e') σ S) Q := by
  simp only [deI, W_bind]
  refine W_mono k fun x S h => W_mono h fun y S h => ?_
  obtain ⟨i, j, rfl, rfl, h1, h2⟩ := h
  simp only [h1, if_true]; exact h2
theorem w_enum {e : Ex} {Q : Walk → Sto → Prop} (k : W (de P C e false σ S) fun x S => ∃ w, walkL x S = some w ∧ Q (.en w) S) : W (deI P C (.enum e) σ S) Q := by
  simp only [deI, W_bind]
  refine W_mono k fun x S h => ?_
  obtain ⟨w, h1, h2⟩ := h
  rw [h1]; exact h2
theorem w_T0 {Q : Bool → Sto → Prop} (k : Q true S) : W (deT P C .nil σ S) Q := by simp only [deT]; exact k
theorem w_T1 {e : Ex} {Q : Bool → Sto → Prop} (k : W (de P C e true σ S) fun d S => ∃ t, d = .bl t ∧ Q t S) : W (deT P C (.cons e .nil) σ S) Q := by
  simp only [deT, W_tst]
  refine W_mono k fun x S h => ?_
  obtain ⟨t, rfl, h⟩ := h
  exact h
def isFin : Ex → Bool
  | .cmp .. => false | .chn .. => false | .and_ .. => false | .or_ .. => false | .not_ .. => false | .ite .. => false | _ => true
theorem w_tru {e : Ex} (h : isFin e = true) (k : W (de P C e false σ S) fun d S => ∃ t, truSem d S = some t ∧ Q (.bl t) S) : W (de P C e true σ S) Q := by
  have e1 : de P C e true σ S = fin true (de P C e false σ S) := by
    cases e <;> first | (simp only [de] <;> rfl) | (simp [isFin] at h)
  rw [e1, fin_t, W_bind]
  refine W_mono k fun x S h => ?_
  obtain ⟨t, h1, h2⟩ := h
  rw [h1]; exact h2
end
section
variable {P : Pg} {C : Nat → List D → Sto → Out D} {σ : Sl} {S : Sto} {Q : Po} {ss : Sms}
theorem z_nil (k : Q.nx σ S) : WS (dSs P C .nil σ S) Q := by simp only [dSs]; exact k
theorem z_set {i : Nat} {e : Ex} (k : W (de P C e false σ S) fun d S => WS (dSs P C ss (σ.set i (some d)) S) Q) : WS (dSs P C (.cons (.set i e) ss) σ S) Q := by
  simp only [dSs, dS, WS_nxt, WS_thn]
  exact k
theorem z_setT {is : List Nat} {e : Ex} (k : W (de P C e false σ S) fun d S => ∃ σ', setTg (.tp is) d σ = some σ' ∧ WS (dSs P C ss σ' S) Q) : WS (dSs P C (.cons (.setT is e) ss) σ S) Q := by
  simp only [dSs, dS, WS_nxt, WS_thn]
  refine W_mono k fun d S h => ?_
  obtain ⟨σ', h1, h2⟩ := h
  rw [h1]; exact h2
theorem z_par {i j : Nat} {a b : Ex} (k : W (de P C a false σ S) fun x S => W (de P C b false σ S) fun y S => WS (dSs P C ss ((σ.set i (some x)).set j (some y)) S) Q) : WS (dSs P C (.cons (.par i j a b) ss) σ S) Q := by
  simp only [dSs, dS, WS_nxt, WS_thn]
  exact k
theorem z_fld {c : Nat} {o : Ex} {f : Str} {e : Ex} (k : W (de P C e false σ S) fun d S => W (de P C o false σ S) fun x S => ∃ S', putSem x c f d S = some S' ∧ WS (dSs P C ss σ S') Q) : WS (dSs P C (.cons (.fld c o f e) ss) σ S) Q := by
  simp only [dSs, dS, WS_nxt, WS_thn]
  refine W_mono k fun d S h => W_mono h fun x S h => ?_
  obtain ⟨σ', h1, h2⟩ := h
  rw [h1]; exact h2
theorem z_sub {o i e : Ex} (k : W (de P C e false σ S) fun d S => W (de P C o false σ S) fun x S => W (de P C i false σ S) fun y S => ∃ S', setSem x y d S = some S' ∧ WS (dSs P C ss σ S') Q) : WS (dSs P C (.cons (.sub o i e) ss) σ S) Q := by
  simp only [dSs, dS, WS_nxt, WS_thn]
  refine W_mono k fun d S h => W_mono h fun x S h => W_mono h fun y S h => ?_
  obtain ⟨σ', h1, h2⟩ := h
  rw [h1]; exact h2
theorem z_augA {i : Nat} {a : Int} {e : Ex} (h : σ[i]? = some (some (.int a))) (k : W (de P C e false σ S) fun d S => ∃ b, d = .int b ∧ WS (dSs P C ss (σ.set i (some (.int (a + b)))) S) Q) : WS (dSs P C (.cons (.aug i .Add e) ss) σ S) Q := by
  simp only [dSs, dS, h, WS_nxt, WS_thn]
  refine W_mono k fun d S h => ?_
  obtain ⟨b, rfl, h⟩ := h
  exact h
theorem z_augS {i : Nat} {a : Int} {e : Ex} (h : σ[i]? = some (some (.int a))) (k : W (de P C e false σ S) fun d S => ∃ b, d = .int b ∧ WS (dSs P C ss (σ.set i (some (.int (a - b)))) S) Q) : WS (dSs P C (.cons (.aug i .Sub e) ss) σ S) Q := by
  simp only [dSs, dS, h, WS_nxt, WS_thn]
  refine W_mono k fun d S h => ?_
  obtain ⟨b, rfl, h⟩ := h
  exact h
theorem z_exp {e : Ex} (k : W (de P C e false σ S) fun _ S => WS (dSs P C ss σ S) Q) : WS (dSs P C (.cons (.exp e) ss) σ S) Q := by
  simp only [dSs, dS, WS_nxt, WS_thn]
  exact k
theorem z_ret {e : Ex} (k : W (de P C e false σ S) Q.rt) : WS (dSs P C (.cons (.ret e) ss) σ S) Q := by
  simp only [dSs, dS, WS_nxt, WS_thn]
  exact k
theorem z_retN (k : Q.rt .non S) : WS (dSs P C (.cons .retN ss) σ S) Q := by
  simp only [dSs, dS, WS_nxt]
  exact k
theorem z_ite {c : Ex} {a b : Sms} (k : W (de P C c true σ S) fun d S => ∃ t, d = .bl t ∧ (t = true → WS (dSs P C a σ S) { Q with nx := fun σ S => WS (dSs P C ss σ S) Q }) ∧ (t = false → WS (dSs P C b σ S) { Q with nx := fun σ S => WS (dSs P C ss σ S) Q })) : WS (dSs P C (.cons (.ite c a b) ss) σ S) Q := by
  simp only [dSs, dS, WS_nxt, WS_thn, W_tst]
  refine W_mono k fun x S h => ?_
  obtain ⟨t, rfl, h2, h3⟩ := h
  cases t with
  | false => exact h3 rfl
  | true => exact h2 rfl
theorem z_whl {c : Ex} {b : Sms} (k : WS (whl (fun σ S => tstO (de P C c true σ S)) (fun σ S => dSs P C b σ S) σ S) { Q with nx := fun σ S => WS (dSs P C ss σ S) Q }) : WS (dSs P C (.cons (.whl c b) ss) σ S) Q := by
  simp only [dSs, dS, WS_nxt]
  exact k
theorem z_for {tg : Tg} {it : Ir} {b : Sms} (k : W (deI P C it σ S) fun w S => WS (forN w tg (fun σ S => dSs P C b σ S) (wlen w S) 0 σ S) { Q with nx := fun σ S => WS (dSs P C ss σ S) Q }) : WS (dSs P C (.cons (.for_ tg it b) ss) σ S) Q := by
  simp only [dSs, dS, WS_nxt, WS_thn]
  exact k
theorem z_pass (k : WS (dSs P C ss σ S) Q) : WS (dSs P C (.cons .pass ss) σ S) Q := by
  simp only [dSs, dS, WS_nxt]
  exact k
theorem z_brk (k : Q.bk σ S) : WS (dSs P C (.cons .brk ss) σ S) Q := by
  simp only [dSs, dS, WS_nxt]
  exact k
theorem z_cnt (k : Q.ct σ S) : WS (dSs P C (.cons .cnt ss) σ S) Q := by
  simp only [dSs, dS, WS_nxt]
  exact k
end
end DI

set_option Elab.async false
set_option linter.all false
set_option maxRecDepth 100000
set_option maxHeartbeats 4000000
/-! Equality of plain data. -/
namespace DI
open L2 PySem PySem.Spec PyProof.Rows
def plD : Nat → D → Bool
  | 0, _ => false
  | _ + 1, .non => true
  | _ + 1, .int _ => true
  | _ + 1, .str x => PyData.canLay0 (.str x)
  | n + 1, .tup xs => xs.all (plD n)
  | _ + 1, _ => false
def toQ : Nat → D → PyData
  | 0, _ => .none
  | _ + 1, .int i => .int i
  | _ + 1, .str x => .str x
  | n + 1, .tup xs => .tuple (xs.map (toQ n))
  | _ + 1, _ => .none
theorem toP_all {S : Sto} {n : Nat} (ih : ∀ x, plD n x = true → toP S n x = some (toQ n x)) : ∀ xs : List D, xs.all (plD n) = true → xs.mapM (toP S n) = some (xs.map (toQ n))
  | [], _ => rfl
  | x :: xs, h => by
    simp only [List.all_cons, Bool.and_eq_true] at h
    rw [List.mapM_cons, ih x h.1, toP_all ih xs h.2]
    rfl
theorem toP_pl {S : Sto} : ∀ n x, plD n x = true → toP S n x = some (toQ n x) := by
  intro n
  induction n with
  | zero => intro x h; simp [plD] at h
  | succ n ih =>
    intro x h
    cases x with
    | non => rfl
    | int i => rfl
    | str z => rfl
    | tup xs =>
      simp only [plD] at h
      simp only [toP, toP_all ih xs h, toQ, Option.map_some]
    | _ => simp [plD] at h
theorem lay_all {n : Nat} (ih : ∀ x, plD n x = true → PyData.canLay0 (toQ n x) = true) : ∀ xs : List D, xs.all (plD n) = true → PyData.canLayAll0 (xs.map (toQ n)) = true
  | [], _ => by simp [PyData.canLayAll0]
  | x :: xs, h => by
    simp only [List.all_cons, Bool.and_eq_true] at h
    simp only [List.map_cons, PyData.canLayAll0, ih x h.1, lay_all ih xs h.2, Bool.and_self]
theorem lay_pl : ∀ n x, plD n x = true → PyData.canLay0 (toQ n x) = true := by
  intro n
  induction n with
  | zero => intro x h; simp [plD] at h
  | succ n ih =>
    intro x h
    cases x with
    | non => simp [toQ, PyData.canLay0]
    | int i => simp [toQ, PyData.canLay0]
    | str z => simpa [toQ, plD] using h
    | tup xs =>
      simp only [plD] at h
      simp only [toQ, PyData.canLay0, lay_all ih xs h]
    | _ => simp [plD] at h
theorem dep_all {n : Nat} (ih : ∀ x, PyData.depth (toQ n x) ≤ n) : ∀ xs : List D, PyData.depthAll (xs.map (toQ n)) ≤ n
  | [] => by simp [PyData.depthAll]
  | x :: xs => by
    simp only [List.map_cons, PyData.depthAll]
    exact Nat.max_le.mpr ⟨ih x, dep_all ih xs⟩
theorem dep_pl : ∀ n x, PyData.depth (toQ n x) ≤ n := by
  intro n
  induction n with
  | zero => intro x; simp [toQ, PyData.depth]
  | succ n ih =>
    intro x
    cases x with
    | tup xs =>
      simp only [toQ, PyData.depth]
      have := dep_all ih xs
      omega
    | _ => simp [toQ, PyData.depth]
theorem eqv_all {n : Nat} (ih : ∀ x y, plD n x = true → plD n y = true → (PyData.eqv (toQ n x) (toQ n y) = true ↔ x = y)) : ∀ xs ys : List D, xs.all (plD n) = true → ys.all (plD n) = true → (PyData.eqvAll (xs.map (toQ n)) (ys.map (toQ n)) = true ↔ xs = ys)
  | [], [], _, _ => by simp [PyData.eqvAll]
  | [], _ :: _, _, _ => by simp [PyData.eqvAll]
  | _ :: _, [], _, _ => by simp [PyData.eqvAll]
  | x :: xs, y :: ys, h, g => by
    simp only [List.all_cons, Bool.and_eq_true] at h g
    simp only [List.map_cons, PyData.eqvAll, Bool.and_eq_true, ih x y h.1 g.1, eqv_all ih xs ys h.2 g.2, List.cons.injEq]
theorem eqv_pl : ∀ n x y, plD n x = true → plD n y = true → (PyData.eqv (toQ n x) (toQ n y) = true ↔ x = y) := by
  intro n
  induction n with
  | zero => intro x y h; simp [plD] at h
  | succ n ih =>
    intro x y h g
    cases x <;> (try (simp [plD] at h; done)) <;> cases y <;> (try (simp [plD] at g; done)) <;> simp only [toQ, PyData.eqv, reduceCtorEq, iff_false, Bool.false_eq_true, not_false_eq_true, beq_iff_eq, D.int.injEq, D.str.injEq, true_iff, iff_true]
    simp only [plD] at h g
    rw [eqv_all ih _ _ h g, D.tup.injEq]
/-- equality of plain data -/
theorem eq_pl {S : Sto} {x y : D} (hx : plD 32 x = true) (hy : plD 32 y = true) : ∃ t, eqSem x y S = some t ∧ (t = true ↔ x = y) := by
  refine ⟨PyData.eqv (toQ 32 x) (toQ 32 y), ?_, eqv_pl 32 x y hx hy⟩
  unfold eqSem
  rw [toP_pl 32 x hx, toP_pl 32 y hy]
  have a : ∀ x, plD 32 x = true → SeqAt.shaped (toQ 32 x) = true := fun x h => by
    unfold SeqAt.shaped
    rw [lay_pl 32 x h, Bool.true_and]
    have := dep_pl 32 x
    exact decide_eq_true (by omega)
  simp only [a x hx, a y hy, and_self, if_true]
theorem eqD_int {S : Sto} {i j : Int} : eqSem (.int i) (.int j) S = some (i == j) := by
  obtain ⟨t, h1, h2⟩ := eq_pl (S := S) (x := .int i) (y := .int j) rfl rfl
  rw [h1]
  congr 1
  rw [Bool.eq_iff_iff, h2, D.int.injEq, beq_iff_eq]
theorem sz {n : Nat} (h : n ≤ 1000000) : n ≤ sizeLine := Nat.le_trans h (by decide)
theorem ix_loc {S : Sto} {Q : D → Prop} {a : Nat} {xs : List D} {k : Int} {d : D} (h : S[a]? = some (.lst xs)) (h2 : atI xs k = some d) (q : Q d) : ∃ d, itemSem (.loc a) (.int k) S = some d ∧ Q d := ⟨d, by simp only [itemSem, h, h2], q⟩
theorem set_loc {S : Sto} {Q : Sto → Prop} {a : Nat} {xs : List D} {k : Int} {j : Nat} {d : D} (h : S[a]? = some (.lst xs)) (h2 : ixN xs.length k = some j) (q : Q (S.set a (.lst (xs.set j d)))) : ∃ S', setSem (.loc a) (.int k) d S = some S' ∧ Q S' := ⟨_, by simp only [setSem, h, h2, Option.map_some], q⟩
theorem ixN_nat {n k : Nat} (h : k < n) : ixN n (k : Int) = some k := by
  unfold ixN
  rw [if_pos (Int.natCast_nonneg k), if_pos (by omega), Int.toNat_natCast]
theorem atI_nat {xs : List D} {k : Nat} {d : D} (h : xs[k]? = some d) : atI xs (k : Int) = some d := by
  unfold atI
  rw [ixN_nat (List.getElem?_eq_some_iff.mp h).1]
  exact h
theorem atI_of {xs : List D} {x : Int} (h0 : 0 ≤ x) (h1 : x < xs.length) : ∃ d, xs[x.toNat]? = some d ∧ atI xs x = some d := by
  obtain ⟨k, rfl⟩ := Int.eq_ofNat_of_zero_le h0
  have hk : k < xs.length := by omega
  refine ⟨xs[k], ?_, atI_nat (List.getElem?_eq_getElem hk)⟩
  rw [Int.toNat_natCast]
  exact List.getElem?_eq_getElem hk
end DI

set_option Elab.async false
set_option linter.all false
set_option maxRecDepth 100000
set_option maxHeartbeats 4000000
/-! Comprehensions whose tests and items change nothing; lists of ints. -/
namespace DI
open L2 PySem PySem.Spec PyProof.Rows
theorem intsD_map : ∀ l : List Int, intsD (l.map D.int) = some l
  | [] => rfl
  | i :: r => by
    show (intsD (r.map D.int)).map (i :: ·) = _
    rw [intsD_map r]
    rfl
section
variable {P : Pg} {C : Nat → List D → Sto → Out D}
theorem lcLoop_pure {w : Walk} {tg : Tg} {σ : Sl} {S : Sto} {test : Sl → Sto → Out Bool} {elt : Sl → Sto → Out D} {xs : List D} (f : D → Option D) (hw : ∀ i acc, wgo w i (S ++ [Cell.lst acc]) = some xs[i]?) (hlen : xs.length ≤ 1000000)
    (step : ∀ d, d ∈ xs → ∀ acc : List D, ∃ σ', setTg tg d σ = some σ' ∧ W (test σ' (S ++ [Cell.lst acc])) fun t S1 => S1 = S ++ [Cell.lst acc] ∧ (t = true → W (elt σ' (S ++ [Cell.lst acc])) fun v S2 => S2 = S ++ [Cell.lst acc] ∧ f d = some v) ∧ (t = false → f d = none)) :
    W (lcLoop w tg σ S.length test elt xs.length 0 (S ++ [Cell.lst []])) fun _ S' => S' = S ++ [Cell.lst (xs.filterMap f)] := by
  refine W_lcLoop (J := fun i S' => i ≤ xs.length ∧ S' = S ++ [Cell.lst ((xs.take i).filterMap f)]) (k0 := xs.length) ?_ ?_ ?_ xs.length 0 _ (by omega) ⟨by omega, by simp⟩
  · rintro S' ⟨_, rfl⟩
    rw [hw]
    simp
  · rintro i S' hi ⟨_, rfl⟩
    obtain ⟨σ', h1, h2⟩ := step xs[i] (List.getElem_mem hi) ((xs.take i).filterMap f)
    refine ⟨xs[i], σ', ?_, h1, W_mono h2 ?_⟩
    · rw [hw, List.getElem?_eq_getElem hi]
    · rintro t S1 ⟨rfl, h3, h4⟩
      have et : xs.take (i + 1) = xs.take i ++ [xs[i]] := by simp
      cases t with
      | false =>
        refine ⟨by omega, ?_⟩
        rw [et, List.filterMap_append]
        simp [h4 rfl]
      | true =>
        refine W_mono (h3 rfl) ?_
        rintro v S2 ⟨rfl, h5⟩
        refine ⟨(xs.take i).filterMap f, get_push, ?_, by omega, ?_⟩
        · have := List.length_filterMap_le f (xs.take i)
          have h7 : (xs.take i).length ≤ i := by simp; omega
          exact Nat.lt_of_lt_of_le (Nat.lt_of_le_of_lt (Nat.le_trans this h7) (Nat.lt_of_lt_of_le hi hlen)) (by decide)
        · rw [et, List.filterMap_append]
          simp [h5]
  · rintro S' ⟨_, rfl⟩
    simp
theorem li_walk {S : Sto} {a : Nat} {xs : List D} (h : S[a]? = some (.lst xs)) (i : Nat) (acc : List D) : wgo (.li a) i (S ++ [Cell.lst acc]) = some xs[i]? := by
  simp only [wgo, get_pushl h]
theorem rng_walk {S : Sto} {n : Nat} (i : Nat) (acc : List D) : wgo (.rng 0 n) i (S ++ [Cell.lst acc]) = some ((List.range n).map (fun k : Nat => D.int k))[i]? := by
  simp only [wgo, List.getElem?_map, List.getElem?_range']
  by_cases h : i < n
  · simp [h]
  · simp [h]
end
theorem foldl_max : ∀ (l : List Int) (a : Int), a ≤ l.foldl max a ∧ ∀ x ∈ l, x ≤ l.foldl max a
  | [], a => ⟨Int.le_refl _, by simp⟩
  | y :: l, a => by
    have h := foldl_max l (max a y)
    refine ⟨?_, fun x hx => ?_⟩
    · simp only [List.foldl_cons]; have := h.1; omega
    · simp only [List.foldl_cons]
      rcases List.mem_cons.mp hx with rfl | hx
      · have := h.1; omega
      · exact h.2 x hx
theorem foldl_min : ∀ (l : List Int) (a : Int), l.foldl min a ≤ a ∧ (∀ x ∈ l, l.foldl min a ≤ x) ∧ (l.foldl min a = a ∨ l.foldl min a ∈ l)
  | [], a => ⟨Int.le_refl _, by simp, .inl rfl⟩
  | y :: l, a => by
    have h := foldl_min l (min a y)
    simp only [List.foldl_cons]
    refine ⟨?_, fun x hx => ?_, ?_⟩
    · have := h.1; omega
    · rcases List.mem_cons.mp hx with rfl | hx
      · have := h.1; omega
      · exact h.2.1 x hx
    · rcases h.2.2 with h3 | h3
      · rw [h3]
        by_cases c : a ≤ y
        · left; omega
        · right; have : min a y = y := by omega
          rw [this]; simp
      · right; exact List.mem_cons_of_mem _ h3
/-! ### what changes nothing -/
def V (P : Pg) (C : Nat → List D → Sto → Out D) (e : Ex) (σ : Sl) (S : Sto) (v : D) : Prop := W (de P C e false σ S) fun d S' => S' = S ∧ d = v
def T (P : Pg) (C : Nat → List D → Sto → Out D) (e : Ex) (σ : Sl) (S : Sto) (p : Bool) : Prop := W (de P C e true σ S) fun d S' => S' = S ∧ d = .bl p
section
variable {P : Pg} {C : Nat → List D → Sto → Out D} {σ : Sl} {S : Sto} {a c : Ex} {x y z : D} {p q : Bool}
theorem V_var {i : Nat} (h : σ[i]? = some (some x)) : V P C (.var i) σ S x := w_var ⟨_, h, rfl, rfl⟩
theorem V_int {i : Int} : V P C (.cst (.int i)) σ S (.int i) := w_int ⟨rfl, rfl⟩
theorem V_str {i : Str} : V P C (.cst (.str i)) σ S (.str i) := w_str ⟨rfl, rfl⟩
theorem V_non : V P C (.cst .non) σ S .non := w_non ⟨rfl, rfl⟩
theorem V_bl {i : Bool} : V P C (.cst (.bl i)) σ S (.bl i) := w_blc ⟨rfl, rfl⟩
theorem V_bty {n : String} : V P C (.bty n) σ S (.ty n) := w_bty ⟨rfl, rfl⟩
theorem V_use {e : Ex} {Q : D → Sto → Prop} (h : V P C e σ S x) (k : Q x S) : W (de P C e false σ S) Q := W_mono h fun d S' ⟨e1, e2⟩ => by rw [e1, e2]; exact k
theorem T_use {e : Ex} {Q : D → Sto → Prop} (h : T P C e σ S p) (k : Q (.bl p) S) : W (de P C e true σ S) Q := W_mono h fun d S' ⟨e1, e2⟩ => by rw [e1, e2]; exact k
theorem V_bin {o : Operator} (ha : V P C a σ S x) (hc : V P C c σ S y) (h : opSem o x y S = some (z, S)) : V P C (.bin o a c) σ S z := w_bin (V_use ha (V_use hc (by rw [h]; exact ⟨rfl, rfl⟩)))
theorem V_ix {o i : Ex} (ha : V P C o σ S x) (hc : V P C i σ S y) (h : itemSem x y S = some z) : V P C (.ix o i) σ S z := w_ix (V_use ha (V_use hc ⟨_, h, rfl, rfl⟩))
theorem V_fld {n : Nat} {f : Str} (ha : V P C a σ S x) (h : fldSem x n f S = some z) : V P C (.fld n a f) σ S z := w_fld (V_use ha ⟨_, h, rfl, rfl⟩)
theorem V_bi1 {f : BI} (ha : V P C a σ S x) (h : biSem f [x] S = some (z, S)) : V P C (.bi f (.cons a .nil)) σ S z := w_bi (w_cons (V_use ha (w_nil ⟨_, _, h, rfl, rfl⟩)))
theorem V_bi2 {f : BI} (ha : V P C a σ S x) (hc : V P C c σ S y) (h : biSem f [x, y] S = some (z, S)) : V P C (.bi f (.cons a (.cons c .nil))) σ S z := w_bi (w_cons (V_use ha (w_cons (V_use hc (w_nil ⟨_, _, h, rfl, rfl⟩)))))
theorem V_neg {i : Int} (ha : V P C a σ S (.int i)) : V P C (.neg a) σ S (.int (-i)) := w_neg (V_use ha ⟨_, rfl, rfl, rfl⟩)
theorem V_cmp {o : CmpOp} (ha : V P C a σ S x) (hc : V P C c σ S y) (h : cmpSem o x y S = some p) : V P C (.cmp o a c) σ S (.bl p) := w_cmp (V_use ha (V_use hc ⟨_, h, rfl, rfl⟩))
theorem T_cmp {o : CmpOp} (ha : V P C a σ S x) (hc : V P C c σ S y) (h : cmpSem o x y S = some p) : T P C (.cmp o a c) σ S p := w_cmp (V_use ha (V_use hc ⟨_, h, rfl, rfl⟩))
theorem T_tru (h : isFin a = true) (ha : V P C a σ S x) (ht : truSem x S = some p) : T P C a σ S p := w_tru h (V_use ha ⟨_, ht, rfl, rfl⟩)
theorem T_and (ha : T P C a σ S p) (hc : p = true → T P C c σ S q) : T P C (.and_ a c) σ S (p && q) := w_and (T_use ha ⟨_, rfl, fun h => by subst h; exact hc rfl, fun h => by subst h; exact ⟨rfl, rfl⟩⟩)
theorem T_or (ha : T P C a σ S p) (hc : p = false → T P C c σ S q) : T P C (.or_ a c) σ S (p || q) := w_or (T_use ha ⟨_, rfl, fun h => by subst h; exact ⟨rfl, rfl⟩, fun h => by subst h; exact hc rfl⟩)
theorem T_not (ha : T P C a σ S p) : T P C (.not_ a) σ S (!p) := w_not (T_use ha ⟨_, rfl, rfl, rfl⟩)
theorem T_cast (h : T P C a σ S p) (e : p = q) : T P C a σ S q := e ▸ h
theorem z_iteT {Q : Po} {ss a b : Sms} (h : T P C c σ S p) (h1 : p = true → WS (dSs P C a σ S) { Q with nx := fun σ S => WS (dSs P C ss σ S) Q }) (h2 : p = false → WS (dSs P C b σ S) { Q with nx := fun σ S => WS (dSs P C ss σ S) Q }) : WS (dSs P C (.cons (.ite c a b) ss) σ S) Q := z_ite (T_use h ⟨_, rfl, h1, h2⟩)
theorem w_iteT {Q : D → Sto → Prop} {t : Ex} {b : Bool} (h : T P C t σ S p) (h1 : p = true → W (de P C a b σ S) Q) (h2 : p = false → W (de P C c b σ S) Q) : W (de P C (.ite t a c) b σ S) Q := w_ite (T_use h ⟨_, rfl, h1, h2⟩)
end
theorem bi_max1 {S : Sto} {a : Nat} {st : Int} {l : List Int} (h : S[a]? = some (.lst (D.int st :: l.map D.int))) : biSem .max1 [.loc a] S = some (.int (l.foldl max st), S) := by
  have e : intsD (D.int st :: l.map D.int) = some (st :: l) := by rw [← List.map_cons, intsD_map]
  simp only [biSem, listD, h, e, maxL, Option.bind, Option.map]
theorem bi_min1 {S : Sto} {a : Nat} {st : Int} {l : List Int} (h : S[a]? = some (.lst (D.int st :: l.map D.int))) : biSem .min1 [.loc a] S = some (.int (l.foldl min st), S) := by
  have e : intsD (D.int st :: l.map D.int) = some (st :: l) := by rw [← List.map_cons, intsD_map]
  simp only [biSem, listD, h, e, minL, Option.bind, Option.map]
end DI

set_option Elab.async false
set_option linter.all false
set_option maxRecDepth 100000
set_option maxHeartbeats 4000000
/-! Comprehensions over a list of any kind, by a test and an item; equality of lists; walks. -/
namespace DI
open L2 PySem PySem.Spec PyProof.Rows
def IsW (w : Walk) (S : Sto) (xs : List D) : Prop := (∀ i acc, wgo w i (S ++ [Cell.lst acc]) = some xs[i]?) ∧ wlen w S = xs.length ∧ xs.length ≤ 1000000
theorem IsW.li {S : Sto} {a : Nat} {xs : List D} (h : S[a]? = some (.lst xs)) (hl : xs.length ≤ 1000000) : IsW (.li a) S xs := ⟨fun i acc => li_walk h i acc, by simp only [wlen, h], hl⟩
theorem IsW.vs {S : Sto} {xs : List D} (hl : xs.length ≤ 1000000) : IsW (.vs xs) S xs := ⟨fun i acc => rfl, rfl, hl⟩
theorem IsW.rng {S : Sto} {n : Nat} (hl : n ≤ 1000000) : IsW (.rng 0 n) S ((List.range n).map fun k : Nat => D.int k) := ⟨fun i acc => rng_walk i acc, by simp only [wlen, List.length_map, List.length_range], by simpa using hl⟩
section
variable {P : Pg} {C : Nat → List D → Sto → Out D} {σ : Sl} {S : Sto}
theorem lc_pure {α : Type} {xs : List α} (rd : α → D) (p : α → Bool) (g : α → D) {own : List (Str × Nat)} {tg : Tg} {it : Ir} {ifs : Exs} {elt : Ex} {Q : D → Sto → Prop}
    (hit : W (deI P C it σ S) fun w S1 => IsW w S1 (xs.map rd) ∧ (∀ x ∈ xs, ∀ acc, ∃ σ', setTg tg (rd x) (wipeD σ (own.map (·.2))) = some σ' ∧ W (deT P C ifs σ' (S1 ++ [Cell.lst acc])) (fun t S2 => S2 = S1 ++ [Cell.lst acc] ∧ t = p x) ∧ (p x = true → V P C elt σ' (S1 ++ [Cell.lst acc]) (g x))) ∧
      Q (.loc S1.length) (S1 ++ [Cell.lst ((xs.filter p).map g)])) : W (de P C (.lc own tg it ifs elt) false σ S) Q := by
  refine w_lc (W_mono hit fun w S1 ⟨⟨hw1, hw2, hw3⟩, hs, hq⟩ => ?_)
  rw [hw2, List.length_map]
  rw [List.length_map] at hw3
  refine W_lcLoop (J := fun i S' => i ≤ xs.length ∧ S' = S1 ++ [Cell.lst (((xs.take i).filter p).map g)]) (k0 := xs.length) ?_ ?_ ?_ xs.length 0 _ (by omega) ⟨by omega, by simp⟩
  · rintro S' ⟨_, rfl⟩
    rw [hw1]
    simp
  · rintro i S' hi ⟨_, rfl⟩
    obtain ⟨σ', h1, h2, h3⟩ := hs xs[i] (List.getElem_mem hi) (((xs.take i).filter p).map g)
    refine ⟨rd xs[i], σ', ?_, h1, W_mono h2 ?_⟩
    · rw [hw1, List.getElem?_map, List.getElem?_eq_getElem hi]
      rfl
    · rintro t S2 ⟨rfl, rfl⟩
      have et : xs.take (i + 1) = xs.take i ++ [xs[i]] := by simp
      cases hp : p xs[i] with
      | false =>
        show if false = true then _ else _
        rw [if_neg (by decide)]
        refine ⟨by omega, ?_⟩
        rw [et, List.filter_append]
        simp [hp]
      | true =>
        show if true = true then _ else _
        rw [if_pos rfl]
        refine W_mono (h3 hp) ?_
        rintro v S3 ⟨rfl, rfl⟩
        refine ⟨((xs.take i).filter p).map g, get_push, ?_, by omega, ?_⟩
        · have h6 := List.length_filter_le p (xs.take i)
          have h7 : (xs.take i).length ≤ i := by simp; omega
          rw [List.length_map]
          exact Nat.lt_of_lt_of_le (Nat.lt_of_le_of_lt (Nat.le_trans h6 h7) (Nat.lt_of_lt_of_le hi hw3)) (by decide)
        · rw [et, List.filter_append]
          simp [hp]
  · rintro S' ⟨_, rfl⟩
    rw [List.take_length]
    exact hq
theorem dT1 {e : Ex} {p : Bool} (h : T P C e σ S p) : W (deT P C (.cons e .nil) σ S) fun t S' => S' = S ∧ t = p := w_T1 (W_mono h fun d S' ⟨e1, e2⟩ => ⟨p, e2, e1, rfl⟩)
theorem dT0 : W (deT P C .nil σ S) fun t S' => S' = S ∧ t = true := w_T0 ⟨rfl, rfl⟩
theorem lc_set {own : List (Str × Nat)} {v : Nat} {d : D} {e : own.map (·.2) = [v]} : setTg (.nm v) d (wipeD σ (own.map (·.2))) = some (σ.set v (some d)) := by
  rw [e]
  show some ((σ.set v none).set v (some d)) = _
  rw [List.set_set]
end
theorem toP_list {S : Sto} {a : Nat} {xs : List D} (h : S[a]? = some (.lst xs)) (hp : xs.all (plD 31) = true) : toP S 32 (.loc a) = some (.list (xs.map (toQ 31))) := by
  simp only [toP, h, toP_all (fun x hx => toP_pl 31 x hx) xs hp, Option.map_some]
theorem shaped_list {xs : List D} (p1 : xs.all (plD 31) = true) : SeqAt.shaped (.list (xs.map (toQ 31))) = true := by
  unfold SeqAt.shaped
  have h1 := lay_all (fun x hx => lay_pl 31 x hx) xs p1
  have h2 := dep_all (fun x => dep_pl 31 x) xs
  simp only [PyData.canLay0, h1, Bool.true_and, PyData.depth]
  exact decide_eq_true (by omega)
/-- equality of lists of plain data -/
theorem eq_lls {S : Sto} {a b : Nat} {xs ys : List D} (h1 : S[a]? = some (.lst xs)) (h2 : S[b]? = some (.lst ys)) (p1 : xs.all (plD 31) = true) (p2 : ys.all (plD 31) = true) : ∃ t, eqSem (.loc a) (.loc b) S = some t ∧ (t = true ↔ xs = ys) := by
  refine ⟨PyData.eqv (.list (xs.map (toQ 31))) (.list (ys.map (toQ 31))), ?_, ?_⟩
  · simp only [eqSem, toP_list h1 p1, toP_list h2 p2, shaped_list p1, shaped_list p2, and_self, if_true]
  · simp only [PyData.eqv]
    exact eqv_all (fun x y hx hy => eqv_pl 31 x y hx hy) xs ys p1 p2
theorem pl_ints : ∀ (l : List Int), (l.map D.int).all (plD 31) = true
  | [] => rfl
  | i :: l => by simp only [List.map_cons, List.all_cons, pl_ints l, Bool.and_true]; rfl
/-- a list of ints is not empty -/
theorem ne_nil {S : Sto} {a b : Nat} {l : List Int} (h1 : S[a]? = some (.lst (l.map D.int))) (h2 : S[b]? = some (.lst [])) : cmpSem .NotEq (.loc a) (.loc b) S = some (!l.isEmpty) := by
  obtain ⟨t, e, i⟩ := eq_lls h1 h2 (pl_ints l) rfl
  simp only [cmpSem, e, Option.map_some]
  cases l with
  | nil => rw [i.mpr rfl]; rfl
  | cons x l => cases t with
    | false => rfl
    | true => have := i.mp rfl; simp at this
theorem NE_of {x y : D} {S : Sto} {t : Bool} (h : eqSem x y S = some t) : cmpSem .NotEq x y S = some (!t) := by simp only [cmpSem, h, Option.map_some]
theorem eq_self {x : D} {S : Sto} (h : plD 32 x = true) : eqSem x x S = some true := by
  obtain ⟨t, e, i⟩ := eq_pl (S := S) h h
  rw [e, i.mpr rfl]
theorem ne_self {x : D} {S : Sto} (h : plD 32 x = true) : cmpSem .NotEq x x S = some false := NE_of (eq_self h)
section
variable {P : Pg} {C : Nat → List D → Sto → Out D} {σ : Sl} {S : Sto} {a c e : Ex} {x y z : D} {p q : Bool}
theorem T_chn {o o' : CmpOp} (ha : V P C a σ S x) (hc : V P C c σ S y) (h : cmpSem o x y S = some p) (he : p = true → V P C e σ S z) (h' : cmpSem o' y z S = some q) : T P C (.chn o o' a c e) σ S (p && q) :=
  w_chn (V_use ha (V_use hc ⟨_, h, fun hp => by subst hp; exact V_use (he rfl) ⟨_, h', rfl, rfl⟩, fun hp => by subst hp; exact ⟨rfl, rfl⟩⟩))
end
theorem walk_lst {S : Sto} {a : Nat} {xs : List D} (h : S[a]? = some (.lst xs)) : walkOf (.loc a) S = some (.li a) := by simp only [walkOf, h]
/-- a comprehension without tests, whose item may change what stands -/
theorem lc_eff {P : Pg} {C : Nat → List D → Sto → Out D} {σ : Sl} {S : Sto} {α : Type} {xs : List α} (rd : α → D) (I : Nat → List D → Sto → Prop) {own : List (Str × Nat)} {tg : Tg} {it : Ir} {elt : Ex} {Q : D → Sto → Prop}
    (hit : W (deI P C it σ S) fun w S1 => (∀ i acc S', I i acc S' → S'[S1.length]? = some (Cell.lst acc) → wgo w i S' = some (xs.map rd)[i]?) ∧ wlen w S1 = xs.length ∧ xs.length ≤ 1000000 ∧ I 0 [] (S1 ++ [Cell.lst []]) ∧
      (∀ i (h : i < xs.length) acc S', acc.length = i → I i acc S' → S'[S1.length]? = some (Cell.lst acc) → ∃ σ', setTg tg (rd xs[i]) (wipeD σ (own.map (·.2))) = some σ' ∧ W (de P C elt false σ' S') fun v S2 => S2[S1.length]? = some (Cell.lst acc) ∧ I (i + 1) (acc ++ [v]) (S2.set S1.length (Cell.lst (acc ++ [v])))) ∧
      (∀ acc S', acc.length = xs.length → I xs.length acc S' → S'[S1.length]? = some (Cell.lst acc) → Q (.loc S1.length) S')) : W (de P C (.lc own tg it .nil elt) false σ S) Q := by
  refine w_lc (W_mono hit fun w S1 ⟨hw1, hw2, hw3, h0, hs, hq⟩ => ?_)
  rw [hw2]
  refine W_lcLoop (J := fun i S' => i ≤ xs.length ∧ ∃ acc, acc.length = i ∧ I i acc S' ∧ S'[S1.length]? = some (Cell.lst acc)) (k0 := xs.length) ?_ ?_ ?_ xs.length 0 _ (by omega) ⟨by omega, [], rfl, h0, get_push⟩
  · rintro S' ⟨_, acc, h1, h2, h3⟩
    rw [hw1 _ _ _ h2 h3]
    simp
  · rintro i S' hi ⟨_, acc, h1, h2, h3⟩
    obtain ⟨σ', e1, e2⟩ := hs i hi acc S' h1 h2 h3
    refine ⟨rd xs[i], σ', ?_, e1, w_T0 ?_⟩
    · rw [hw1 _ _ _ h2 h3, List.getElem?_map, List.getElem?_eq_getElem hi]
      rfl
    · rw [if_pos rfl]
      refine W_mono e2 fun v S2 ⟨k1, k2⟩ => ⟨acc, k1, ?_, by omega, _, ?_, k2, get_set (lt_of k1)⟩
      · exact Nat.lt_of_lt_of_le (m := 1000001) (by omega) (by decide)
      · rw [List.length_append, h1]; rfl
  · rintro S' ⟨_, acc, h1, h2, h3⟩
    exact hq acc S' h1 h2 h3
theorem w_mulL {a : Nat} {k : Int} {xs : List D} {S : Sto} {Q : D → Sto → Prop} (h : S[a]? = some (.lst xs)) (h1 : -(2 ^ 63) ≤ k ∧ k < 2 ^ 63 ∧ xs.length * k.toNat ≤ sizeLine) (hk : Q (.loc S.length) (S ++ [.lst (List.replicate k.toNat xs).flatten])) : W (.of (opSem .Mult (.loc a) (.int k) S)) Q := by
  unfold opSem
  simp only [h, h1, and_self, if_true]
  exact hk
end DI

set_option Elab.async false
set_option linter.all false
set_option maxRecDepth 100000
set_option maxHeartbeats 4000000
namespace K25
open L2 DI PySem PySem.Spec PyProof.Rows
def dep : Nat := 11
def P0 : Pg := ⟨fun _ => none⟩
/-- a drawer's list -/
def StL (l : List D) : Prop := (∃ n : Int, l = [.int n]) ∨ ∃ a b c : Int, l = [.int a, .int b, .int c]
def St (S : Sto) (i : Nat) : Prop := ∃ l, S[i]? = some (.lst l) ∧ StL l
theorem St.fr {S S' : Sto} {i : Nat} {B : List Nat} (h : St S i) (f : DI.Fr B S S') (hi : i ∉ B) : St S' i := by
  obtain ⟨l, h1, h2⟩ := h
  exact ⟨l, f.get h1 hi, h2⟩
theorem St.lt {S : Sto} {i : Nat} (h : St S i) : i < S.length := by
  obtain ⟨l, h1, h2⟩ := h
  exact lt_of h1
theorem digit_b {d i : Nat} {S : Sto} {a b c base : Int} (h : S[i]? = some (.lst [.int a, .int b, .int c])) (h0 : 0 < base) (h1 : base < 1073741824) (Q : Po)
    (hQ : ∀ x a' b' c' : Int, 0 ≤ x → x < base → Q.rt (.int x) (S.set i (.lst [.int a', .int b', .int c']))) :
    WS (dSs P0 (calls P0 fs d) t_law_digit_4 [some (.loc i), some (.int base), none, none] S) Q := by
  have hl := lt_of h
  unfold t_law_digit_4
  (repeat (first | ((with_reducible refine w_var ?_); refine ⟨_, rfl, ?_⟩) | with_reducible refine z_set ?_ | with_reducible refine z_setT ?_ | with_reducible refine z_par ?_ | with_reducible refine z_fld ?_ | with_reducible refine z_sub ?_ | with_reducible refine z_exp ?_ | with_reducible refine z_ret ?_ | with_reducible refine z_retN ?_ | with_reducible refine z_ite ?_ | with_reducible refine z_whl ?_ | with_reducible refine z_for ?_ | with_reducible refine z_pass ?_ | with_reducible refine z_brk ?_ | with_reducible refine z_cnt ?_ | with_reducible refine z_nil ?_ | with_reducible refine w_bin ?_ | with_reducible refine w_int ?_ | with_reducible refine w_str ?_ | with_reducible refine w_blc ?_ | with_reducible refine w_non ?_ | with_reducible refine w_bty ?_ | with_reducible refine w_neg ?_ | with_reducible refine w_cmp ?_ | with_reducible refine w_chn ?_ | with_reducible refine w_and ?_ | with_reducible refine w_or ?_ | with_reducible refine w_not ?_ | with_reducible refine w_ite ?_ | with_reducible refine w_fld ?_ | with_reducible refine w_ix ?_ | with_reducible refine w_sl ?_ | with_reducible refine w_no ?_ | with_reducible refine w_so ?_ | with_reducible refine w_nil ?_ | with_reducible refine w_cons ?_ | with_reducible refine w_tup ?_ | with_reducible refine w_lst ?_ | with_reducible refine w_cal ?_ | with_reducible refine w_mk ?_ | with_reducible refine w_mth ?_ | with_reducible refine w_bi ?_ | with_reducible refine w_bm ?_ | with_reducible refine w_lc ?_ | with_reducible refine w_iex ?_ | with_reducible refine w_rng1 ?_ | with_reducible refine w_rng2 ?_ | with_reducible refine w_enum ?_ | with_reducible refine w_T0 ?_ | with_reducible refine w_T1 ?_ | with_reducible refine w_add ?_ | with_reducible refine w_sub ?_ | ((with_reducible refine w_tru ?_ ?_); exact rfl)))
  refine ix_loc h (by rfl) ?_
  (repeat (first | ((with_reducible refine w_var ?_); refine ⟨_, rfl, ?_⟩) | with_reducible refine z_set ?_ | with_reducible refine z_setT ?_ | with_reducible refine z_par ?_ | with_reducible refine z_fld ?_ | with_reducible refine z_sub ?_ | with_reducible refine z_exp ?_ | with_reducible refine z_ret ?_ | with_reducible refine z_retN ?_ | with_reducible refine z_ite ?_ | with_reducible refine z_whl ?_ | with_reducible refine z_for ?_ | with_reducible refine z_pass ?_ | with_reducible refine z_brk ?_ | with_reducible refine z_cnt ?_ | with_reducible refine z_nil ?_ | with_reducible refine w_bin ?_ | with_reducible refine w_int ?_ | with_reducible refine w_str ?_ | with_reducible refine w_blc ?_ | with_reducible refine w_non ?_ | with_reducible refine w_bty ?_ | with_reducible refine w_neg ?_ | with_reducible refine w_cmp ?_ | with_reducible refine w_chn ?_ | with_reducible refine w_and ?_ | with_reducible refine w_or ?_ | with_reducible refine w_not ?_ | with_reducible refine w_ite ?_ | with_reducible refine w_fld ?_ | with_reducible refine w_ix ?_ | with_reducible refine w_sl ?_ | with_reducible refine w_no ?_ | with_reducible refine w_so ?_ | with_reducible refine w_nil ?_ | with_reducible refine w_cons ?_ | with_reducible refine w_tup ?_ | with_reducible refine w_lst ?_ | with_reducible refine w_cal ?_ | with_reducible refine w_mk ?_ | with_reducible refine w_mth ?_ | with_reducible refine w_bi ?_ | with_reducible refine w_bm ?_ | with_reducible refine w_lc ?_ | with_reducible refine w_iex ?_ | with_reducible refine w_rng1 ?_ | with_reducible refine w_rng2 ?_ | with_reducible refine w_enum ?_ | with_reducible refine w_T0 ?_ | with_reducible refine w_T1 ?_ | with_reducible refine w_add ?_ | with_reducible refine w_sub ?_ | ((with_reducible refine w_tru ?_ ?_); exact rfl)))
  refine ⟨_, rfl, _, rfl, fun _ => ?_, fun _ => ?_⟩
  · unfold t_law_digit_2
    (repeat (first | ((with_reducible refine w_var ?_); refine ⟨_, rfl, ?_⟩) | with_reducible refine z_set ?_ | with_reducible refine z_setT ?_ | with_reducible refine z_par ?_ | with_reducible refine z_fld ?_ | with_reducible refine z_sub ?_ | with_reducible refine z_exp ?_ | with_reducible refine z_ret ?_ | with_reducible refine z_retN ?_ | with_reducible refine z_ite ?_ | with_reducible refine z_whl ?_ | with_reducible refine z_for ?_ | with_reducible refine z_pass ?_ | with_reducible refine z_brk ?_ | with_reducible refine z_cnt ?_ | with_reducible refine z_nil ?_ | with_reducible refine w_bin ?_ | with_reducible refine w_int ?_ | with_reducible refine w_str ?_ | with_reducible refine w_blc ?_ | with_reducible refine w_non ?_ | with_reducible refine w_bty ?_ | with_reducible refine w_neg ?_ | with_reducible refine w_cmp ?_ | with_reducible refine w_chn ?_ | with_reducible refine w_and ?_ | with_reducible refine w_or ?_ | with_reducible refine w_not ?_ | with_reducible refine w_ite ?_ | with_reducible refine w_fld ?_ | with_reducible refine w_ix ?_ | with_reducible refine w_sl ?_ | with_reducible refine w_no ?_ | with_reducible refine w_so ?_ | with_reducible refine w_nil ?_ | with_reducible refine w_cons ?_ | with_reducible refine w_tup ?_ | with_reducible refine w_lst ?_ | with_reducible refine w_cal ?_ | with_reducible refine w_mk ?_ | with_reducible refine w_mth ?_ | with_reducible refine w_bi ?_ | with_reducible refine w_bm ?_ | with_reducible refine w_lc ?_ | with_reducible refine w_iex ?_ | with_reducible refine w_rng1 ?_ | with_reducible refine w_rng2 ?_ | with_reducible refine w_enum ?_ | with_reducible refine w_T0 ?_ | with_reducible refine w_T1 ?_ | with_reducible refine w_add ?_ | with_reducible refine w_sub ?_ | ((with_reducible refine w_tru ?_ ?_); exact rfl)))
    refine ix_loc h (by rfl) ?_
    (repeat (first | ((with_reducible refine w_var ?_); refine ⟨_, rfl, ?_⟩) | with_reducible refine z_set ?_ | with_reducible refine z_setT ?_ | with_reducible refine z_par ?_ | with_reducible refine z_fld ?_ | with_reducible refine z_sub ?_ | with_reducible refine z_exp ?_ | with_reducible refine z_ret ?_ | with_reducible refine z_retN ?_ | with_reducible refine z_ite ?_ | with_reducible refine z_whl ?_ | with_reducible refine z_for ?_ | with_reducible refine z_pass ?_ | with_reducible refine z_brk ?_ | with_reducible refine z_cnt ?_ | with_reducible refine z_nil ?_ | with_reducible refine w_bin ?_ | with_reducible refine w_int ?_ | with_reducible refine w_str ?_ | with_reducible refine w_blc ?_ | with_reducible refine w_non ?_ | with_reducible refine w_bty ?_ | with_reducible refine w_neg ?_ | with_reducible refine w_cmp ?_ | with_reducible refine w_chn ?_ | with_reducible refine w_and ?_ | with_reducible refine w_or ?_ | with_reducible refine w_not ?_ | with_reducible refine w_ite ?_ | with_reducible refine w_fld ?_ | with_reducible refine w_ix ?_ | with_reducible refine w_sl ?_ | with_reducible refine w_no ?_ | with_reducible refine w_so ?_ | with_reducible refine w_nil ?_ | with_reducible refine w_cons ?_ | with_reducible refine w_tup ?_ | with_reducible refine w_lst ?_ | with_reducible refine w_cal ?_ | with_reducible refine w_mk ?_ | with_reducible refine w_mth ?_ | with_reducible refine w_bi ?_ | with_reducible refine w_bm ?_ | with_reducible refine w_lc ?_ | with_reducible refine w_iex ?_ | with_reducible refine w_rng1 ?_ | with_reducible refine w_rng2 ?_ | with_reducible refine w_enum ?_ | with_reducible refine w_T0 ?_ | with_reducible refine w_T1 ?_ | with_reducible refine w_add ?_ | with_reducible refine w_sub ?_ | ((with_reducible refine w_tru ?_ ?_); exact rfl)))
    refine ⟨_, _, rfl, ?_⟩
    (repeat (first | ((with_reducible refine w_var ?_); refine ⟨_, rfl, ?_⟩) | with_reducible refine z_set ?_ | with_reducible refine z_setT ?_ | with_reducible refine z_par ?_ | with_reducible refine z_fld ?_ | with_reducible refine z_sub ?_ | with_reducible refine z_exp ?_ | with_reducible refine z_ret ?_ | with_reducible refine z_retN ?_ | with_reducible refine z_ite ?_ | with_reducible refine z_whl ?_ | with_reducible refine z_for ?_ | with_reducible refine z_pass ?_ | with_reducible refine z_brk ?_ | with_reducible refine z_cnt ?_ | with_reducible refine z_nil ?_ | with_reducible refine w_bin ?_ | with_reducible refine w_int ?_ | with_reducible refine w_str ?_ | with_reducible refine w_blc ?_ | with_reducible refine w_non ?_ | with_reducible refine w_bty ?_ | with_reducible refine w_neg ?_ | with_reducible refine w_cmp ?_ | with_reducible refine w_chn ?_ | with_reducible refine w_and ?_ | with_reducible refine w_or ?_ | with_reducible refine w_not ?_ | with_reducible refine w_ite ?_ | with_reducible refine w_fld ?_ | with_reducible refine w_ix ?_ | with_reducible refine w_sl ?_ | with_reducible refine w_no ?_ | with_reducible refine w_so ?_ | with_reducible refine w_nil ?_ | with_reducible refine w_cons ?_ | with_reducible refine w_tup ?_ | with_reducible refine w_lst ?_ | with_reducible refine w_cal ?_ | with_reducible refine w_mk ?_ | with_reducible refine w_mth ?_ | with_reducible refine w_bi ?_ | with_reducible refine w_bm ?_ | with_reducible refine w_lc ?_ | with_reducible refine w_iex ?_ | with_reducible refine w_rng1 ?_ | with_reducible refine w_rng2 ?_ | with_reducible refine w_enum ?_ | with_reducible refine w_T0 ?_ | with_reducible refine w_T1 ?_ | with_reducible refine w_add ?_ | with_reducible refine w_sub ?_ | ((with_reducible refine w_tru ?_ ?_); exact rfl)))
    refine w_mod h0 ?_
    (repeat (first | ((with_reducible refine w_var ?_); refine ⟨_, rfl, ?_⟩) | with_reducible refine z_set ?_ | with_reducible refine z_setT ?_ | with_reducible refine z_par ?_ | with_reducible refine z_fld ?_ | with_reducible refine z_sub ?_ | with_reducible refine z_exp ?_ | with_reducible refine z_ret ?_ | with_reducible refine z_retN ?_ | with_reducible refine z_ite ?_ | with_reducible refine z_whl ?_ | with_reducible refine z_for ?_ | with_reducible refine z_pass ?_ | with_reducible refine z_brk ?_ | with_reducible refine z_cnt ?_ | with_reducible refine z_nil ?_ | with_reducible refine w_bin ?_ | with_reducible refine w_int ?_ | with_reducible refine w_str ?_ | with_reducible refine w_blc ?_ | with_reducible refine w_non ?_ | with_reducible refine w_bty ?_ | with_reducible refine w_neg ?_ | with_reducible refine w_cmp ?_ | with_reducible refine w_chn ?_ | with_reducible refine w_and ?_ | with_reducible refine w_or ?_ | with_reducible refine w_not ?_ | with_reducible refine w_ite ?_ | with_reducible refine w_fld ?_ | with_reducible refine w_ix ?_ | with_reducible refine w_sl ?_ | with_reducible refine w_no ?_ | with_reducible refine w_so ?_ | with_reducible refine w_nil ?_ | with_reducible refine w_cons ?_ | with_reducible refine w_tup ?_ | with_reducible refine w_lst ?_ | with_reducible refine w_cal ?_ | with_reducible refine w_mk ?_ | with_reducible refine w_mth ?_ | with_reducible refine w_bi ?_ | with_reducible refine w_bm ?_ | with_reducible refine w_lc ?_ | with_reducible refine w_iex ?_ | with_reducible refine w_rng1 ?_ | with_reducible refine w_rng2 ?_ | with_reducible refine w_enum ?_ | with_reducible refine w_T0 ?_ | with_reducible refine w_T1 ?_ | with_reducible refine w_add ?_ | with_reducible refine w_sub ?_ | ((with_reducible refine w_tru ?_ ?_); exact rfl)))
    refine ix_loc h (by rfl) ?_
    (repeat (first | ((with_reducible refine w_var ?_); refine ⟨_, rfl, ?_⟩) | with_reducible refine z_set ?_ | with_reducible refine z_setT ?_ | with_reducible refine z_par ?_ | with_reducible refine z_fld ?_ | with_reducible refine z_sub ?_ | with_reducible refine z_exp ?_ | with_reducible refine z_ret ?_ | with_reducible refine z_retN ?_ | with_reducible refine z_ite ?_ | with_reducible refine z_whl ?_ | with_reducible refine z_for ?_ | with_reducible refine z_pass ?_ | with_reducible refine z_brk ?_ | with_reducible refine z_cnt ?_ | with_reducible refine z_nil ?_ | with_reducible refine w_bin ?_ | with_reducible refine w_int ?_ | with_reducible refine w_str ?_ | with_reducible refine w_blc ?_ | with_reducible refine w_non ?_ | with_reducible refine w_bty ?_ | with_reducible refine w_neg ?_ | with_reducible refine w_cmp ?_ | with_reducible refine w_chn ?_ | with_reducible refine w_and ?_ | with_reducible refine w_or ?_ | with_reducible refine w_not ?_ | with_reducible refine w_ite ?_ | with_reducible refine w_fld ?_ | with_reducible refine w_ix ?_ | with_reducible refine w_sl ?_ | with_reducible refine w_no ?_ | with_reducible refine w_so ?_ | with_reducible refine w_nil ?_ | with_reducible refine w_cons ?_ | with_reducible refine w_tup ?_ | with_reducible refine w_lst ?_ | with_reducible refine w_cal ?_ | with_reducible refine w_mk ?_ | with_reducible refine w_mth ?_ | with_reducible refine w_bi ?_ | with_reducible refine w_bm ?_ | with_reducible refine w_lc ?_ | with_reducible refine w_iex ?_ | with_reducible refine w_rng1 ?_ | with_reducible refine w_rng2 ?_ | with_reducible refine w_enum ?_ | with_reducible refine w_T0 ?_ | with_reducible refine w_T1 ?_ | with_reducible refine w_add ?_ | with_reducible refine w_sub ?_ | ((with_reducible refine w_tru ?_ ?_); exact rfl)))
    refine w_div ⟨h0, h1⟩ ?_
    (repeat (first | ((with_reducible refine w_var ?_); refine ⟨_, rfl, ?_⟩) | with_reducible refine z_set ?_ | with_reducible refine z_setT ?_ | with_reducible refine z_par ?_ | with_reducible refine z_fld ?_ | with_reducible refine z_sub ?_ | with_reducible refine z_exp ?_ | with_reducible refine z_ret ?_ | with_reducible refine z_retN ?_ | with_reducible refine z_ite ?_ | with_reducible refine z_whl ?_ | with_reducible refine z_for ?_ | with_reducible refine z_pass ?_ | with_reducible refine z_brk ?_ | with_reducible refine z_cnt ?_ | with_reducible refine z_nil ?_ | with_reducible refine w_bin ?_ | with_reducible refine w_int ?_ | with_reducible refine w_str ?_ | with_reducible refine w_blc ?_ | with_reducible refine w_non ?_ | with_reducible refine w_bty ?_ | with_reducible refine w_neg ?_ | with_reducible refine w_cmp ?_ | with_reducible refine w_chn ?_ | with_reducible refine w_and ?_ | with_reducible refine w_or ?_ | with_reducible refine w_not ?_ | with_reducible refine w_ite ?_ | with_reducible refine w_fld ?_ | with_reducible refine w_ix ?_ | with_reducible refine w_sl ?_ | with_reducible refine w_no ?_ | with_reducible refine w_so ?_ | with_reducible refine w_nil ?_ | with_reducible refine w_cons ?_ | with_reducible refine w_tup ?_ | with_reducible refine w_lst ?_ | with_reducible refine w_cal ?_ | with_reducible refine w_mk ?_ | with_reducible refine w_mth ?_ | with_reducible refine w_bi ?_ | with_reducible refine w_bm ?_ | with_reducible refine w_lc ?_ | with_reducible refine w_iex ?_ | with_reducible refine w_rng1 ?_ | with_reducible refine w_rng2 ?_ | with_reducible refine w_enum ?_ | with_reducible refine w_T0 ?_ | with_reducible refine w_T1 ?_ | with_reducible refine w_add ?_ | with_reducible refine w_sub ?_ | ((with_reducible refine w_tru ?_ ?_); exact rfl)))
    refine set_loc h (by rfl) ?_
    (repeat (first | ((with_reducible refine w_var ?_); refine ⟨_, rfl, ?_⟩) | with_reducible refine z_set ?_ | with_reducible refine z_setT ?_ | with_reducible refine z_par ?_ | with_reducible refine z_fld ?_ | with_reducible refine z_sub ?_ | with_reducible refine z_exp ?_ | with_reducible refine z_ret ?_ | with_reducible refine z_retN ?_ | with_reducible refine z_ite ?_ | with_reducible refine z_whl ?_ | with_reducible refine z_for ?_ | with_reducible refine z_pass ?_ | with_reducible refine z_brk ?_ | with_reducible refine z_cnt ?_ | with_reducible refine z_nil ?_ | with_reducible refine w_bin ?_ | with_reducible refine w_int ?_ | with_reducible refine w_str ?_ | with_reducible refine w_blc ?_ | with_reducible refine w_non ?_ | with_reducible refine w_bty ?_ | with_reducible refine w_neg ?_ | with_reducible refine w_cmp ?_ | with_reducible refine w_chn ?_ | with_reducible refine w_and ?_ | with_reducible refine w_or ?_ | with_reducible refine w_not ?_ | with_reducible refine w_ite ?_ | with_reducible refine w_fld ?_ | with_reducible refine w_ix ?_ | with_reducible refine w_sl ?_ | with_reducible refine w_no ?_ | with_reducible refine w_so ?_ | with_reducible refine w_nil ?_ | with_reducible refine w_cons ?_ | with_reducible refine w_tup ?_ | with_reducible refine w_lst ?_ | with_reducible refine w_cal ?_ | with_reducible refine w_mk ?_ | with_reducible refine w_mth ?_ | with_reducible refine w_bi ?_ | with_reducible refine w_bm ?_ | with_reducible refine w_lc ?_ | with_reducible refine w_iex ?_ | with_reducible refine w_rng1 ?_ | with_reducible refine w_rng2 ?_ | with_reducible refine w_enum ?_ | with_reducible refine w_T0 ?_ | with_reducible refine w_T1 ?_ | with_reducible refine w_add ?_ | with_reducible refine w_sub ?_ | ((with_reducible refine w_tru ?_ ?_); exact rfl)))
    exact hQ _ _ _ _ (Int.emod_nonneg _ (by omega)) (Int.emod_lt_of_pos _ h0)
  · (repeat (first | ((with_reducible refine w_var ?_); refine ⟨_, rfl, ?_⟩) | with_reducible refine z_set ?_ | with_reducible refine z_setT ?_ | with_reducible refine z_par ?_ | with_reducible refine z_fld ?_ | with_reducible refine z_sub ?_ | with_reducible refine z_exp ?_ | with_reducible refine z_ret ?_ | with_reducible refine z_retN ?_ | with_reducible refine z_ite ?_ | with_reducible refine z_whl ?_ | with_reducible refine z_for ?_ | with_reducible refine z_pass ?_ | with_reducible refine z_brk ?_ | with_reducible refine z_cnt ?_ | with_reducible refine z_nil ?_ | with_reducible refine w_bin ?_ | with_reducible refine w_int ?_ | with_reducible refine w_str ?_ | with_reducible refine w_blc ?_ | with_reducible refine w_non ?_ | with_reducible refine w_bty ?_ | with_reducible refine w_neg ?_ | with_reducible refine w_cmp ?_ | with_reducible refine w_chn ?_ | with_reducible refine w_and ?_ | with_reducible refine w_or ?_ | with_reducible refine w_not ?_ | with_reducible refine w_ite ?_ | with_reducible refine w_fld ?_ | with_reducible refine w_ix ?_ | with_reducible refine w_sl ?_ | with_reducible refine w_no ?_ | with_reducible refine w_so ?_ | with_reducible refine w_nil ?_ | with_reducible refine w_cons ?_ | with_reducible refine w_tup ?_ | with_reducible refine w_lst ?_ | with_reducible refine w_cal ?_ | with_reducible refine w_mk ?_ | with_reducible refine w_mth ?_ | with_reducible refine w_bi ?_ | with_reducible refine w_bm ?_ | with_reducible refine w_lc ?_ | with_reducible refine w_iex ?_ | with_reducible refine w_rng1 ?_ | with_reducible refine w_rng2 ?_ | with_reducible refine w_enum ?_ | with_reducible refine w_T0 ?_ | with_reducible refine w_T1 ?_ | with_reducible refine w_add ?_ | with_reducible refine w_sub ?_ | ((with_reducible refine w_tru ?_ ?_); exact rfl)))
    unfold t_law_digit_3
    (repeat (first | ((with_reducible refine w_var ?_); refine ⟨_, rfl, ?_⟩) | with_reducible refine z_set ?_ | with_reducible refine z_setT ?_ | with_reducible refine z_par ?_ | with_reducible refine z_fld ?_ | with_reducible refine z_sub ?_ | with_reducible refine z_exp ?_ | with_reducible refine z_ret ?_ | with_reducible refine z_retN ?_ | with_reducible refine z_ite ?_ | with_reducible refine z_whl ?_ | with_reducible refine z_for ?_ | with_reducible refine z_pass ?_ | with_reducible refine z_brk ?_ | with_reducible refine z_cnt ?_ | with_reducible refine z_nil ?_ | with_reducible refine w_bin ?_ | with_reducible refine w_int ?_ | with_reducible refine w_str ?_ | with_reducible refine w_blc ?_ | with_reducible refine w_non ?_ | with_reducible refine w_bty ?_ | with_reducible refine w_neg ?_ | with_reducible refine w_cmp ?_ | with_reducible refine w_chn ?_ | with_reducible refine w_and ?_ | with_reducible refine w_or ?_ | with_reducible refine w_not ?_ | with_reducible refine w_ite ?_ | with_reducible refine w_fld ?_ | with_reducible refine w_ix ?_ | with_reducible refine w_sl ?_ | with_reducible refine w_no ?_ | with_reducible refine w_so ?_ | with_reducible refine w_nil ?_ | with_reducible refine w_cons ?_ | with_reducible refine w_tup ?_ | with_reducible refine w_lst ?_ | with_reducible refine w_cal ?_ | with_reducible refine w_mk ?_ | with_reducible refine w_mth ?_ | with_reducible refine w_bi ?_ | with_reducible refine w_bm ?_ | with_reducible refine w_lc ?_ | with_reducible refine w_iex ?_ | with_reducible refine w_rng1 ?_ | with_reducible refine w_rng2 ?_ | with_reducible refine w_enum ?_ | with_reducible refine w_T0 ?_ | with_reducible refine w_T1 ?_ | with_reducible refine w_add ?_ | with_reducible refine w_sub ?_ | ((with_reducible refine w_tru ?_ ?_); exact rfl)))
    refine ix_loc h (by rfl) ?_
    (repeat (first | ((with_reducible refine w_var ?_); refine ⟨_, rfl, ?_⟩) | with_reducible refine z_set ?_ | with_reducible refine z_setT ?_ | with_reducible refine z_par ?_ | with_reducible refine z_fld ?_ | with_reducible refine z_sub ?_ | with_reducible refine z_exp ?_ | with_reducible refine z_ret ?_ | with_reducible refine z_retN ?_ | with_reducible refine z_ite ?_ | with_reducible refine z_whl ?_ | with_reducible refine z_for ?_ | with_reducible refine z_pass ?_ | with_reducible refine z_brk ?_ | with_reducible refine z_cnt ?_ | with_reducible refine z_nil ?_ | with_reducible refine w_bin ?_ | with_reducible refine w_int ?_ | with_reducible refine w_str ?_ | with_reducible refine w_blc ?_ | with_reducible refine w_non ?_ | with_reducible refine w_bty ?_ | with_reducible refine w_neg ?_ | with_reducible refine w_cmp ?_ | with_reducible refine w_chn ?_ | with_reducible refine w_and ?_ | with_reducible refine w_or ?_ | with_reducible refine w_not ?_ | with_reducible refine w_ite ?_ | with_reducible refine w_fld ?_ | with_reducible refine w_ix ?_ | with_reducible refine w_sl ?_ | with_reducible refine w_no ?_ | with_reducible refine w_so ?_ | with_reducible refine w_nil ?_ | with_reducible refine w_cons ?_ | with_reducible refine w_tup ?_ | with_reducible refine w_lst ?_ | with_reducible refine w_cal ?_ | with_reducible refine w_mk ?_ | with_reducible refine w_mth ?_ | with_reducible refine w_bi ?_ | with_reducible refine w_bm ?_ | with_reducible refine w_lc ?_ | with_reducible refine w_iex ?_ | with_reducible refine w_rng1 ?_ | with_reducible refine w_rng2 ?_ | with_reducible refine w_enum ?_ | with_reducible refine w_T0 ?_ | with_reducible refine w_T1 ?_ | with_reducible refine w_add ?_ | with_reducible refine w_sub ?_ | ((with_reducible refine w_tru ?_ ?_); exact rfl)))
    refine set_loc h (by rfl) ?_
    (repeat (first | ((with_reducible refine w_var ?_); refine ⟨_, rfl, ?_⟩) | with_reducible refine z_set ?_ | with_reducible refine z_setT ?_ | with_reducible refine z_par ?_ | with_reducible refine z_fld ?_ | with_reducible refine z_sub ?_ | with_reducible refine z_exp ?_ | with_reducible refine z_ret ?_ | with_reducible refine z_retN ?_ | with_reducible refine z_ite ?_ | with_reducible refine z_whl ?_ | with_reducible refine z_for ?_ | with_reducible refine z_pass ?_ | with_reducible refine z_brk ?_ | with_reducible refine z_cnt ?_ | with_reducible refine z_nil ?_ | with_reducible refine w_bin ?_ | with_reducible refine w_int ?_ | with_reducible refine w_str ?_ | with_reducible refine w_blc ?_ | with_reducible refine w_non ?_ | with_reducible refine w_bty ?_ | with_reducible refine w_neg ?_ | with_reducible refine w_cmp ?_ | with_reducible refine w_chn ?_ | with_reducible refine w_and ?_ | with_reducible refine w_or ?_ | with_reducible refine w_not ?_ | with_reducible refine w_ite ?_ | with_reducible refine w_fld ?_ | with_reducible refine w_ix ?_ | with_reducible refine w_sl ?_ | with_reducible refine w_no ?_ | with_reducible refine w_so ?_ | with_reducible refine w_nil ?_ | with_reducible refine w_cons ?_ | with_reducible refine w_tup ?_ | with_reducible refine w_lst ?_ | with_reducible refine w_cal ?_ | with_reducible refine w_mk ?_ | with_reducible refine w_mth ?_ | with_reducible refine w_bi ?_ | with_reducible refine w_bm ?_ | with_reducible refine w_lc ?_ | with_reducible refine w_iex ?_ | with_reducible refine w_rng1 ?_ | with_reducible refine w_rng2 ?_ | with_reducible refine w_enum ?_ | with_reducible refine w_T0 ?_ | with_reducible refine w_T1 ?_ | with_reducible refine w_add ?_ | with_reducible refine w_sub ?_ | ((with_reducible refine w_tru ?_ ?_); exact rfl)))
    refine ix_loc (get_set hl) (by rfl) ?_
    (repeat (first | ((with_reducible refine w_var ?_); refine ⟨_, rfl, ?_⟩) | with_reducible refine z_set ?_ | with_reducible refine z_setT ?_ | with_reducible refine z_par ?_ | with_reducible refine z_fld ?_ | with_reducible refine z_sub ?_ | with_reducible refine z_exp ?_ | with_reducible refine z_ret ?_ | with_reducible refine z_retN ?_ | with_reducible refine z_ite ?_ | with_reducible refine z_whl ?_ | with_reducible refine z_for ?_ | with_reducible refine z_pass ?_ | with_reducible refine z_brk ?_ | with_reducible refine z_cnt ?_ | with_reducible refine z_nil ?_ | with_reducible refine w_bin ?_ | with_reducible refine w_int ?_ | with_reducible refine w_str ?_ | with_reducible refine w_blc ?_ | with_reducible refine w_non ?_ | with_reducible refine w_bty ?_ | with_reducible refine w_neg ?_ | with_reducible refine w_cmp ?_ | with_reducible refine w_chn ?_ | with_reducible refine w_and ?_ | with_reducible refine w_or ?_ | with_reducible refine w_not ?_ | with_reducible refine w_ite ?_ | with_reducible refine w_fld ?_ | with_reducible refine w_ix ?_ | with_reducible refine w_sl ?_ | with_reducible refine w_no ?_ | with_reducible refine w_so ?_ | with_reducible refine w_nil ?_ | with_reducible refine w_cons ?_ | with_reducible refine w_tup ?_ | with_reducible refine w_lst ?_ | with_reducible refine w_cal ?_ | with_reducible refine w_mk ?_ | with_reducible refine w_mth ?_ | with_reducible refine w_bi ?_ | with_reducible refine w_bm ?_ | with_reducible refine w_lc ?_ | with_reducible refine w_iex ?_ | with_reducible refine w_rng1 ?_ | with_reducible refine w_rng2 ?_ | with_reducible refine w_enum ?_ | with_reducible refine w_T0 ?_ | with_reducible refine w_T1 ?_ | with_reducible refine w_add ?_ | with_reducible refine w_sub ?_ | ((with_reducible refine w_tru ?_ ?_); exact rfl)))
    refine ix_loc (get_set hl) (by rfl) ?_
    (repeat (first | ((with_reducible refine w_var ?_); refine ⟨_, rfl, ?_⟩) | with_reducible refine z_set ?_ | with_reducible refine z_setT ?_ | with_reducible refine z_par ?_ | with_reducible refine z_fld ?_ | with_reducible refine z_sub ?_ | with_reducible refine z_exp ?_ | with_reducible refine z_ret ?_ | with_reducible refine z_retN ?_ | with_reducible refine z_ite ?_ | with_reducible refine z_whl ?_ | with_reducible refine z_for ?_ | with_reducible refine z_pass ?_ | with_reducible refine z_brk ?_ | with_reducible refine z_cnt ?_ | with_reducible refine z_nil ?_ | with_reducible refine w_bin ?_ | with_reducible refine w_int ?_ | with_reducible refine w_str ?_ | with_reducible refine w_blc ?_ | with_reducible refine w_non ?_ | with_reducible refine w_bty ?_ | with_reducible refine w_neg ?_ | with_reducible refine w_cmp ?_ | with_reducible refine w_chn ?_ | with_reducible refine w_and ?_ | with_reducible refine w_or ?_ | with_reducible refine w_not ?_ | with_reducible refine w_ite ?_ | with_reducible refine w_fld ?_ | with_reducible refine w_ix ?_ | with_reducible refine w_sl ?_ | with_reducible refine w_no ?_ | with_reducible refine w_so ?_ | with_reducible refine w_nil ?_ | with_reducible refine w_cons ?_ | with_reducible refine w_tup ?_ | with_reducible refine w_lst ?_ | with_reducible refine w_cal ?_ | with_reducible refine w_mk ?_ | with_reducible refine w_mth ?_ | with_reducible refine w_bi ?_ | with_reducible refine w_bm ?_ | with_reducible refine w_lc ?_ | with_reducible refine w_iex ?_ | with_reducible refine w_rng1 ?_ | with_reducible refine w_rng2 ?_ | with_reducible refine w_enum ?_ | with_reducible refine w_T0 ?_ | with_reducible refine w_T1 ?_ | with_reducible refine w_add ?_ | with_reducible refine w_sub ?_ | ((with_reducible refine w_tru ?_ ?_); exact rfl)))
    refine w_mul (.inl (by omega)) ?_
    (repeat (first | ((with_reducible refine w_var ?_); refine ⟨_, rfl, ?_⟩) | with_reducible refine z_set ?_ | with_reducible refine z_setT ?_ | with_reducible refine z_par ?_ | with_reducible refine z_fld ?_ | with_reducible refine z_sub ?_ | with_reducible refine z_exp ?_ | with_reducible refine z_ret ?_ | with_reducible refine z_retN ?_ | with_reducible refine z_ite ?_ | with_reducible refine z_whl ?_ | with_reducible refine z_for ?_ | with_reducible refine z_pass ?_ | with_reducible refine z_brk ?_ | with_reducible refine z_cnt ?_ | with_reducible refine z_nil ?_ | with_reducible refine w_bin ?_ | with_reducible refine w_int ?_ | with_reducible refine w_str ?_ | with_reducible refine w_blc ?_ | with_reducible refine w_non ?_ | with_reducible refine w_bty ?_ | with_reducible refine w_neg ?_ | with_reducible refine w_cmp ?_ | with_reducible refine w_chn ?_ | with_reducible refine w_and ?_ | with_reducible refine w_or ?_ | with_reducible refine w_not ?_ | with_reducible refine w_ite ?_ | with_reducible refine w_fld ?_ | with_reducible refine w_ix ?_ | with_reducible refine w_sl ?_ | with_reducible refine w_no ?_ | with_reducible refine w_so ?_ | with_reducible refine w_nil ?_ | with_reducible refine w_cons ?_ | with_reducible refine w_tup ?_ | with_reducible refine w_lst ?_ | with_reducible refine w_cal ?_ | with_reducible refine w_mk ?_ | with_reducible refine w_mth ?_ | with_reducible refine w_bi ?_ | with_reducible refine w_bm ?_ | with_reducible refine w_lc ?_ | with_reducible refine w_iex ?_ | with_reducible refine w_rng1 ?_ | with_reducible refine w_rng2 ?_ | with_reducible refine w_enum ?_ | with_reducible refine w_T0 ?_ | with_reducible refine w_T1 ?_ | with_reducible refine w_add ?_ | with_reducible refine w_sub ?_ | ((with_reducible refine w_tru ?_ ?_); exact rfl)))
    refine w_mul (.inr (by omega)) ?_
    refine ⟨_, _, rfl, ?_⟩
    (repeat (first | ((with_reducible refine w_var ?_); refine ⟨_, rfl, ?_⟩) | with_reducible refine z_set ?_ | with_reducible refine z_setT ?_ | with_reducible refine z_par ?_ | with_reducible refine z_fld ?_ | with_reducible refine z_sub ?_ | with_reducible refine z_exp ?_ | with_reducible refine z_ret ?_ | with_reducible refine z_retN ?_ | with_reducible refine z_ite ?_ | with_reducible refine z_whl ?_ | with_reducible refine z_for ?_ | with_reducible refine z_pass ?_ | with_reducible refine z_brk ?_ | with_reducible refine z_cnt ?_ | with_reducible refine z_nil ?_ | with_reducible refine w_bin ?_ | with_reducible refine w_int ?_ | with_reducible refine w_str ?_ | with_reducible refine w_blc ?_ | with_reducible refine w_non ?_ | with_reducible refine w_bty ?_ | with_reducible refine w_neg ?_ | with_reducible refine w_cmp ?_ | with_reducible refine w_chn ?_ | with_reducible refine w_and ?_ | with_reducible refine w_or ?_ | with_reducible refine w_not ?_ | with_reducible refine w_ite ?_ | with_reducible refine w_fld ?_ | with_reducible refine w_ix ?_ | with_reducible refine w_sl ?_ | with_reducible refine w_no ?_ | with_reducible refine w_so ?_ | with_reducible refine w_nil ?_ | with_reducible refine w_cons ?_ | with_reducible refine w_tup ?_ | with_reducible refine w_lst ?_ | with_reducible refine w_cal ?_ | with_reducible refine w_mk ?_ | with_reducible refine w_mth ?_ | with_reducible refine w_bi ?_ | with_reducible refine w_bm ?_ | with_reducible refine w_lc ?_ | with_reducible refine w_iex ?_ | with_reducible refine w_rng1 ?_ | with_reducible refine w_rng2 ?_ | with_reducible refine w_enum ?_ | with_reducible refine w_T0 ?_ | with_reducible refine w_T1 ?_ | with_reducible refine w_add ?_ | with_reducible refine w_sub ?_ | ((with_reducible refine w_tru ?_ ?_); exact rfl)))
    refine w_mod (by omega) ?_
    (repeat (first | ((with_reducible refine w_var ?_); refine ⟨_, rfl, ?_⟩) | with_reducible refine z_set ?_ | with_reducible refine z_setT ?_ | with_reducible refine z_par ?_ | with_reducible refine z_fld ?_ | with_reducible refine z_sub ?_ | with_reducible refine z_exp ?_ | with_reducible refine z_ret ?_ | with_reducible refine z_retN ?_ | with_reducible refine z_ite ?_ | with_reducible refine z_whl ?_ | with_reducible refine z_for ?_ | with_reducible refine z_pass ?_ | with_reducible refine z_brk ?_ | with_reducible refine z_cnt ?_ | with_reducible refine z_nil ?_ | with_reducible refine w_bin ?_ | with_reducible refine w_int ?_ | with_reducible refine w_str ?_ | with_reducible refine w_blc ?_ | with_reducible refine w_non ?_ | with_reducible refine w_bty ?_ | with_reducible refine w_neg ?_ | with_reducible refine w_cmp ?_ | with_reducible refine w_chn ?_ | with_reducible refine w_and ?_ | with_reducible refine w_or ?_ | with_reducible refine w_not ?_ | with_reducible refine w_ite ?_ | with_reducible refine w_fld ?_ | with_reducible refine w_ix ?_ | with_reducible refine w_sl ?_ | with_reducible refine w_no ?_ | with_reducible refine w_so ?_ | with_reducible refine w_nil ?_ | with_reducible refine w_cons ?_ | with_reducible refine w_tup ?_ | with_reducible refine w_lst ?_ | with_reducible refine w_cal ?_ | with_reducible refine w_mk ?_ | with_reducible refine w_mth ?_ | with_reducible refine w_bi ?_ | with_reducible refine w_bm ?_ | with_reducible refine w_lc ?_ | with_reducible refine w_iex ?_ | with_reducible refine w_rng1 ?_ | with_reducible refine w_rng2 ?_ | with_reducible refine w_enum ?_ | with_reducible refine w_T0 ?_ | with_reducible refine w_T1 ?_ | with_reducible refine w_add ?_ | with_reducible refine w_sub ?_ | ((with_reducible refine w_tru ?_ ?_); exact rfl)))
    refine w_div (by omega) ?_
    (repeat (first | ((with_reducible refine w_var ?_); refine ⟨_, rfl, ?_⟩) | with_reducible refine z_set ?_ | with_reducible refine z_setT ?_ | with_reducible refine z_par ?_ | with_reducible refine z_fld ?_ | with_reducible refine z_sub ?_ | with_reducible refine z_exp ?_ | with_reducible refine z_ret ?_ | with_reducible refine z_retN ?_ | with_reducible refine z_ite ?_ | with_reducible refine z_whl ?_ | with_reducible refine z_for ?_ | with_reducible refine z_pass ?_ | with_reducible refine z_brk ?_ | with_reducible refine z_cnt ?_ | with_reducible refine z_nil ?_ | with_reducible refine w_bin ?_ | with_reducible refine w_int ?_ | with_reducible refine w_str ?_ | with_reducible refine w_blc ?_ | with_reducible refine w_non ?_ | with_reducible refine w_bty ?_ | with_reducible refine w_neg ?_ | with_reducible refine w_cmp ?_ | with_reducible refine w_chn ?_ | with_reducible refine w_and ?_ | with_reducible refine w_or ?_ | with_reducible refine w_not ?_ | with_reducible refine w_ite ?_ | with_reducible refine w_fld ?_ | with_reducible refine w_ix ?_ | with_reducible refine w_sl ?_ | with_reducible refine w_no ?_ | with_reducible refine w_so ?_ | with_reducible refine w_nil ?_ | with_reducible refine w_cons ?_ | with_reducible refine w_tup ?_ | with_reducible refine w_lst ?_ | with_reducible refine w_cal ?_ | with_reducible refine w_mk ?_ | with_reducible refine w_mth ?_ | with_reducible refine w_bi ?_ | with_reducible refine w_bm ?_ | with_reducible refine w_lc ?_ | with_reducible refine w_iex ?_ | with_reducible refine w_rng1 ?_ | with_reducible refine w_rng2 ?_ | with_reducible refine w_enum ?_ | with_reducible refine w_T0 ?_ | with_reducible refine w_T1 ?_ | with_reducible refine w_add ?_ | with_reducible refine w_sub ?_ | ((with_reducible refine w_tru ?_ ?_); exact rfl)))
    refine w_mul (.inl ?_) ?_
    · constructor <;> omega
    refine ⟨_, _, rfl, ?_⟩
    (repeat (first | ((with_reducible refine w_var ?_); refine ⟨_, rfl, ?_⟩) | with_reducible refine z_set ?_ | with_reducible refine z_setT ?_ | with_reducible refine z_par ?_ | with_reducible refine z_fld ?_ | with_reducible refine z_sub ?_ | with_reducible refine z_exp ?_ | with_reducible refine z_ret ?_ | with_reducible refine z_retN ?_ | with_reducible refine z_ite ?_ | with_reducible refine z_whl ?_ | with_reducible refine z_for ?_ | with_reducible refine z_pass ?_ | with_reducible refine z_brk ?_ | with_reducible refine z_cnt ?_ | with_reducible refine z_nil ?_ | with_reducible refine w_bin ?_ | with_reducible refine w_int ?_ | with_reducible refine w_str ?_ | with_reducible refine w_blc ?_ | with_reducible refine w_non ?_ | with_reducible refine w_bty ?_ | with_reducible refine w_neg ?_ | with_reducible refine w_cmp ?_ | with_reducible refine w_chn ?_ | with_reducible refine w_and ?_ | with_reducible refine w_or ?_ | with_reducible refine w_not ?_ | with_reducible refine w_ite ?_ | with_reducible refine w_fld ?_ | with_reducible refine w_ix ?_ | with_reducible refine w_sl ?_ | with_reducible refine w_no ?_ | with_reducible refine w_so ?_ | with_reducible refine w_nil ?_ | with_reducible refine w_cons ?_ | with_reducible refine w_tup ?_ | with_reducible refine w_lst ?_ | with_reducible refine w_cal ?_ | with_reducible refine w_mk ?_ | with_reducible refine w_mth ?_ | with_reducible refine w_bi ?_ | with_reducible refine w_bm ?_ | with_reducible refine w_lc ?_ | with_reducible refine w_iex ?_ | with_reducible refine w_rng1 ?_ | with_reducible refine w_rng2 ?_ | with_reducible refine w_enum ?_ | with_reducible refine w_T0 ?_ | with_reducible refine w_T1 ?_ | with_reducible refine w_add ?_ | with_reducible refine w_sub ?_ | ((with_reducible refine w_tru ?_ ?_); exact rfl)))
    refine w_mod (by omega) ?_
    (repeat (first | ((with_reducible refine w_var ?_); refine ⟨_, rfl, ?_⟩) | with_reducible refine z_set ?_ | with_reducible refine z_setT ?_ | with_reducible refine z_par ?_ | with_reducible refine z_fld ?_ | with_reducible refine z_sub ?_ | with_reducible refine z_exp ?_ | with_reducible refine z_ret ?_ | with_reducible refine z_retN ?_ | with_reducible refine z_ite ?_ | with_reducible refine z_whl ?_ | with_reducible refine z_for ?_ | with_reducible refine z_pass ?_ | with_reducible refine z_brk ?_ | with_reducible refine z_cnt ?_ | with_reducible refine z_nil ?_ | with_reducible refine w_bin ?_ | with_reducible refine w_int ?_ | with_reducible refine w_str ?_ | with_reducible refine w_blc ?_ | with_reducible refine w_non ?_ | with_reducible refine w_bty ?_ | with_reducible refine w_neg ?_ | with_reducible refine w_cmp ?_ | with_reducible refine w_chn ?_ | with_reducible refine w_and ?_ | with_reducible refine w_or ?_ | with_reducible refine w_not ?_ | with_reducible refine w_ite ?_ | with_reducible refine w_fld ?_ | with_reducible refine w_ix ?_ | with_reducible refine w_sl ?_ | with_reducible refine w_no ?_ | with_reducible refine w_so ?_ | with_reducible refine w_nil ?_ | with_reducible refine w_cons ?_ | with_reducible refine w_tup ?_ | with_reducible refine w_lst ?_ | with_reducible refine w_cal ?_ | with_reducible refine w_mk ?_ | with_reducible refine w_mth ?_ | with_reducible refine w_bi ?_ | with_reducible refine w_bm ?_ | with_reducible refine w_lc ?_ | with_reducible refine w_iex ?_ | with_reducible refine w_rng1 ?_ | with_reducible refine w_rng2 ?_ | with_reducible refine w_enum ?_ | with_reducible refine w_T0 ?_ | with_reducible refine w_T1 ?_ | with_reducible refine w_add ?_ | with_reducible refine w_sub ?_ | ((with_reducible refine w_tru ?_ ?_); exact rfl)))
    refine w_div (by omega) ?_
    (repeat (first | ((with_reducible refine w_var ?_); refine ⟨_, rfl, ?_⟩) | with_reducible refine z_set ?_ | with_reducible refine z_setT ?_ | with_reducible refine z_par ?_ | with_reducible refine z_fld ?_ | with_reducible refine z_sub ?_ | with_reducible refine z_exp ?_ | with_reducible refine z_ret ?_ | with_reducible refine z_retN ?_ | with_reducible refine z_ite ?_ | with_reducible refine z_whl ?_ | with_reducible refine z_for ?_ | with_reducible refine z_pass ?_ | with_reducible refine z_brk ?_ | with_reducible refine z_cnt ?_ | with_reducible refine z_nil ?_ | with_reducible refine w_bin ?_ | with_reducible refine w_int ?_ | with_reducible refine w_str ?_ | with_reducible refine w_blc ?_ | with_reducible refine w_non ?_ | with_reducible refine w_bty ?_ | with_reducible refine w_neg ?_ | with_reducible refine w_cmp ?_ | with_reducible refine w_chn ?_ | with_reducible refine w_and ?_ | with_reducible refine w_or ?_ | with_reducible refine w_not ?_ | with_reducible refine w_ite ?_ | with_reducible refine w_fld ?_ | with_reducible refine w_ix ?_ | with_reducible refine w_sl ?_ | with_reducible refine w_no ?_ | with_reducible refine w_so ?_ | with_reducible refine w_nil ?_ | with_reducible refine w_cons ?_ | with_reducible refine w_tup ?_ | with_reducible refine w_lst ?_ | with_reducible refine w_cal ?_ | with_reducible refine w_mk ?_ | with_reducible refine w_mth ?_ | with_reducible refine w_bi ?_ | with_reducible refine w_bm ?_ | with_reducible refine w_lc ?_ | with_reducible refine w_iex ?_ | with_reducible refine w_rng1 ?_ | with_reducible refine w_rng2 ?_ | with_reducible refine w_enum ?_ | with_reducible refine w_T0 ?_ | with_reducible refine w_T1 ?_ | with_reducible refine w_add ?_ | with_reducible refine w_sub ?_ | ((with_reducible refine w_tru ?_ ?_); exact rfl)))
    refine w_mul (.inl ?_) ?_
    · constructor <;> omega
    refine ⟨_, _, rfl, ?_⟩
    (repeat (first | ((with_reducible refine w_var ?_); refine ⟨_, rfl, ?_⟩) | with_reducible refine z_set ?_ | with_reducible refine z_setT ?_ | with_reducible refine z_par ?_ | with_reducible refine z_fld ?_ | with_reducible refine z_sub ?_ | with_reducible refine z_exp ?_ | with_reducible refine z_ret ?_ | with_reducible refine z_retN ?_ | with_reducible refine z_ite ?_ | with_reducible refine z_whl ?_ | with_reducible refine z_for ?_ | with_reducible refine z_pass ?_ | with_reducible refine z_brk ?_ | with_reducible refine z_cnt ?_ | with_reducible refine z_nil ?_ | with_reducible refine w_bin ?_ | with_reducible refine w_int ?_ | with_reducible refine w_str ?_ | with_reducible refine w_blc ?_ | with_reducible refine w_non ?_ | with_reducible refine w_bty ?_ | with_reducible refine w_neg ?_ | with_reducible refine w_cmp ?_ | with_reducible refine w_chn ?_ | with_reducible refine w_and ?_ | with_reducible refine w_or ?_ | with_reducible refine w_not ?_ | with_reducible refine w_ite ?_ | with_reducible refine w_fld ?_ | with_reducible refine w_ix ?_ | with_reducible refine w_sl ?_ | with_reducible refine w_no ?_ | with_reducible refine w_so ?_ | with_reducible refine w_nil ?_ | with_reducible refine w_cons ?_ | with_reducible refine w_tup ?_ | with_reducible refine w_lst ?_ | with_reducible refine w_cal ?_ | with_reducible refine w_mk ?_ | with_reducible refine w_mth ?_ | with_reducible refine w_bi ?_ | with_reducible refine w_bm ?_ | with_reducible refine w_lc ?_ | with_reducible refine w_iex ?_ | with_reducible refine w_rng1 ?_ | with_reducible refine w_rng2 ?_ | with_reducible refine w_enum ?_ | with_reducible refine w_T0 ?_ | with_reducible refine w_T1 ?_ | with_reducible refine w_add ?_ | with_reducible refine w_sub ?_ | ((with_reducible refine w_tru ?_ ?_); exact rfl)))
    refine w_mod (by omega) ?_
    (repeat (first | ((with_reducible refine w_var ?_); refine ⟨_, rfl, ?_⟩) | with_reducible refine z_set ?_ | with_reducible refine z_setT ?_ | with_reducible refine z_par ?_ | with_reducible refine z_fld ?_ | with_reducible refine z_sub ?_ | with_reducible refine z_exp ?_ | with_reducible refine z_ret ?_ | with_reducible refine z_retN ?_ | with_reducible refine z_ite ?_ | with_reducible refine z_whl ?_ | with_reducible refine z_for ?_ | with_reducible refine z_pass ?_ | with_reducible refine z_brk ?_ | with_reducible refine z_cnt ?_ | with_reducible refine z_nil ?_ | with_reducible refine w_bin ?_ | with_reducible refine w_int ?_ | with_reducible refine w_str ?_ | with_reducible refine w_blc ?_ | with_reducible refine w_non ?_ | with_reducible refine w_bty ?_ | with_reducible refine w_neg ?_ | with_reducible refine w_cmp ?_ | with_reducible refine w_chn ?_ | with_reducible refine w_and ?_ | with_reducible refine w_or ?_ | with_reducible refine w_not ?_ | with_reducible refine w_ite ?_ | with_reducible refine w_fld ?_ | with_reducible refine w_ix ?_ | with_reducible refine w_sl ?_ | with_reducible refine w_no ?_ | with_reducible refine w_so ?_ | with_reducible refine w_nil ?_ | with_reducible refine w_cons ?_ | with_reducible refine w_tup ?_ | with_reducible refine w_lst ?_ | with_reducible refine w_cal ?_ | with_reducible refine w_mk ?_ | with_reducible refine w_mth ?_ | with_reducible refine w_bi ?_ | with_reducible refine w_bm ?_ | with_reducible refine w_lc ?_ | with_reducible refine w_iex ?_ | with_reducible refine w_rng1 ?_ | with_reducible refine w_rng2 ?_ | with_reducible refine w_enum ?_ | with_reducible refine w_T0 ?_ | with_reducible refine w_T1 ?_ | with_reducible refine w_add ?_ | with_reducible refine w_sub ?_ | ((with_reducible refine w_tru ?_ ?_); exact rfl)))
    refine w_mod h0 ?_
    exact hQ _ _ _ _ (Int.emod_nonneg _ (by omega)) (Int.emod_lt_of_pos _ h0)
/-- a digit -/
theorem digit {d i : Nat} {S : Sto} {base : Int} (h : St S i) (h0 : 0 < base) (h1 : base < 1073741824) {Q : D → Sto → Prop}
    (hQ : ∀ (x : Int) (S' : Sto), 0 ≤ x → x < base → St S' i → DI.Fr [i] S S' → Q (.int x) S') : W (calls P0 fs (d + 1) 2 [.loc i, .int base] S) Q := by
  refine W_call (f := d_law_digit) rfl rfl ?_
  obtain ⟨l, hl, hs⟩ := h
  have hi := lt_of hl
  have fin : ∀ (S1 : Sto) (a b c : Int), S1[i]? = some (.lst [.int a, .int b, .int c]) → DI.Fr [i] S S1 → WS (dSs P0 (calls P0 fs d) t_law_digit_4 [some (.loc i), some (.int base), none, none] S1) { nx := fun _ S => Q .non S, rt := Q } := by
    intro S1 a b c e f
    refine digit_b e h0 h1 _ fun x a' b' c' hx hx2 => ?_
    refine hQ _ _ hx hx2 ⟨_, get_set (lt_of e), .inr ⟨_, _, _, rfl⟩⟩ (f.setr (.inl (by simp)))
  show WS (dSs P0 (calls P0 fs d) t_law_digit [some (.loc i), some (.int base), none, none] S) _
  unfold t_law_digit
  (repeat (first | ((with_reducible refine w_var ?_); refine ⟨_, rfl, ?_⟩) | with_reducible refine z_set ?_ | with_reducible refine z_setT ?_ | with_reducible refine z_par ?_ | with_reducible refine z_fld ?_ | with_reducible refine z_sub ?_ | with_reducible refine z_exp ?_ | with_reducible refine z_ret ?_ | with_reducible refine z_retN ?_ | with_reducible refine z_ite ?_ | with_reducible refine z_whl ?_ | with_reducible refine z_for ?_ | with_reducible refine z_pass ?_ | with_reducible refine z_brk ?_ | with_reducible refine z_cnt ?_ | with_reducible refine z_nil ?_ | with_reducible refine w_bin ?_ | with_reducible refine w_int ?_ | with_reducible refine w_str ?_ | with_reducible refine w_blc ?_ | with_reducible refine w_non ?_ | with_reducible refine w_bty ?_ | with_reducible refine w_neg ?_ | with_reducible refine w_cmp ?_ | with_reducible refine w_chn ?_ | with_reducible refine w_and ?_ | with_reducible refine w_or ?_ | with_reducible refine w_not ?_ | with_reducible refine w_ite ?_ | with_reducible refine w_fld ?_ | with_reducible refine w_ix ?_ | with_reducible refine w_sl ?_ | with_reducible refine w_no ?_ | with_reducible refine w_so ?_ | with_reducible refine w_nil ?_ | with_reducible refine w_cons ?_ | with_reducible refine w_tup ?_ | with_reducible refine w_lst ?_ | with_reducible refine w_cal ?_ | with_reducible refine w_mk ?_ | with_reducible refine w_mth ?_ | with_reducible refine w_bi ?_ | with_reducible refine w_bm ?_ | with_reducible refine w_lc ?_ | with_reducible refine w_iex ?_ | with_reducible refine w_rng1 ?_ | with_reducible refine w_rng2 ?_ | with_reducible refine w_enum ?_ | with_reducible refine w_T0 ?_ | with_reducible refine w_T1 ?_ | with_reducible refine w_add ?_ | with_reducible refine w_sub ?_ | ((with_reducible refine w_tru ?_ ?_); exact rfl)))
  rcases hs with ⟨n, rfl⟩ | ⟨a, b, c, rfl⟩
  · refine ⟨.int 1, S, by simp [biSem, hl], ?_⟩
    (repeat (first | ((with_reducible refine w_var ?_); refine ⟨_, rfl, ?_⟩) | with_reducible refine z_set ?_ | with_reducible refine z_setT ?_ | with_reducible refine z_par ?_ | with_reducible refine z_fld ?_ | with_reducible refine z_sub ?_ | with_reducible refine z_exp ?_ | with_reducible refine z_ret ?_ | with_reducible refine z_retN ?_ | with_reducible refine z_ite ?_ | with_reducible refine z_whl ?_ | with_reducible refine z_for ?_ | with_reducible refine z_pass ?_ | with_reducible refine z_brk ?_ | with_reducible refine z_cnt ?_ | with_reducible refine z_nil ?_ | with_reducible refine w_bin ?_ | with_reducible refine w_int ?_ | with_reducible refine w_str ?_ | with_reducible refine w_blc ?_ | with_reducible refine w_non ?_ | with_reducible refine w_bty ?_ | with_reducible refine w_neg ?_ | with_reducible refine w_cmp ?_ | with_reducible refine w_chn ?_ | with_reducible refine w_and ?_ | with_reducible refine w_or ?_ | with_reducible refine w_not ?_ | with_reducible refine w_ite ?_ | with_reducible refine w_fld ?_ | with_reducible refine w_ix ?_ | with_reducible refine w_sl ?_ | with_reducible refine w_no ?_ | with_reducible refine w_so ?_ | with_reducible refine w_nil ?_ | with_reducible refine w_cons ?_ | with_reducible refine w_tup ?_ | with_reducible refine w_lst ?_ | with_reducible refine w_cal ?_ | with_reducible refine w_mk ?_ | with_reducible refine w_mth ?_ | with_reducible refine w_bi ?_ | with_reducible refine w_bm ?_ | with_reducible refine w_lc ?_ | with_reducible refine w_iex ?_ | with_reducible refine w_rng1 ?_ | with_reducible refine w_rng2 ?_ | with_reducible refine w_enum ?_ | with_reducible refine w_T0 ?_ | with_reducible refine w_T1 ?_ | with_reducible refine w_add ?_ | with_reducible refine w_sub ?_ | ((with_reducible refine w_tru ?_ ?_); exact rfl)))
    refine ⟨true, by simp [cmpSem, eqD_int], true, rfl, fun _ => ?_, fun h => by cases h⟩
    unfold t_law_digit_1
    (repeat (first | ((with_reducible refine w_var ?_); refine ⟨_, rfl, ?_⟩) | with_reducible refine z_set ?_ | with_reducible refine z_setT ?_ | with_reducible refine z_par ?_ | with_reducible refine z_fld ?_ | with_reducible refine z_sub ?_ | with_reducible refine z_exp ?_ | with_reducible refine z_ret ?_ | with_reducible refine z_retN ?_ | with_reducible refine z_ite ?_ | with_reducible refine z_whl ?_ | with_reducible refine z_for ?_ | with_reducible refine z_pass ?_ | with_reducible refine z_brk ?_ | with_reducible refine z_cnt ?_ | with_reducible refine z_nil ?_ | with_reducible refine w_bin ?_ | with_reducible refine w_int ?_ | with_reducible refine w_str ?_ | with_reducible refine w_blc ?_ | with_reducible refine w_non ?_ | with_reducible refine w_bty ?_ | with_reducible refine w_neg ?_ | with_reducible refine w_cmp ?_ | with_reducible refine w_chn ?_ | with_reducible refine w_and ?_ | with_reducible refine w_or ?_ | with_reducible refine w_not ?_ | with_reducible refine w_ite ?_ | with_reducible refine w_fld ?_ | with_reducible refine w_ix ?_ | with_reducible refine w_sl ?_ | with_reducible refine w_no ?_ | with_reducible refine w_so ?_ | with_reducible refine w_nil ?_ | with_reducible refine w_cons ?_ | with_reducible refine w_tup ?_ | with_reducible refine w_lst ?_ | with_reducible refine w_cal ?_ | with_reducible refine w_mk ?_ | with_reducible refine w_mth ?_ | with_reducible refine w_bi ?_ | with_reducible refine w_bm ?_ | with_reducible refine w_lc ?_ | with_reducible refine w_iex ?_ | with_reducible refine w_rng1 ?_ | with_reducible refine w_rng2 ?_ | with_reducible refine w_enum ?_ | with_reducible refine w_T0 ?_ | with_reducible refine w_T1 ?_ | with_reducible refine w_add ?_ | with_reducible refine w_sub ?_ | ((with_reducible refine w_tru ?_ ?_); exact rfl)))
    refine ⟨i, _, rfl, hl, ?_⟩
    (repeat (first | ((with_reducible refine w_var ?_); refine ⟨_, rfl, ?_⟩) | with_reducible refine z_set ?_ | with_reducible refine z_setT ?_ | with_reducible refine z_par ?_ | with_reducible refine z_fld ?_ | with_reducible refine z_sub ?_ | with_reducible refine z_exp ?_ | with_reducible refine z_ret ?_ | with_reducible refine z_retN ?_ | with_reducible refine z_ite ?_ | with_reducible refine z_whl ?_ | with_reducible refine z_for ?_ | with_reducible refine z_pass ?_ | with_reducible refine z_brk ?_ | with_reducible refine z_cnt ?_ | with_reducible refine z_nil ?_ | with_reducible refine w_bin ?_ | with_reducible refine w_int ?_ | with_reducible refine w_str ?_ | with_reducible refine w_blc ?_ | with_reducible refine w_non ?_ | with_reducible refine w_bty ?_ | with_reducible refine w_neg ?_ | with_reducible refine w_cmp ?_ | with_reducible refine w_chn ?_ | with_reducible refine w_and ?_ | with_reducible refine w_or ?_ | with_reducible refine w_not ?_ | with_reducible refine w_ite ?_ | with_reducible refine w_fld ?_ | with_reducible refine w_ix ?_ | with_reducible refine w_sl ?_ | with_reducible refine w_no ?_ | with_reducible refine w_so ?_ | with_reducible refine w_nil ?_ | with_reducible refine w_cons ?_ | with_reducible refine w_tup ?_ | with_reducible refine w_lst ?_ | with_reducible refine w_cal ?_ | with_reducible refine w_mk ?_ | with_reducible refine w_mth ?_ | with_reducible refine w_bi ?_ | with_reducible refine w_bm ?_ | with_reducible refine w_lc ?_ | with_reducible refine w_iex ?_ | with_reducible refine w_rng1 ?_ | with_reducible refine w_rng2 ?_ | with_reducible refine w_enum ?_ | with_reducible refine w_T0 ?_ | with_reducible refine w_T1 ?_ | with_reducible refine w_add ?_ | with_reducible refine w_sub ?_ | ((with_reducible refine w_tru ?_ ?_); exact rfl)))
    refine ix_loc hl (by rfl) ?_
    refine ⟨_, _, rfl, ?_⟩
    (repeat (first | ((with_reducible refine w_var ?_); refine ⟨_, rfl, ?_⟩) | with_reducible refine z_set ?_ | with_reducible refine z_setT ?_ | with_reducible refine z_par ?_ | with_reducible refine z_fld ?_ | with_reducible refine z_sub ?_ | with_reducible refine z_exp ?_ | with_reducible refine z_ret ?_ | with_reducible refine z_retN ?_ | with_reducible refine z_ite ?_ | with_reducible refine z_whl ?_ | with_reducible refine z_for ?_ | with_reducible refine z_pass ?_ | with_reducible refine z_brk ?_ | with_reducible refine z_cnt ?_ | with_reducible refine z_nil ?_ | with_reducible refine w_bin ?_ | with_reducible refine w_int ?_ | with_reducible refine w_str ?_ | with_reducible refine w_blc ?_ | with_reducible refine w_non ?_ | with_reducible refine w_bty ?_ | with_reducible refine w_neg ?_ | with_reducible refine w_cmp ?_ | with_reducible refine w_chn ?_ | with_reducible refine w_and ?_ | with_reducible refine w_or ?_ | with_reducible refine w_not ?_ | with_reducible refine w_ite ?_ | with_reducible refine w_fld ?_ | with_reducible refine w_ix ?_ | with_reducible refine w_sl ?_ | with_reducible refine w_no ?_ | with_reducible refine w_so ?_ | with_reducible refine w_nil ?_ | with_reducible refine w_cons ?_ | with_reducible refine w_tup ?_ | with_reducible refine w_lst ?_ | with_reducible refine w_cal ?_ | with_reducible refine w_mk ?_ | with_reducible refine w_mth ?_ | with_reducible refine w_bi ?_ | with_reducible refine w_bm ?_ | with_reducible refine w_lc ?_ | with_reducible refine w_iex ?_ | with_reducible refine w_rng1 ?_ | with_reducible refine w_rng2 ?_ | with_reducible refine w_enum ?_ | with_reducible refine w_T0 ?_ | with_reducible refine w_T1 ?_ | with_reducible refine w_add ?_ | with_reducible refine w_sub ?_ | ((with_reducible refine w_tru ?_ ?_); exact rfl)))
    refine w_mod (by omega) ?_
    (repeat (first | ((with_reducible refine w_var ?_); refine ⟨_, rfl, ?_⟩) | with_reducible refine z_set ?_ | with_reducible refine z_setT ?_ | with_reducible refine z_par ?_ | with_reducible refine z_fld ?_ | with_reducible refine z_sub ?_ | with_reducible refine z_exp ?_ | with_reducible refine z_ret ?_ | with_reducible refine z_retN ?_ | with_reducible refine z_ite ?_ | with_reducible refine z_whl ?_ | with_reducible refine z_for ?_ | with_reducible refine z_pass ?_ | with_reducible refine z_brk ?_ | with_reducible refine z_cnt ?_ | with_reducible refine z_nil ?_ | with_reducible refine w_bin ?_ | with_reducible refine w_int ?_ | with_reducible refine w_str ?_ | with_reducible refine w_blc ?_ | with_reducible refine w_non ?_ | with_reducible refine w_bty ?_ | with_reducible refine w_neg ?_ | with_reducible refine w_cmp ?_ | with_reducible refine w_chn ?_ | with_reducible refine w_and ?_ | with_reducible refine w_or ?_ | with_reducible refine w_not ?_ | with_reducible refine w_ite ?_ | with_reducible refine w_fld ?_ | with_reducible refine w_ix ?_ | with_reducible refine w_sl ?_ | with_reducible refine w_no ?_ | with_reducible refine w_so ?_ | with_reducible refine w_nil ?_ | with_reducible refine w_cons ?_ | with_reducible refine w_tup ?_ | with_reducible refine w_lst ?_ | with_reducible refine w_cal ?_ | with_reducible refine w_mk ?_ | with_reducible refine w_mth ?_ | with_reducible refine w_bi ?_ | with_reducible refine w_bm ?_ | with_reducible refine w_lc ?_ | with_reducible refine w_iex ?_ | with_reducible refine w_rng1 ?_ | with_reducible refine w_rng2 ?_ | with_reducible refine w_enum ?_ | with_reducible refine w_T0 ?_ | with_reducible refine w_T1 ?_ | with_reducible refine w_add ?_ | with_reducible refine w_sub ?_ | ((with_reducible refine w_tru ?_ ?_); exact rfl)))
    refine ⟨sz (by simp), ?_⟩
    refine ⟨.non, (S ++ [Cell.lst [D.int (n % 2147483647), D.int 0]]).set i (Cell.lst [D.int n, D.int (n % 2147483647), D.int 0]), by simp [bmSem, get_pushl hl]; decide, ?_⟩
    obtain ⟨S3, hS3⟩ : ∃ S3 : Sto, S3 = (S ++ [Cell.lst [D.int (n % 2147483647), D.int 0]]).set i (Cell.lst [D.int n, D.int (n % 2147483647), D.int 0]) := ⟨_, rfl⟩
    rw [← hS3]
    have h3 : S3[i]? = some (.lst [.int n, .int (n % 2147483647), .int 0]) := by rw [hS3]; exact get_set (by simp; omega)
    have f3 : DI.Fr [i] S S3 := by rw [hS3]; exact DI.Fr.setr DI.Fr.push (.inl (by simp))
    (repeat (first | ((with_reducible refine w_var ?_); refine ⟨_, rfl, ?_⟩) | with_reducible refine z_set ?_ | with_reducible refine z_setT ?_ | with_reducible refine z_par ?_ | with_reducible refine z_fld ?_ | with_reducible refine z_sub ?_ | with_reducible refine z_exp ?_ | with_reducible refine z_ret ?_ | with_reducible refine z_retN ?_ | with_reducible refine z_ite ?_ | with_reducible refine z_whl ?_ | with_reducible refine z_for ?_ | with_reducible refine z_pass ?_ | with_reducible refine z_brk ?_ | with_reducible refine z_cnt ?_ | with_reducible refine z_nil ?_ | with_reducible refine w_bin ?_ | with_reducible refine w_int ?_ | with_reducible refine w_str ?_ | with_reducible refine w_blc ?_ | with_reducible refine w_non ?_ | with_reducible refine w_bty ?_ | with_reducible refine w_neg ?_ | with_reducible refine w_cmp ?_ | with_reducible refine w_chn ?_ | with_reducible refine w_and ?_ | with_reducible refine w_or ?_ | with_reducible refine w_not ?_ | with_reducible refine w_ite ?_ | with_reducible refine w_fld ?_ | with_reducible refine w_ix ?_ | with_reducible refine w_sl ?_ | with_reducible refine w_no ?_ | with_reducible refine w_so ?_ | with_reducible refine w_nil ?_ | with_reducible refine w_cons ?_ | with_reducible refine w_tup ?_ | with_reducible refine w_lst ?_ | with_reducible refine w_cal ?_ | with_reducible refine w_mk ?_ | with_reducible refine w_mth ?_ | with_reducible refine w_bi ?_ | with_reducible refine w_bm ?_ | with_reducible refine w_lc ?_ | with_reducible refine w_iex ?_ | with_reducible refine w_rng1 ?_ | with_reducible refine w_rng2 ?_ | with_reducible refine w_enum ?_ | with_reducible refine w_T0 ?_ | with_reducible refine w_T1 ?_ | with_reducible refine w_add ?_ | with_reducible refine w_sub ?_ | ((with_reducible refine w_tru ?_ ?_); exact rfl)))
    refine ix_loc h3 (by rfl) ?_
    refine ⟨sz (by simp), ?_⟩
    (repeat (first | ((with_reducible refine w_var ?_); refine ⟨_, rfl, ?_⟩) | with_reducible refine z_set ?_ | with_reducible refine z_setT ?_ | with_reducible refine z_par ?_ | with_reducible refine z_fld ?_ | with_reducible refine z_sub ?_ | with_reducible refine z_exp ?_ | with_reducible refine z_ret ?_ | with_reducible refine z_retN ?_ | with_reducible refine z_ite ?_ | with_reducible refine z_whl ?_ | with_reducible refine z_for ?_ | with_reducible refine z_pass ?_ | with_reducible refine z_brk ?_ | with_reducible refine z_cnt ?_ | with_reducible refine z_nil ?_ | with_reducible refine w_bin ?_ | with_reducible refine w_int ?_ | with_reducible refine w_str ?_ | with_reducible refine w_blc ?_ | with_reducible refine w_non ?_ | with_reducible refine w_bty ?_ | with_reducible refine w_neg ?_ | with_reducible refine w_cmp ?_ | with_reducible refine w_chn ?_ | with_reducible refine w_and ?_ | with_reducible refine w_or ?_ | with_reducible refine w_not ?_ | with_reducible refine w_ite ?_ | with_reducible refine w_fld ?_ | with_reducible refine w_ix ?_ | with_reducible refine w_sl ?_ | with_reducible refine w_no ?_ | with_reducible refine w_so ?_ | with_reducible refine w_nil ?_ | with_reducible refine w_cons ?_ | with_reducible refine w_tup ?_ | with_reducible refine w_lst ?_ | with_reducible refine w_cal ?_ | with_reducible refine w_mk ?_ | with_reducible refine w_mth ?_ | with_reducible refine w_bi ?_ | with_reducible refine w_bm ?_ | with_reducible refine w_lc ?_ | with_reducible refine w_iex ?_ | with_reducible refine w_rng1 ?_ | with_reducible refine w_rng2 ?_ | with_reducible refine w_enum ?_ | with_reducible refine w_T0 ?_ | with_reducible refine w_T1 ?_ | with_reducible refine w_add ?_ | with_reducible refine w_sub ?_ | ((with_reducible refine w_tru ?_ ?_); exact rfl)))
    refine ix_loc (get_pushl h3) (by rfl) ?_
    (repeat (first | ((with_reducible refine w_var ?_); refine ⟨_, rfl, ?_⟩) | with_reducible refine z_set ?_ | with_reducible refine z_setT ?_ | with_reducible refine z_par ?_ | with_reducible refine z_fld ?_ | with_reducible refine z_sub ?_ | with_reducible refine z_exp ?_ | with_reducible refine z_ret ?_ | with_reducible refine z_retN ?_ | with_reducible refine z_ite ?_ | with_reducible refine z_whl ?_ | with_reducible refine z_for ?_ | with_reducible refine z_pass ?_ | with_reducible refine z_brk ?_ | with_reducible refine z_cnt ?_ | with_reducible refine z_nil ?_ | with_reducible refine w_bin ?_ | with_reducible refine w_int ?_ | with_reducible refine w_str ?_ | with_reducible refine w_blc ?_ | with_reducible refine w_non ?_ | with_reducible refine w_bty ?_ | with_reducible refine w_neg ?_ | with_reducible refine w_cmp ?_ | with_reducible refine w_chn ?_ | with_reducible refine w_and ?_ | with_reducible refine w_or ?_ | with_reducible refine w_not ?_ | with_reducible refine w_ite ?_ | with_reducible refine w_fld ?_ | with_reducible refine w_ix ?_ | with_reducible refine w_sl ?_ | with_reducible refine w_no ?_ | with_reducible refine w_so ?_ | with_reducible refine w_nil ?_ | with_reducible refine w_cons ?_ | with_reducible refine w_tup ?_ | with_reducible refine w_lst ?_ | with_reducible refine w_cal ?_ | with_reducible refine w_mk ?_ | with_reducible refine w_mth ?_ | with_reducible refine w_bi ?_ | with_reducible refine w_bm ?_ | with_reducible refine w_lc ?_ | with_reducible refine w_iex ?_ | with_reducible refine w_rng1 ?_ | with_reducible refine w_rng2 ?_ | with_reducible refine w_enum ?_ | with_reducible refine w_T0 ?_ | with_reducible refine w_T1 ?_ | with_reducible refine w_add ?_ | with_reducible refine w_sub ?_ | ((with_reducible refine w_tru ?_ ?_); exact rfl)))
    refine w_pow (by decide) ?_
    refine ⟨_, rfl, ?_⟩
    refine ⟨_, _, rfl, ?_⟩
    have f4 : DI.Fr [i] S (S3 ++ [Cell.lst [D.int 0, D.int n]]) := f3.pushr
    refine ⟨.int (if decide ((10 : Int) ^ (18 : Int).toNat ≤ n) = true then n else 0), ?_, ?_⟩
    · cases decide ((10 : Int) ^ (18 : Int).toNat ≤ n) <;> simp [itemSem, get_push] <;> rfl
    (repeat (first | ((with_reducible refine w_var ?_); refine ⟨_, rfl, ?_⟩) | with_reducible refine z_set ?_ | with_reducible refine z_setT ?_ | with_reducible refine z_par ?_ | with_reducible refine z_fld ?_ | with_reducible refine z_sub ?_ | with_reducible refine z_exp ?_ | with_reducible refine z_ret ?_ | with_reducible refine z_retN ?_ | with_reducible refine z_ite ?_ | with_reducible refine z_whl ?_ | with_reducible refine z_for ?_ | with_reducible refine z_pass ?_ | with_reducible refine z_brk ?_ | with_reducible refine z_cnt ?_ | with_reducible refine z_nil ?_ | with_reducible refine w_bin ?_ | with_reducible refine w_int ?_ | with_reducible refine w_str ?_ | with_reducible refine w_blc ?_ | with_reducible refine w_non ?_ | with_reducible refine w_bty ?_ | with_reducible refine w_neg ?_ | with_reducible refine w_cmp ?_ | with_reducible refine w_chn ?_ | with_reducible refine w_and ?_ | with_reducible refine w_or ?_ | with_reducible refine w_not ?_ | with_reducible refine w_ite ?_ | with_reducible refine w_fld ?_ | with_reducible refine w_ix ?_ | with_reducible refine w_sl ?_ | with_reducible refine w_no ?_ | with_reducible refine w_so ?_ | with_reducible refine w_nil ?_ | with_reducible refine w_cons ?_ | with_reducible refine w_tup ?_ | with_reducible refine w_lst ?_ | with_reducible refine w_cal ?_ | with_reducible refine w_mk ?_ | with_reducible refine w_mth ?_ | with_reducible refine w_bi ?_ | with_reducible refine w_bm ?_ | with_reducible refine w_lc ?_ | with_reducible refine w_iex ?_ | with_reducible refine w_rng1 ?_ | with_reducible refine w_rng2 ?_ | with_reducible refine w_enum ?_ | with_reducible refine w_T0 ?_ | with_reducible refine w_T1 ?_ | with_reducible refine w_add ?_ | with_reducible refine w_sub ?_ | ((with_reducible refine w_tru ?_ ?_); exact rfl)))
    refine set_loc (get_pushl h3) (by rfl) ?_
    (repeat (first | ((with_reducible refine w_var ?_); refine ⟨_, rfl, ?_⟩) | with_reducible refine z_set ?_ | with_reducible refine z_setT ?_ | with_reducible refine z_par ?_ | with_reducible refine z_fld ?_ | with_reducible refine z_sub ?_ | with_reducible refine z_exp ?_ | with_reducible refine z_ret ?_ | with_reducible refine z_retN ?_ | with_reducible refine z_ite ?_ | with_reducible refine z_whl ?_ | with_reducible refine z_for ?_ | with_reducible refine z_pass ?_ | with_reducible refine z_brk ?_ | with_reducible refine z_cnt ?_ | with_reducible refine z_nil ?_ | with_reducible refine w_bin ?_ | with_reducible refine w_int ?_ | with_reducible refine w_str ?_ | with_reducible refine w_blc ?_ | with_reducible refine w_non ?_ | with_reducible refine w_bty ?_ | with_reducible refine w_neg ?_ | with_reducible refine w_cmp ?_ | with_reducible refine w_chn ?_ | with_reducible refine w_and ?_ | with_reducible refine w_or ?_ | with_reducible refine w_not ?_ | with_reducible refine w_ite ?_ | with_reducible refine w_fld ?_ | with_reducible refine w_ix ?_ | with_reducible refine w_sl ?_ | with_reducible refine w_no ?_ | with_reducible refine w_so ?_ | with_reducible refine w_nil ?_ | with_reducible refine w_cons ?_ | with_reducible refine w_tup ?_ | with_reducible refine w_lst ?_ | with_reducible refine w_cal ?_ | with_reducible refine w_mk ?_ | with_reducible refine w_mth ?_ | with_reducible refine w_bi ?_ | with_reducible refine w_bm ?_ | with_reducible refine w_lc ?_ | with_reducible refine w_iex ?_ | with_reducible refine w_rng1 ?_ | with_reducible refine w_rng2 ?_ | with_reducible refine w_enum ?_ | with_reducible refine w_T0 ?_ | with_reducible refine w_T1 ?_ | with_reducible refine w_add ?_ | with_reducible refine w_sub ?_ | ((with_reducible refine w_tru ?_ ?_); exact rfl)))
    exact fin _ _ _ _ (get_set (by simp; have := lt_of h3; omega)) (f4.setr (.inl (by simp)))
  · refine ⟨.int 3, S, by simp [biSem, hl], ?_⟩
    (repeat (first | ((with_reducible refine w_var ?_); refine ⟨_, rfl, ?_⟩) | with_reducible refine z_set ?_ | with_reducible refine z_setT ?_ | with_reducible refine z_par ?_ | with_reducible refine z_fld ?_ | with_reducible refine z_sub ?_ | with_reducible refine z_exp ?_ | with_reducible refine z_ret ?_ | with_reducible refine z_retN ?_ | with_reducible refine z_ite ?_ | with_reducible refine z_whl ?_ | with_reducible refine z_for ?_ | with_reducible refine z_pass ?_ | with_reducible refine z_brk ?_ | with_reducible refine z_cnt ?_ | with_reducible refine z_nil ?_ | with_reducible refine w_bin ?_ | with_reducible refine w_int ?_ | with_reducible refine w_str ?_ | with_reducible refine w_blc ?_ | with_reducible refine w_non ?_ | with_reducible refine w_bty ?_ | with_reducible refine w_neg ?_ | with_reducible refine w_cmp ?_ | with_reducible refine w_chn ?_ | with_reducible refine w_and ?_ | with_reducible refine w_or ?_ | with_reducible refine w_not ?_ | with_reducible refine w_ite ?_ | with_reducible refine w_fld ?_ | with_reducible refine w_ix ?_ | with_reducible refine w_sl ?_ | with_reducible refine w_no ?_ | with_reducible refine w_so ?_ | with_reducible refine w_nil ?_ | with_reducible refine w_cons ?_ | with_reducible refine w_tup ?_ | with_reducible refine w_lst ?_ | with_reducible refine w_cal ?_ | with_reducible refine w_mk ?_ | with_reducible refine w_mth ?_ | with_reducible refine w_bi ?_ | with_reducible refine w_bm ?_ | with_reducible refine w_lc ?_ | with_reducible refine w_iex ?_ | with_reducible refine w_rng1 ?_ | with_reducible refine w_rng2 ?_ | with_reducible refine w_enum ?_ | with_reducible refine w_T0 ?_ | with_reducible refine w_T1 ?_ | with_reducible refine w_add ?_ | with_reducible refine w_sub ?_ | ((with_reducible refine w_tru ?_ ?_); exact rfl)))
    refine ⟨false, by simp [cmpSem, eqD_int], false, rfl, fun h => (by cases h), fun _ => ?_⟩
    (repeat (first | ((with_reducible refine w_var ?_); refine ⟨_, rfl, ?_⟩) | with_reducible refine z_set ?_ | with_reducible refine z_setT ?_ | with_reducible refine z_par ?_ | with_reducible refine z_fld ?_ | with_reducible refine z_sub ?_ | with_reducible refine z_exp ?_ | with_reducible refine z_ret ?_ | with_reducible refine z_retN ?_ | with_reducible refine z_ite ?_ | with_reducible refine z_whl ?_ | with_reducible refine z_for ?_ | with_reducible refine z_pass ?_ | with_reducible refine z_brk ?_ | with_reducible refine z_cnt ?_ | with_reducible refine z_nil ?_ | with_reducible refine w_bin ?_ | with_reducible refine w_int ?_ | with_reducible refine w_str ?_ | with_reducible refine w_blc ?_ | with_reducible refine w_non ?_ | with_reducible refine w_bty ?_ | with_reducible refine w_neg ?_ | with_reducible refine w_cmp ?_ | with_reducible refine w_chn ?_ | with_reducible refine w_and ?_ | with_reducible refine w_or ?_ | with_reducible refine w_not ?_ | with_reducible refine w_ite ?_ | with_reducible refine w_fld ?_ | with_reducible refine w_ix ?_ | with_reducible refine w_sl ?_ | with_reducible refine w_no ?_ | with_reducible refine w_so ?_ | with_reducible refine w_nil ?_ | with_reducible refine w_cons ?_ | with_reducible refine w_tup ?_ | with_reducible refine w_lst ?_ | with_reducible refine w_cal ?_ | with_reducible refine w_mk ?_ | with_reducible refine w_mth ?_ | with_reducible refine w_bi ?_ | with_reducible refine w_bm ?_ | with_reducible refine w_lc ?_ | with_reducible refine w_iex ?_ | with_reducible refine w_rng1 ?_ | with_reducible refine w_rng2 ?_ | with_reducible refine w_enum ?_ | with_reducible refine w_T0 ?_ | with_reducible refine w_T1 ?_ | with_reducible refine w_add ?_ | with_reducible refine w_sub ?_ | ((with_reducible refine w_tru ?_ ?_); exact rfl)))
    exact fin S a b c hl .refl

end K25

set_option Elab.async false
set_option linter.all false
set_option maxRecDepth 100000
set_option maxHeartbeats 4000000
namespace K25
open L2 DI PySem PySem.Spec PyProof.Rows
/-! ### the strip -/
def sd (s : Bool) : Str := if s then "left" else "right"
theorem eq_sd (s s' : Bool) {S : Sto} : eqSem (.str (sd s)) (.str (sd s')) S = some (s == s') := by
  obtain ⟨t, h1, h2⟩ := eq_pl (S := S) (x := .str (sd s)) (y := .str (sd s')) (by cases s <;> decide +kernel) (by cases s' <;> decide +kernel)
  rw [h1]
  congr 1
  rw [Bool.eq_iff_iff, h2]
  cases s <;> cases s' <;> simp [sd] <;> decide
theorem cq_sd (s s' : Bool) {S : Sto} : cmpSem .Eq (.str (sd s)) (.str (sd s')) S = some (s == s') := eq_sd s s' (S := S)
structure Rw where
  s : Bool
  x : Int
  y : Int
  r : Int
  b : Int
  deriving DecidableEq
def Rw.d (q : Rw) : D := .tup [.str (sd q.s), .int q.x, .int q.y, .int q.r, .int q.b]
def Sp (S : Sto) (o l : Nat) (R : List Rw) : Prop := S[o]? = some (.ins 0 [(("rows" : Str), .loc l)]) ∧ S[l]? = some (.lst (R.map Rw.d))
theorem Sp.fr {S S' : Sto} {o l : Nat} {R : List Rw} {B : List Nat} (h : Sp S o l R) (f : DI.Fr B S S') (h1 : o ∉ B) (h2 : l ∉ B) : Sp S' o l R := ⟨f.get h.1 h1, f.get h.2 h2⟩
theorem Sp.push {S : Sto} {o l : Nat} {R : List Rw} {c : Cell} (h : Sp S o l R) : Sp (S ++ [c]) o l R := ⟨get_pushl h.1, get_pushl h.2⟩
theorem Sp.fld {S : Sto} {o l : Nat} {R : List Rw} (h : Sp S o l R) : fldSem (.loc o) 0 "rows" S = some (.loc l) := by
  simp only [fldSem, h.1, if_true]
  rfl
theorem Sp.walk {S : Sto} {o l : Nat} {R : List Rw} (h : Sp S o l R) : walkOf (.loc l) S = some (.li l) := by
  simp only [walkOf, h.2]
theorem Sp.wlen {S : Sto} {o l : Nat} {R : List Rw} (h : Sp S o l R) : wlen (.li l) S = (R.map Rw.d).length := by
  simp only [DI.wlen, h.2]
/-- the items at k (an int) of the rows of a side that reach below y -/
def pick (s : Bool) (g : Rw → Int) (R : List Rw) (y : Int) : List Int := R.filterMap fun r => if r.s = s ∧ y < r.b then some (g r) else none
def pickD (s : Bool) (g : Rw → Int) (y : Int) : D → Option D
  | .tup [.str z, .int x, .int t, .int r, .int b] => if (decide (z = sd s) && decide (y < b)) = true then some (.int (g ⟨s, x, t, r, b⟩)) else none
  | _ => none
theorem pick_map (s : Bool) (g : Rw → Int) (R : List Rw) (y : Int) : (R.map Rw.d).filterMap (pickD s g y) = (pick s g R y).map D.int := by
  unfold pick
  rw [List.filterMap_map, List.map_filterMap]
  congr 1
  funext ⟨s', x, t, r, b⟩
  by_cases h : s' = s
  · subst h
    by_cases h2 : y < b <;> simp [pickD, Rw.d, h2]
  · have : ¬ sd s' = sd s := fun e => h (by revert e; cases s' <;> cases s <;> simp [sd] <;> decide)
    simp [pickD, Rw.d, h, this]
def leftsP (R : List Rw) (st y : Int) : Int := (pick true Rw.r R y).foldl max st
def rightsP (R : List Rw) (en y : Int) : Int := (pick false Rw.x R y).foldl min en
/-- the comprehension of the three: row[k] for row in self.rows if row[0] == side and row[4] > y -/
theorem lc_pick {C : Nat → List D → Sto → Out D} {S : Sto} {o l v vy vo : Nat} {R : List Rw} (h : Sp S o l R) (hR : R.length ≤ 1000000) {σ : Sl} {s : Bool} {z : Str} {k y : Int} {g : Rw → Int} (hz : z = sd s) (hg : ∀ q : Rw, atI [D.str (sd q.s), D.int q.x, .int q.y, .int q.r, .int q.b] k = some (.int (g q)))
    (hv : v < σ.length) (hy : σ[vy]? = some (some (.int y))) (hvy : vy ≠ v) (ho : σ[vo]? = some (some (.loc o))) {nm : Str} {Q : D → Sto → Prop} (hQ : Q (.loc S.length) (S ++ [.lst ((pick s g R y).map D.int)])) :
    W (de P0 C (.lc [(nm, v)] (.nm v) (.ex (.fld 0 (.var vo) ("rows" : Str))) (.cons (.and_ (.cmp .Eq (.ix (.var v) (.cst (.int 0))) (.cst (.str z))) (.cmp .Gt (.ix (.var v) (.cst (.int 4))) (.var vy))) .nil) (.ix (.var v) (.cst (.int k)))) false σ S) Q := by
  subst hz
  refine w_lc (w_iex (w_fld (w_var ⟨_, ho, _, h.fld, _, h.walk, ?_⟩)))
  rw [h.wlen]
  refine W_mono (lcLoop_pure (pickD s g y) (li_walk h.2) (by simpa using hR) ?_) ?_
  · intro d hd acc
    obtain ⟨q, hq, rfl⟩ := List.mem_map.mp hd
    refine ⟨_, rfl, ?_⟩
    have e1 : ((wipeD σ (List.map (fun x => x.2) [(nm, v)])).set v (some q.d))[v]? = some (some q.d) := by
      simp [wipeD, hv]
    have e2 : ((wipeD σ (List.map (fun x => x.2) [(nm, v)])).set v (some q.d))[vy]? = some (some (.int y)) := by
      simp only [wipeD, List.map_cons, List.map_nil]
      rw [List.getElem?_set_ne (Ne.symm hvy), List.getElem?_set_ne (Ne.symm hvy)]
      exact hy
    generalize ((wipeD σ (List.map (fun x => x.2) [(nm, v)])).set v (some q.d)) = σ' at e1 e2
    refine w_T1 (w_and (w_cmp (w_ix (w_var ⟨_, e1, w_int ⟨_, rfl, w_str ⟨_, cq_sd q.s s, _, rfl, fun hs => ?_, fun hs => ?_⟩⟩⟩))))
    · refine w_cmp (w_ix (w_var ⟨_, e1, w_int ⟨_, rfl, w_var ⟨_, e2, _, rfl, _, rfl, rfl, fun hy => ?_, fun hy => ?_⟩⟩⟩))
      · refine w_ix (w_var ⟨_, e1, w_int ⟨.int (g q), hg q, rfl, ?_⟩⟩)
        have : q.s = s := by simpa using hs
        have h2 : y < q.b := of_decide_eq_true hy
        simp [pickD, Rw.d, this, h2]
        rw [← this]
      · have h2 : ¬ y < q.b := of_decide_eq_false hy
        simp [pickD, Rw.d, h2]
    · refine ⟨_, rfl, rfl, fun h => (by rw [hs] at h; cases h), fun _ => ?_⟩
      have : ¬ q.s = s := by simpa using hs
      have : ¬ sd q.s = sd s := fun e => this (by revert e; cases q.s <;> cases s <;> simp [sd] <;> decide)
      simp [pickD, Rw.d, this]
  · rintro u S' rfl
    rw [pick_map]
    exact hQ
theorem lefts {d o l : Nat} {S : Sto} {R : List Rw} {st y : Int} (h : Sp S o l R) (hR : R.length ≤ 1000000) {Q : D → Sto → Prop} (hQ : ∀ S', DI.Fr [] S S' → Q (.int (leftsP R st y)) S') : W (calls P0 fs (d + 1) 8 [.loc o, .int st, .int y] S) Q := by
  refine W_call (f := d_Strip_lefts) rfl rfl ?_
  show WS (dSs P0 _ t_Strip_lefts [some (.loc o), some (.int st), some (.int y), none] S) _
  unfold t_Strip_lefts
  refine z_ret (w_bi (w_cons (w_bin (w_lst (w_cons (w_var ⟨_, rfl, w_nil ⟨sz (by simp), ?_⟩⟩))))))
  refine lc_pick (s := true) (g := Rw.r) h.push hR rfl (fun _ => rfl) (by simp) rfl (by decide) rfl ?_
  refine w_addL (xs := [.int st]) (ys := (pick true Rw.r R y).map D.int) (get_pushl get_push) get_push (Nat.le_trans ?_ (by decide : 1000001 ≤ sizeLine)) ?_
  · have := List.length_filterMap_le (fun r : Rw => if r.s = true ∧ y < r.b then some (Rw.r r) else none) R
    simp only [List.length_map, pick, List.length_singleton]
    omega
  · exact w_nil ⟨_, _, bi_max1 get_push, hQ _ DI.Fr.push.pushr.pushr⟩
theorem rights {d o l : Nat} {S : Sto} {R : List Rw} {en y : Int} (h : Sp S o l R) (hR : R.length ≤ 1000000) {Q : D → Sto → Prop} (hQ : ∀ S', DI.Fr [] S S' → Q (.int (rightsP R en y)) S') : W (calls P0 fs (d + 1) 9 [.loc o, .int en, .int y] S) Q := by
  refine W_call (f := d_Strip_rights) rfl rfl ?_
  show WS (dSs P0 _ t_Strip_rights [some (.loc o), some (.int en), some (.int y), none] S) _
  unfold t_Strip_rights
  refine z_ret (w_bi (w_cons (w_bin (w_lst (w_cons (w_var ⟨_, rfl, w_nil ⟨sz (by simp), ?_⟩⟩))))))
  refine lc_pick (s := false) (g := Rw.x) h.push hR rfl (fun _ => rfl) (by simp) rfl (by decide) rfl ?_
  refine w_addL (xs := [.int en]) (ys := (pick false Rw.x R y).map D.int) (get_pushl get_push) get_push (Nat.le_trans ?_ (by decide : 1000001 ≤ sizeLine)) ?_
  · have := List.length_filterMap_le (fun r : Rw => if r.s = false ∧ y < r.b then some (Rw.x r) else none) R
    simp only [List.length_map, pick, List.length_singleton]
    omega
  · exact w_nil ⟨_, _, bi_min1 get_push, hQ _ DI.Fr.push.pushr.pushr⟩
def spotP (R : List Rw) (s : Bool) (st en w y : Int) : Option Int :=
  if s = true then (if ((!(leftsP R st y == st) && decide (en < leftsP R st y + w)) || (!(pick false Rw.x R y).isEmpty && decide ((minL (pick false Rw.x R y)).getD 0 < leftsP R st y + w))) = true then none else some (leftsP R st y))
  else (if ((!(rightsP R en y == en) && decide (rightsP R en y - w < st)) || (!(pick true Rw.r R y).isEmpty && decide (rightsP R en y - w < (maxL (pick true Rw.r R y)).getD 0))) = true then none else some (rightsP R en y - w))
def optD : Option Int → D
  | none => .non
  | some i => .int i
theorem minL_ne {l : List Int} (h : l ≠ []) : minL l = some ((minL l).getD 0) := by cases l with | nil => exact absurd rfl h | cons => rfl
theorem maxL_ne {l : List Int} (h : l ≠ []) : maxL l = some ((maxL l).getD 0) := by cases l with | nil => exact absurd rfl h | cons => rfl
theorem bi_minL {S : Sto} {a : Nat} {l : List Int} (h : S[a]? = some (.lst (l.map D.int))) (hn : l ≠ []) : biSem .min1 [.loc a] S = some (.int ((minL l).getD 0), S) := by
  simp only [biSem, listD, h, intsD_map, Option.bind]
  rw [minL_ne hn]
  rfl
theorem bi_maxL {S : Sto} {a : Nat} {l : List Int} (h : S[a]? = some (.lst (l.map D.int))) (hn : l ≠ []) : biSem .max1 [.loc a] S = some (.int ((maxL l).getD 0), S) := by
  simp only [biSem, listD, h, intsD_map, Option.bind]
  rw [maxL_ne hn]
  rfl
theorem tru_lst {S : Sto} {a : Nat} {l : List Int} (h : S[a]? = some (.lst (l.map D.int))) : truSem (.loc a) S = some (!l.isEmpty) := by
  simp only [truSem, h]
  cases l <;> rfl
theorem spot {d o l : Nat} {S : Sto} {R : List Rw} {s : Bool} {st en w y : Int} (h : Sp S o l R) (hR : R.length ≤ 1000000) {Q : D → Sto → Prop} (hQ : ∀ S', DI.Fr [] S S' → Q (optD (spotP R s st en w y)) S') : W (calls P0 fs (d + 2) 10 [.loc o, .str (sd s), .int st, .int en, .int w, .int y] S) Q := by
  refine W_call (f := d_Strip_spot) rfl rfl ?_
  show WS (dSs P0 _ t_Strip_spot [some (.loc o), some (.str (sd s)), some (.int st), some (.int en), some (.int w), some (.int y), none, none, none, none] S) _
  unfold t_Strip_spot
  refine z_par (w_mth (w_var ⟨_, rfl, _, _, rfl, h.1, rfl, w_cons (w_var ⟨_, rfl, w_cons (w_var ⟨_, rfl, w_nil (lefts h hR fun S1 f1 => ?_)⟩)⟩)⟩))
  have h1 := h.fr f1 (by simp) (by simp)
  refine w_mth (w_var ⟨_, rfl, _, _, rfl, h1.1, rfl, w_cons (w_var ⟨_, rfl, w_cons (w_var ⟨_, rfl, w_nil (rights h1 hR fun S2 f2 => ?_)⟩)⟩)⟩)
  have h2 := h1.fr f2 (by simp) (by simp)
  have f3 := f1.trans f2
  simp only [List.set_cons_succ, List.set_cons_zero]
  refine z_iteT (p := (s == true)) (T_cmp (V_var rfl) V_str (cq_sd s true)) (fun hs => ?_) (fun hs => ?_)
  · have hs : s = true := by simpa using hs
    subst hs
    unfold t_Strip_spot_3
    refine z_set (lc_pick (s := false) (g := Rw.x) h2 hR rfl (fun _ => rfl) (by simp) rfl (by decide) rfl ?_)
    simp only [List.set_cons_succ, List.set_cons_zero]
    have e : (S2 ++ [Cell.lst ((pick false Rw.x R y).map D.int)])[S2.length]? = some (.lst ((pick false Rw.x R y).map D.int)) := get_push
    have hq : ∀ v, spotP R true st en w y = v → Q (optD v) (S2 ++ [Cell.lst ((pick false Rw.x R y).map D.int)]) := fun v ev => by rw [← ev]; exact hQ _ f3.pushr
    refine z_iteT (p := ((!(leftsP R st y == st) && decide (en < leftsP R st y + w)) || (!(pick false Rw.x R y).isEmpty && decide ((minL (pick false Rw.x R y)).getD 0 < leftsP R st y + w)))) (T_or (T_and (T_cmp (V_var rfl) (V_var rfl) (by simp [cmpSem, eqD_int])) fun _ => T_cmp (V_bin (V_var rfl) (V_var rfl) rfl) (V_var rfl) rfl) fun _ => T_and (T_tru rfl (V_var rfl) (tru_lst e)) fun hn => T_cmp (V_bin (V_var rfl) (V_var rfl) rfl) (V_bi1 (V_var rfl) (bi_minL e (by intro q; rw [q] at hn; cases hn))) rfl) (fun ht => ?_) (fun ht => ?_)
    · unfold t_Strip_spot_1
      exact z_ret (w_non (hq none (by unfold spotP; rw [if_pos rfl, if_pos ht])))
    · refine z_nil ?_
      dsimp only
      unfold t_Strip_spot_2
      refine z_ret (w_var ⟨_, rfl, ?_⟩)
      exact hq (some _) (by unfold spotP; rw [if_pos rfl, if_neg (by rw [ht]; simp)])
  · have hs : s = false := by simpa using hs
    subst hs
    refine z_nil ?_
    unfold t_Strip_spot_6
    refine z_set (lc_pick (s := true) (g := Rw.r) h2 hR rfl (fun _ => rfl) (by simp) rfl (by decide) rfl ?_)
    simp only [List.set_cons_succ, List.set_cons_zero]
    have e : (S2 ++ [Cell.lst ((pick true Rw.r R y).map D.int)])[S2.length]? = some (.lst ((pick true Rw.r R y).map D.int)) := get_push
    have hq : ∀ v, spotP R false st en w y = v → Q (optD v) (S2 ++ [Cell.lst ((pick true Rw.r R y).map D.int)]) := fun v ev => by rw [← ev]; exact hQ _ f3.pushr
    refine z_iteT (p := ((!(rightsP R en y == en) && decide (rightsP R en y - w < st)) || (!(pick true Rw.r R y).isEmpty && decide (rightsP R en y - w < (maxL (pick true Rw.r R y)).getD 0)))) (T_or (T_and (T_cmp (V_var rfl) (V_var rfl) (by simp [cmpSem, eqD_int])) fun _ => T_cmp (V_bin (V_var rfl) (V_var rfl) rfl) (V_var rfl) rfl) fun _ => T_and (T_tru rfl (V_var rfl) (tru_lst e)) fun hn => T_cmp (V_bin (V_var rfl) (V_var rfl) rfl) (V_bi1 (V_var rfl) (bi_maxL e (by intro q; rw [q] at hn; cases hn))) rfl) (fun ht => ?_) (fun ht => ?_)
    · unfold t_Strip_spot_4
      exact z_ret (w_non (hq none (by unfold spotP; rw [if_neg (by decide), if_pos ht])))
    · refine z_nil ?_
      dsimp only
      unfold t_Strip_spot_5
      refine z_ret (V_use (V_bin (V_var rfl) (V_var rfl) rfl) ?_)
      exact hq (some _) (by unfold spotP; rw [if_neg (by decide), if_neg (by rw [ht]; simp)])
def botP (R : List Rw) (y : Int) : List Int := R.filterMap fun r => if y < r.b then some r.b else none
def belowP (R : List Rw) (y : Int) : Option Int := minL (botP R y)
theorem below {d o l : Nat} {S : Sto} {R : List Rw} {y : Int} (h : Sp S o l R) (hR : R.length ≤ 1000000) {Q : D → Sto → Prop} (hQ : ∀ S', DI.Fr [] S S' → Q (optD (belowP R y)) S') : W (calls P0 fs (d + 1) 11 [.loc o, .int y] S) Q := by
  refine W_call (f := d_Strip_below) rfl rfl ?_
  show WS (dSs P0 _ t_Strip_below [some (.loc o), some (.int y), none, none] S) _
  unfold t_Strip_below
  refine z_set (w_lc (w_iex (w_fld (w_var ⟨_, rfl, _, h.fld, _, h.walk, ?_⟩))))
  rw [h.wlen]
  refine W_mono (lcLoop_pure (fun d => match d with | .tup [_, _, _, _, .int b] => if y < b then some (.int b) else none | _ => none) (li_walk h.2) (by simpa using hR) ?_) ?_
  · intro d hd acc
    obtain ⟨q, hq, rfl⟩ := List.mem_map.mp hd
    refine ⟨_, rfl, ?_⟩
    refine w_T1 (T_use (T_cmp (V_ix (V_var rfl) V_int rfl) (V_var rfl) rfl) ⟨_, rfl, rfl, fun ht => ?_, fun ht => ?_⟩)
    · refine V_use (V_ix (V_var rfl) V_int rfl) ⟨rfl, ?_⟩
      have h2 : y < q.b := of_decide_eq_true ht
      simp [Rw.d, h2]
    · have h2 : ¬ y < q.b := of_decide_eq_false ht
      simp [Rw.d, h2]
  · rintro u S' rfl
    have em : (R.map Rw.d).filterMap (fun d => match d with | .tup [_, _, _, _, .int b] => if y < b then some (.int b) else none | _ => none) = (botP R y).map D.int := by
      unfold botP
      rw [List.filterMap_map, List.map_filterMap]
      congr 1
      funext q
      by_cases h2 : y < q.b <;> simp [Rw.d, h2]
    rw [em]
    have e : (S ++ [Cell.lst ((botP R y).map D.int)])[S.length]? = some (.lst ((botP R y).map D.int)) := get_push
    simp only [List.set_cons_succ, List.set_cons_zero]
    refine z_ret (w_iteT (T_tru rfl (V_var rfl) (tru_lst e)) (fun ht => ?_) (fun ht => ?_))
    · have hne : botP R y ≠ [] := by intro q; rw [q] at ht; cases ht
      refine V_use (V_bi1 (V_var rfl) (bi_minL e hne)) ?_
      have := hQ _ (DI.Fr.push (S := S) (c := Cell.lst ((botP R y).map D.int)))
      unfold belowP at this
      rw [minL_ne hne] at this
      exact this
    · have hne : botP R y = [] := by cases hb : botP R y with | nil => rfl | cons a b => rw [hb] at ht; cases ht
      refine w_non ?_
      have := hQ _ (DI.Fr.push (S := S) (c := Cell.lst ((botP R y).map D.int)))
      unfold belowP at this
      rw [hne] at this ⊢
      exact this
/-- where a float comes to: the walk down -/
inductive Go (R : List Rw) (s : Bool) (st en w : Int) : Int → Int → Int → Prop
  | stop {y x : Int} : spotP R s st en w y = some x → Go R s st en w y x y
  | step {y y' x z : Int} : spotP R s st en w y = none → belowP R y = some y' → Go R s st en w y' x z → Go R s st en w y x z
theorem Go.det {R : List Rw} {s : Bool} {st en w y x z x' z' : Int} (a : Go R s st en w y x z) : Go R s st en w y x' z' → x = x' ∧ z = z' := by
  induction a with
  | stop h =>
    intro b
    cases b with
    | stop h2 => rw [h] at h2; cases h2; exact ⟨rfl, rfl⟩
    | step h2 => rw [h] at h2; cases h2
  | step h hb _ ih =>
    intro b
    cases b with
    | stop h2 => rw [h] at h2; cases h2
    | step h2 hb2 g => rw [hb] at hb2; cases hb2; exact ih g
def cnt (R : List Rw) (y : Int) : Nat := R.countP fun r => decide (y < r.b)
theorem cnt_lt {R : List Rw} {y y' : Int} (hy : y < y') {r : Rw} (hr : r ∈ R) (h1 : y < r.b) (h2 : r.b ≤ y') : cnt R y' < cnt R y := by
  unfold cnt
  induction R with
  | nil => cases hr
  | cons q R ih =>
    have mono : R.countP (fun r => decide (y' < r.b)) ≤ R.countP (fun r => decide (y < r.b)) := List.countP_mono_left fun r _ h => by
      have := of_decide_eq_true h
      exact decide_eq_true (by omega)
    rw [List.countP_cons, List.countP_cons]
    rcases List.mem_cons.mp hr with rfl | hr
    · have e1 : decide (y' < r.b) = false := decide_eq_false (by omega)
      have e2 : decide (y < r.b) = true := decide_eq_true h1
      rw [e1, e2]
      simp
      omega
    · have := ih hr
      by_cases c : y' < q.b
      · have : y < q.b := by omega
        simp [c, this]; omega
      · simp [c]; omega
theorem below_some {R : List Rw} {y : Int} (h : ∃ r ∈ R, y < r.b) : ∃ y', belowP R y = some y' ∧ cnt R y' < cnt R y := by
  obtain ⟨r, hr, hb⟩ := h
  have hm : r.b ∈ botP R y := List.mem_filterMap.mpr ⟨r, hr, by simp [hb]⟩
  have hne : botP R y ≠ [] := fun e => by rw [e] at hm; cases hm
  refine ⟨(minL (botP R y)).getD 0, minL_ne hne, ?_⟩
  have hin : (minL (botP R y)).getD 0 ∈ botP R y := by
    cases e : botP R y with
    | nil => exact absurd e hne
    | cons i l =>
      show l.foldl min i ∈ i :: l
      rcases (foldl_min l i).2.2 with h3 | h3
      · rw [h3]; simp
      · exact List.mem_cons_of_mem _ h3
  obtain ⟨q, hq, e⟩ := List.mem_filterMap.mp hin
  by_cases c : y < q.b
  · rw [if_pos c] at e
    have e : q.b = (minL (botP R y)).getD 0 := Option.some.inj e
    exact cnt_lt (by omega) hq c (by omega)
  · rw [if_neg c] at e; cases e
theorem pick_ex {s : Bool} {g : Rw → Int} {R : List Rw} {y : Int} (h : pick s g R y ≠ []) : ∃ r ∈ R, y < r.b := by
  obtain ⟨i, hi⟩ := List.exists_mem_of_ne_nil _ h
  obtain ⟨r, hr, e⟩ := List.mem_filterMap.mp hi
  by_cases c : r.s = s ∧ y < r.b
  · exact ⟨r, hr, c.2⟩
  · rw [if_neg c] at e; cases e
theorem spot_none {R : List Rw} {s : Bool} {st en w y : Int} (h : spotP R s st en w y = none) : ∃ r ∈ R, y < r.b := by
  apply Classical.byContradiction
  intro hn
  have e1 : pick true Rw.r R y = [] := Classical.byContradiction fun q => hn (pick_ex q)
  have e2 : pick false Rw.x R y = [] := Classical.byContradiction fun q => hn (pick_ex q)
  unfold spotP leftsP rightsP at h
  rw [e1, e2] at h
  cases s <;> simp at h
theorem Go.ex (R : List Rw) (s : Bool) (st en w : Int) : ∀ (n : Nat) (y : Int), cnt R y ≤ n → ∃ x z, Go R s st en w y x z := by
  intro n
  induction n with
  | zero =>
    intro y h
    cases e : spotP R s st en w y with
    | some x => exact ⟨x, y, .stop e⟩
    | none =>
      obtain ⟨y', _, h2⟩ := below_some (spot_none e)
      omega
  | succ n ih =>
    intro y h
    cases e : spotP R s st en w y with
    | some x => exact ⟨x, y, .stop e⟩
    | none =>
      obtain ⟨y', h1, h2⟩ := below_some (spot_none e)
      obtain ⟨x, z, g⟩ := ih y' (by omega)
      exact ⟨x, z, .step e h1 g⟩
structure Ask where
  s : Bool
  st : Int
  en : Int
  w : Int
  h : Int
  t : Int
  deriving DecidableEq
def top0 (R : List Rw) (t : Int) : Int := (R.map Rw.y).foldl max t
open Classical in
noncomputable def placeP (R : List Rw) (a : Ask) : Rw :=
  let e := Go.ex R a.s a.st a.en (max 0 a.w) (cnt R (top0 R a.t)) (top0 R a.t) (Nat.le_refl _)
  let x := choose e
  let z := choose (choose_spec e)
  ⟨a.s, x, z, x + max 0 a.w, z + max 0 a.h⟩
theorem placeP_of {R : List Rw} {a : Ask} {x z : Int} (g : Go R a.s a.st a.en (max 0 a.w) (top0 R a.t) x z) : placeP R a = ⟨a.s, x, z, x + max 0 a.w, z + max 0 a.h⟩ := by
  have e := Go.ex R a.s a.st a.en (max 0 a.w) (cnt R (top0 R a.t)) (top0 R a.t) (Nat.le_refl _)
  have g2 := Classical.choose_spec (Classical.choose_spec e)
  obtain ⟨h1, h2⟩ := g.det g2
  have f : ∀ x' z', x = x' → z = z' → (⟨a.s, x', z', x' + max 0 a.w, z' + max 0 a.h⟩ : Rw) = ⟨a.s, x, z, x + max 0 a.w, z + max 0 a.h⟩ := by rintro _ _ rfl rfl; rfl
  exact f _ _ h1 h2
def askL (a : Ask) : List D := [.str (sd a.s), .int a.st, .int a.en, .int a.w, .int a.h, .int a.t]
theorem Sp.ne {S : Sto} {o l : Nat} {R : List Rw} (h : Sp S o l R) : o ≠ l := by
  rintro rfl
  have := h.1.symm.trans h.2
  cases this
theorem place {d o l : Nat} {S : Sto} {R : List Rw} {a : Ask} (h : Sp S o l R) (hR : R.length < 1000000) {Q : D → Sto → Prop} (hQ : ∀ S', DI.Fr [l] S S' → Sp S' o l (R ++ [placeP R a]) → Q (placeP R a).d S') : W (calls P0 fs (d + 3) 12 (.loc o :: askL a) S) Q := by
  refine W_call (f := d_Strip_place) rfl rfl ?_
  obtain ⟨s, st, en, w, hh, t⟩ := a
  show WS (dSs P0 _ t_Strip_place [some (.loc o), some (.str (sd s)), some (.int st), some (.int en), some (.int w), some (.int hh), some (.int t), none, none, none, none, none] S) _
  unfold t_Strip_place
  have hin : inSem (.str (sd s)) (.tup [.str "left", .str "right"]) S = some true := by cases s <;> rfl
  refine z_iteT (p := false) (T_cast (q := false) (T_or (p := false) (q := false) (T_cast (T_not (T_tru (p := true) rfl (V_bi2 (z := .bl true) (V_var rfl) V_bty rfl) rfl)) rfl) fun _ => T_cmp (y := .tup [.str "left", .str "right"]) (V_var rfl) (w_tup (w_cons (w_str (w_cons (w_str (w_nil ⟨sz (by decide), rfl, rfl⟩)))))) (by simp only [cmpSem, hin]; rfl)) rfl) (fun h => by cases h) fun _ => ?_
  refine z_nil ?_
  dsimp only
  unfold t_Strip_place_4
  refine z_par (V_use (V_bi2 V_int (V_var rfl) rfl) (V_use (V_bi2 V_int (V_var rfl) rfl) ?_))
  refine z_set (w_bi (w_cons (w_bin (w_lst (w_cons (w_var ⟨_, rfl, w_nil ⟨sz (by simp), ?_⟩⟩))))))
  have h1 : Sp (S ++ [Cell.lst [D.int t]]) o l R := h.push
  refine w_lc (w_iex (w_fld (w_var ⟨_, rfl, _, h1.fld, _, h1.walk, ?_⟩)))
  rw [h1.wlen]
  refine W_mono (lcLoop_pure (fun d => match d with | .tup [_, _, y, _, _] => some y | _ => none) (li_walk h1.2) (by simpa using Nat.le_of_lt hR) ?_) ?_
  · intro d hd acc
    obtain ⟨q, hq, rfl⟩ := List.mem_map.mp hd
    exact ⟨_, rfl, w_T0 ⟨rfl, fun _ => V_use (V_ix (V_var rfl) V_int rfl) ⟨rfl, rfl⟩, fun h => by cases h⟩⟩
  rintro u S2 rfl
  have em : (R.map Rw.d).filterMap (fun d => match d with | .tup [_, _, y, _, _] => some y | _ => none) = (R.map Rw.y).map D.int := by
    rw [List.filterMap_map, List.map_map]
    show R.filterMap (fun r => some (D.int r.y)) = _
    rw [List.filterMap_eq_map']
    rfl
  rw [em]
  refine w_addL (xs := [.int t]) (ys := (R.map Rw.y).map D.int) (get_pushl get_push) get_push (Nat.le_trans ?_ (by decide : 1000001 ≤ sizeLine)) ?_
  · simp only [List.length_map, List.length_singleton]
    omega
  refine w_nil ⟨_, _, bi_max1 get_push, ?_⟩
  have h3 := (h1.push (c := Cell.lst ((R.map Rw.y).map D.int))).push (c := Cell.lst ([D.int t] ++ (R.map Rw.y).map D.int))
  have f3 : DI.Fr [] S (((S ++ [Cell.lst [D.int t]]) ++ [Cell.lst ((R.map Rw.y).map D.int)]) ++ [Cell.lst ([D.int t] ++ (R.map Rw.y).map D.int)]) := DI.Fr.push.pushr.pushr
  generalize (((S ++ [Cell.lst [D.int t]]) ++ [Cell.lst ((R.map Rw.y).map D.int)]) ++ [Cell.lst ([D.int t] ++ (R.map Rw.y).map D.int)]) = S3 at h3 f3
  simp only [List.set_cons_succ, List.set_cons_zero]
  refine z_set (w_mth (w_var ⟨_, rfl, _, _, rfl, h3.1, rfl, w_cons (w_var ⟨_, rfl, w_cons (w_var ⟨_, rfl, w_cons (w_var ⟨_, rfl, w_cons (w_var ⟨_, rfl, w_cons (w_var ⟨_, rfl, w_nil (spot h3 (Nat.le_of_lt hR) fun S4 f4 => ?_)⟩)⟩)⟩)⟩)⟩)⟩))
  have h4 := h3.fr f4 (by simp) (by simp)
  have f5 := f3.trans f4
  simp only [List.set_cons_succ, List.set_cons_zero]
  obtain ⟨x, z, g⟩ := Go.ex R s st en (max 0 w) (cnt R (top0 R t)) (top0 R t) (Nat.le_refl _)
  have ep : placeP R ⟨s, st, en, w, hh, t⟩ = ⟨s, x, z, x + max 0 w, z + max 0 hh⟩ := placeP_of g
  rw [ep] at hQ
  refine z_whl (WS_whl (fun n σ' S' => ∃ y, n = cnt R y ∧ Go R s st en (max 0 w) y x z ∧ Sp S' o l R ∧ DI.Fr [] S S' ∧ σ' = [some (D.loc o), some (D.str (sd s)), some (D.int st), some (D.int en), some (D.int w), some (D.int hh), some (D.int t), some (D.int (max 0 w)), some (D.int (max 0 hh)), some (D.int y), some (optD (spotP R s st en (max 0 w) y)), none]) ⟨_, rfl, g, h4, f5, rfl⟩ ?_)
  rintro n σ' S' ⟨y, rfl, gy, hy, fy, rfl⟩
  rw [W_tst]
  refine T_use (p := (spotP R s st en (max 0 w) y).isNone) (T_cmp (V_var rfl) V_non (by cases spotP R s st en (max 0 w) y <;> rfl)) ?_
  cases e : spotP R s st en (max 0 w) y with
  | none =>
    show if true = true then _ else _
    rw [if_pos rfl]
    unfold t_Strip_place_2
    obtain ⟨y', hb, hc⟩ := below_some (spot_none e)
    refine z_set (w_mth (w_var ⟨_, rfl, _, _, rfl, hy.1, rfl, w_cons (w_var ⟨_, rfl, w_nil (below hy (Nat.le_of_lt hR) fun S6 f6 => ?_)⟩)⟩))
    have h6 := hy.fr f6 (by simp) (by simp)
    rw [hb]
    simp only [List.set_cons_succ, List.set_cons_zero]
    refine z_set (w_mth (w_var ⟨_, rfl, _, _, rfl, h6.1, rfl, w_cons (w_var ⟨_, rfl, w_cons (w_var ⟨_, rfl, w_cons (w_var ⟨_, rfl, w_cons (w_var ⟨_, rfl, w_cons (w_var ⟨_, rfl, w_nil (spot h6 (Nat.le_of_lt hR) fun S7 f7 => ?_)⟩)⟩)⟩)⟩)⟩)⟩))
    have h7 := h6.fr f7 (by simp) (by simp)
    simp only [List.set_cons_succ, List.set_cons_zero]
    refine z_nil ⟨_, hc, y', rfl, ?_, h7, (fy.trans f6).trans f7, rfl⟩
    cases gy with
    | stop h2 => rw [e] at h2; cases h2
    | step h2 hb2 g2 => rw [hb] at hb2; cases hb2; exact g2
  | some x' =>
    show if false = true then _ else _
    rw [if_neg (by decide)]
    have exz : x = x' ∧ z = y := by
      cases gy with
      | stop h2 => rw [e] at h2; cases h2; exact ⟨rfl, rfl⟩
      | step h2 => rw [e] at h2; cases h2
    obtain ⟨rfl, rfl⟩ := exz
    dsimp only
    unfold t_Strip_place_3
    refine z_exp (w_bm (w_fld (w_var ⟨_, rfl, _, hy.fld, l, _, rfl, hy.2, ?_⟩)))
    refine w_cons (w_tup (w_cons (w_var ⟨_, rfl, w_cons (w_var ⟨_, rfl, w_cons (w_var ⟨_, rfl, ?_⟩)⟩)⟩)))
    refine w_cons (V_use (V_bin (V_var rfl) (V_var rfl) rfl) (w_cons (V_use (V_bin (V_var rfl) (V_var rfl) rfl) (w_nil ⟨sz (by simp), w_nil ?_⟩))))
    refine ⟨.non, S'.set l (.lst ((R ++ [Rw.mk s x z (x + max 0 w) (z + max 0 hh)]).map Rw.d)), ?_, ?_⟩
    · simp only [bmSem, hy.2]
      rw [if_pos (by simp only [List.length_map]; exact Nat.lt_of_lt_of_le hR (by decide)), List.map_append]
      rfl
    · have h8 : Sp (S'.set l (.lst ((R ++ [Rw.mk s x z (x + max 0 w) (z + max 0 hh)]).map Rw.d))) o l (R ++ [Rw.mk s x z (x + max 0 w) (z + max 0 hh)]) := ⟨by rw [get_setn (Ne.symm hy.ne)]; exact hy.1, get_set (lt_of hy.2)⟩
      refine z_ret (V_use (V_ix (z := Rw.d (Rw.mk s x z (x + max 0 w) (z + max 0 hh))) (V_fld (V_var rfl) h8.fld) (V_neg V_int) ?_) ?_)
      · simp only [itemSem, h8.2]
        unfold atI
        have e2 : ixN (List.map Rw.d (R ++ [Rw.mk s x z (x + max 0 w) (z + max 0 hh)])).length (-1) = some R.length := by
          unfold ixN
          simp
          omega
        rw [e2]
        simp
      · exact hQ _ ((fy.sub (by simp)).setr (.inl (by simp))) h8
end K25

set_option Elab.async false
set_option linter.all false
set_option maxRecDepth 100000
set_option maxHeartbeats 4000000
namespace K25
open L2 DI PySem PySem.Spec PyProof.Rows
theorem one {d i a : Nat} {S : Sto} {xs : List D} (h : St S i) (ha : S[a]? = some (.lst xs)) (hia : a ≠ i) (h0 : 0 < xs.length) (h1 : xs.length < 1000000) {Q : D → Sto → Prop}
    (hQ : ∀ (x : D) (S' : Sto), x ∈ xs → St S' i → DI.Fr [i] S S' → Q x S') : W (calls P0 fs (d + 2) 3 [.loc i, .loc a] S) Q := by
  refine W_call (f := d_law_one) rfl rfl ?_
  show WS (dSs P0 _ t_law_one [some (.loc i), some (.loc a)] S) _
  unfold t_law_one
  refine z_ret (w_ix (w_var ⟨_, rfl, w_cal (w_cons (w_var ⟨_, rfl, w_cons (V_use (V_bi1 (V_var rfl) (z := .int xs.length) (by simp only [biSem, ha])) (w_nil ?_))⟩))⟩))
  refine digit h (by omega) (by omega) fun x S' hx hx2 h' f => ?_
  have hx' := f.get ha (by simpa using hia)
  obtain ⟨y, hy, e⟩ := atI_of hx hx2
  exact ⟨y, by simp only [itemSem, hx', e], hQ y S' (List.mem_of_getElem? hy) h' f⟩
theorem oneI {d i : Nat} {S : Sto} {xs : List D} (h : St S i) (hx : ∀ x ∈ xs, ∃ n : Int, x = .int n) (h0 : 0 < xs.length) (h1 : xs.length < 1000000) {Q : D → Sto → Prop}
    (hQ : ∀ (x : Int) (S' : Sto), St S' i → DI.Fr [i] S S' → Q (.int x) S') : W (calls P0 fs (d + 2) 3 [.loc i, .loc S.length] (S ++ [.lst xs])) Q := by
  have hl := h.lt
  refine one (h.fr (B := []) DI.Fr.push (by simp)) get_push (by omega) h0 h1 fun x S' hm h' f => ?_
  obtain ⟨n, rfl⟩ := hx x hm
  exact hQ n S' h' (DI.Fr.push.trans f)
theorem asked {d i : Nat} {S : Sto} {m : Int} (h : St S i) (h0 : 0 < m) (h1 : m ≤ 1000000) {Q : D → Sto → Prop}
    (hQ : ∀ (a : Ask) (S' : Sto), St S' i → DI.Fr [i] S S' → Q (.tup (askL a)) S') : W (calls P0 fs (d + 3) 4 [.loc i, .int m] S) Q := by
  refine W_call (f := d_law_asked) rfl rfl ?_
  show WS (dSs P0 _ t_law_asked [some (.loc i), some (.int m), none, none, none, none] S) _
  unfold t_law_asked
  (repeat (first | ((with_reducible refine w_var ?_); refine ⟨_, rfl, ?_⟩) | with_reducible refine z_set ?_ | with_reducible refine z_setT ?_ | with_reducible refine z_par ?_ | with_reducible refine z_fld ?_ | with_reducible refine z_sub ?_ | with_reducible refine z_exp ?_ | with_reducible refine z_ret ?_ | with_reducible refine z_retN ?_ | with_reducible refine z_ite ?_ | with_reducible refine z_whl ?_ | with_reducible refine z_for ?_ | with_reducible refine z_pass ?_ | with_reducible refine z_brk ?_ | with_reducible refine z_cnt ?_ | with_reducible refine z_nil ?_ | with_reducible refine w_bin ?_ | with_reducible refine w_int ?_ | with_reducible refine w_str ?_ | with_reducible refine w_blc ?_ | with_reducible refine w_non ?_ | with_reducible refine w_bty ?_ | with_reducible refine w_neg ?_ | with_reducible refine w_cmp ?_ | with_reducible refine w_chn ?_ | with_reducible refine w_and ?_ | with_reducible refine w_or ?_ | with_reducible refine w_not ?_ | with_reducible refine w_ite ?_ | with_reducible refine w_fld ?_ | with_reducible refine w_ix ?_ | with_reducible refine w_sl ?_ | with_reducible refine w_no ?_ | with_reducible refine w_so ?_ | with_reducible refine w_nil ?_ | with_reducible refine w_cons ?_ | with_reducible refine w_tup ?_ | with_reducible refine w_lst ?_ | with_reducible refine w_cal ?_ | with_reducible refine w_mk ?_ | with_reducible refine w_mth ?_ | with_reducible refine w_bi ?_ | with_reducible refine w_bm ?_ | with_reducible refine w_lc ?_ | with_reducible refine w_iex ?_ | with_reducible refine w_rng1 ?_ | with_reducible refine w_rng2 ?_ | with_reducible refine w_enum ?_ | with_reducible refine w_T0 ?_ | with_reducible refine w_T1 ?_ | with_reducible refine w_add ?_ | with_reducible refine w_sub ?_ | ((with_reducible refine w_tru ?_ ?_); exact rfl)))
  refine digit h h0 (by omega) fun x1 S1 hx1 hx1' h2 f1 => ?_
  (repeat (first | ((with_reducible refine w_var ?_); refine ⟨_, rfl, ?_⟩) | with_reducible refine z_set ?_ | with_reducible refine z_setT ?_ | with_reducible refine z_par ?_ | with_reducible refine z_fld ?_ | with_reducible refine z_sub ?_ | with_reducible refine z_exp ?_ | with_reducible refine z_ret ?_ | with_reducible refine z_retN ?_ | with_reducible refine z_ite ?_ | with_reducible refine z_whl ?_ | with_reducible refine z_for ?_ | with_reducible refine z_pass ?_ | with_reducible refine z_brk ?_ | with_reducible refine z_cnt ?_ | with_reducible refine z_nil ?_ | with_reducible refine w_bin ?_ | with_reducible refine w_int ?_ | with_reducible refine w_str ?_ | with_reducible refine w_blc ?_ | with_reducible refine w_non ?_ | with_reducible refine w_bty ?_ | with_reducible refine w_neg ?_ | with_reducible refine w_cmp ?_ | with_reducible refine w_chn ?_ | with_reducible refine w_and ?_ | with_reducible refine w_or ?_ | with_reducible refine w_not ?_ | with_reducible refine w_ite ?_ | with_reducible refine w_fld ?_ | with_reducible refine w_ix ?_ | with_reducible refine w_sl ?_ | with_reducible refine w_no ?_ | with_reducible refine w_so ?_ | with_reducible refine w_nil ?_ | with_reducible refine w_cons ?_ | with_reducible refine w_tup ?_ | with_reducible refine w_lst ?_ | with_reducible refine w_cal ?_ | with_reducible refine w_mk ?_ | with_reducible refine w_mth ?_ | with_reducible refine w_bi ?_ | with_reducible refine w_bm ?_ | with_reducible refine w_lc ?_ | with_reducible refine w_iex ?_ | with_reducible refine w_rng1 ?_ | with_reducible refine w_rng2 ?_ | with_reducible refine w_enum ?_ | with_reducible refine w_T0 ?_ | with_reducible refine w_T1 ?_ | with_reducible refine w_add ?_ | with_reducible refine w_sub ?_ | ((with_reducible refine w_tru ?_ ?_); exact rfl)))
  refine w_div (by omega) ?_
  (repeat (first | ((with_reducible refine w_var ?_); refine ⟨_, rfl, ?_⟩) | with_reducible refine z_set ?_ | with_reducible refine z_setT ?_ | with_reducible refine z_par ?_ | with_reducible refine z_fld ?_ | with_reducible refine z_sub ?_ | with_reducible refine z_exp ?_ | with_reducible refine z_ret ?_ | with_reducible refine z_retN ?_ | with_reducible refine z_ite ?_ | with_reducible refine z_whl ?_ | with_reducible refine z_for ?_ | with_reducible refine z_pass ?_ | with_reducible refine z_brk ?_ | with_reducible refine z_cnt ?_ | with_reducible refine z_nil ?_ | with_reducible refine w_bin ?_ | with_reducible refine w_int ?_ | with_reducible refine w_str ?_ | with_reducible refine w_blc ?_ | with_reducible refine w_non ?_ | with_reducible refine w_bty ?_ | with_reducible refine w_neg ?_ | with_reducible refine w_cmp ?_ | with_reducible refine w_chn ?_ | with_reducible refine w_and ?_ | with_reducible refine w_or ?_ | with_reducible refine w_not ?_ | with_reducible refine w_ite ?_ | with_reducible refine w_fld ?_ | with_reducible refine w_ix ?_ | with_reducible refine w_sl ?_ | with_reducible refine w_no ?_ | with_reducible refine w_so ?_ | with_reducible refine w_nil ?_ | with_reducible refine w_cons ?_ | with_reducible refine w_tup ?_ | with_reducible refine w_lst ?_ | with_reducible refine w_cal ?_ | with_reducible refine w_mk ?_ | with_reducible refine w_mth ?_ | with_reducible refine w_bi ?_ | with_reducible refine w_bm ?_ | with_reducible refine w_lc ?_ | with_reducible refine w_iex ?_ | with_reducible refine w_rng1 ?_ | with_reducible refine w_rng2 ?_ | with_reducible refine w_enum ?_ | with_reducible refine w_T0 ?_ | with_reducible refine w_T1 ?_ | with_reducible refine w_add ?_ | with_reducible refine w_sub ?_ | ((with_reducible refine w_tru ?_ ?_); exact rfl)))
  try simp only [List.set_cons_succ, List.set_cons_zero]
  (repeat (first | ((with_reducible refine w_var ?_); refine ⟨_, rfl, ?_⟩) | with_reducible refine z_set ?_ | with_reducible refine z_setT ?_ | with_reducible refine z_par ?_ | with_reducible refine z_fld ?_ | with_reducible refine z_sub ?_ | with_reducible refine z_exp ?_ | with_reducible refine z_ret ?_ | with_reducible refine z_retN ?_ | with_reducible refine z_ite ?_ | with_reducible refine z_whl ?_ | with_reducible refine z_for ?_ | with_reducible refine z_pass ?_ | with_reducible refine z_brk ?_ | with_reducible refine z_cnt ?_ | with_reducible refine z_nil ?_ | with_reducible refine w_bin ?_ | with_reducible refine w_int ?_ | with_reducible refine w_str ?_ | with_reducible refine w_blc ?_ | with_reducible refine w_non ?_ | with_reducible refine w_bty ?_ | with_reducible refine w_neg ?_ | with_reducible refine w_cmp ?_ | with_reducible refine w_chn ?_ | with_reducible refine w_and ?_ | with_reducible refine w_or ?_ | with_reducible refine w_not ?_ | with_reducible refine w_ite ?_ | with_reducible refine w_fld ?_ | with_reducible refine w_ix ?_ | with_reducible refine w_sl ?_ | with_reducible refine w_no ?_ | with_reducible refine w_so ?_ | with_reducible refine w_nil ?_ | with_reducible refine w_cons ?_ | with_reducible refine w_tup ?_ | with_reducible refine w_lst ?_ | with_reducible refine w_cal ?_ | with_reducible refine w_mk ?_ | with_reducible refine w_mth ?_ | with_reducible refine w_bi ?_ | with_reducible refine w_bm ?_ | with_reducible refine w_lc ?_ | with_reducible refine w_iex ?_ | with_reducible refine w_rng1 ?_ | with_reducible refine w_rng2 ?_ | with_reducible refine w_enum ?_ | with_reducible refine w_T0 ?_ | with_reducible refine w_T1 ?_ | with_reducible refine w_add ?_ | with_reducible refine w_sub ?_ | ((with_reducible refine w_tru ?_ ?_); exact rfl)))
  refine digit h2 h0 (by omega) fun x2 S2 hx2 hx2' h3 f2 => ?_
  (repeat (first | ((with_reducible refine w_var ?_); refine ⟨_, rfl, ?_⟩) | with_reducible refine z_set ?_ | with_reducible refine z_setT ?_ | with_reducible refine z_par ?_ | with_reducible refine z_fld ?_ | with_reducible refine z_sub ?_ | with_reducible refine z_exp ?_ | with_reducible refine z_ret ?_ | with_reducible refine z_retN ?_ | with_reducible refine z_ite ?_ | with_reducible refine z_whl ?_ | with_reducible refine z_for ?_ | with_reducible refine z_pass ?_ | with_reducible refine z_brk ?_ | with_reducible refine z_cnt ?_ | with_reducible refine z_nil ?_ | with_reducible refine w_bin ?_ | with_reducible refine w_int ?_ | with_reducible refine w_str ?_ | with_reducible refine w_blc ?_ | with_reducible refine w_non ?_ | with_reducible refine w_bty ?_ | with_reducible refine w_neg ?_ | with_reducible refine w_cmp ?_ | with_reducible refine w_chn ?_ | with_reducible refine w_and ?_ | with_reducible refine w_or ?_ | with_reducible refine w_not ?_ | with_reducible refine w_ite ?_ | with_reducible refine w_fld ?_ | with_reducible refine w_ix ?_ | with_reducible refine w_sl ?_ | with_reducible refine w_no ?_ | with_reducible refine w_so ?_ | with_reducible refine w_nil ?_ | with_reducible refine w_cons ?_ | with_reducible refine w_tup ?_ | with_reducible refine w_lst ?_ | with_reducible refine w_cal ?_ | with_reducible refine w_mk ?_ | with_reducible refine w_mth ?_ | with_reducible refine w_bi ?_ | with_reducible refine w_bm ?_ | with_reducible refine w_lc ?_ | with_reducible refine w_iex ?_ | with_reducible refine w_rng1 ?_ | with_reducible refine w_rng2 ?_ | with_reducible refine w_enum ?_ | with_reducible refine w_T0 ?_ | with_reducible refine w_T1 ?_ | with_reducible refine w_add ?_ | with_reducible refine w_sub ?_ | ((with_reducible refine w_tru ?_ ?_); exact rfl)))
  refine digit h3 (by omega) (by omega) fun x3 S3 hx3 hx3' h4 f3 => ?_
  (repeat (first | ((with_reducible refine w_var ?_); refine ⟨_, rfl, ?_⟩) | with_reducible refine z_set ?_ | with_reducible refine z_setT ?_ | with_reducible refine z_par ?_ | with_reducible refine z_fld ?_ | with_reducible refine z_sub ?_ | with_reducible refine z_exp ?_ | with_reducible refine z_ret ?_ | with_reducible refine z_retN ?_ | with_reducible refine z_ite ?_ | with_reducible refine z_whl ?_ | with_reducible refine z_for ?_ | with_reducible refine z_pass ?_ | with_reducible refine z_brk ?_ | with_reducible refine z_cnt ?_ | with_reducible refine z_nil ?_ | with_reducible refine w_bin ?_ | with_reducible refine w_int ?_ | with_reducible refine w_str ?_ | with_reducible refine w_blc ?_ | with_reducible refine w_non ?_ | with_reducible refine w_bty ?_ | with_reducible refine w_neg ?_ | with_reducible refine w_cmp ?_ | with_reducible refine w_chn ?_ | with_reducible refine w_and ?_ | with_reducible refine w_or ?_ | with_reducible refine w_not ?_ | with_reducible refine w_ite ?_ | with_reducible refine w_fld ?_ | with_reducible refine w_ix ?_ | with_reducible refine w_sl ?_ | with_reducible refine w_no ?_ | with_reducible refine w_so ?_ | with_reducible refine w_nil ?_ | with_reducible refine w_cons ?_ | with_reducible refine w_tup ?_ | with_reducible refine w_lst ?_ | with_reducible refine w_cal ?_ | with_reducible refine w_mk ?_ | with_reducible refine w_mth ?_ | with_reducible refine w_bi ?_ | with_reducible refine w_bm ?_ | with_reducible refine w_lc ?_ | with_reducible refine w_iex ?_ | with_reducible refine w_rng1 ?_ | with_reducible refine w_rng2 ?_ | with_reducible refine w_enum ?_ | with_reducible refine w_T0 ?_ | with_reducible refine w_T1 ?_ | with_reducible refine w_add ?_ | with_reducible refine w_sub ?_ | ((with_reducible refine w_tru ?_ ?_); exact rfl)))
  refine ⟨sz (by simp), ?_⟩
  (repeat (first | ((with_reducible refine w_var ?_); refine ⟨_, rfl, ?_⟩) | with_reducible refine z_set ?_ | with_reducible refine z_setT ?_ | with_reducible refine z_par ?_ | with_reducible refine z_fld ?_ | with_reducible refine z_sub ?_ | with_reducible refine z_exp ?_ | with_reducible refine z_ret ?_ | with_reducible refine z_retN ?_ | with_reducible refine z_ite ?_ | with_reducible refine z_whl ?_ | with_reducible refine z_for ?_ | with_reducible refine z_pass ?_ | with_reducible refine z_brk ?_ | with_reducible refine z_cnt ?_ | with_reducible refine z_nil ?_ | with_reducible refine w_bin ?_ | with_reducible refine w_int ?_ | with_reducible refine w_str ?_ | with_reducible refine w_blc ?_ | with_reducible refine w_non ?_ | with_reducible refine w_bty ?_ | with_reducible refine w_neg ?_ | with_reducible refine w_cmp ?_ | with_reducible refine w_chn ?_ | with_reducible refine w_and ?_ | with_reducible refine w_or ?_ | with_reducible refine w_not ?_ | with_reducible refine w_ite ?_ | with_reducible refine w_fld ?_ | with_reducible refine w_ix ?_ | with_reducible refine w_sl ?_ | with_reducible refine w_no ?_ | with_reducible refine w_so ?_ | with_reducible refine w_nil ?_ | with_reducible refine w_cons ?_ | with_reducible refine w_tup ?_ | with_reducible refine w_lst ?_ | with_reducible refine w_cal ?_ | with_reducible refine w_mk ?_ | with_reducible refine w_mth ?_ | with_reducible refine w_bi ?_ | with_reducible refine w_bm ?_ | with_reducible refine w_lc ?_ | with_reducible refine w_iex ?_ | with_reducible refine w_rng1 ?_ | with_reducible refine w_rng2 ?_ | with_reducible refine w_enum ?_ | with_reducible refine w_T0 ?_ | with_reducible refine w_T1 ?_ | with_reducible refine w_add ?_ | with_reducible refine w_sub ?_ | ((with_reducible refine w_tru ?_ ?_); exact rfl)))
  refine oneI h4 (by simp) (by simp) (by simp) fun x4 S4 h5 f4 => ?_
  (repeat (first | ((with_reducible refine w_var ?_); refine ⟨_, rfl, ?_⟩) | with_reducible refine z_set ?_ | with_reducible refine z_setT ?_ | with_reducible refine z_par ?_ | with_reducible refine z_fld ?_ | with_reducible refine z_sub ?_ | with_reducible refine z_exp ?_ | with_reducible refine z_ret ?_ | with_reducible refine z_retN ?_ | with_reducible refine z_ite ?_ | with_reducible refine z_whl ?_ | with_reducible refine z_for ?_ | with_reducible refine z_pass ?_ | with_reducible refine z_brk ?_ | with_reducible refine z_cnt ?_ | with_reducible refine z_nil ?_ | with_reducible refine w_bin ?_ | with_reducible refine w_int ?_ | with_reducible refine w_str ?_ | with_reducible refine w_blc ?_ | with_reducible refine w_non ?_ | with_reducible refine w_bty ?_ | with_reducible refine w_neg ?_ | with_reducible refine w_cmp ?_ | with_reducible refine w_chn ?_ | with_reducible refine w_and ?_ | with_reducible refine w_or ?_ | with_reducible refine w_not ?_ | with_reducible refine w_ite ?_ | with_reducible refine w_fld ?_ | with_reducible refine w_ix ?_ | with_reducible refine w_sl ?_ | with_reducible refine w_no ?_ | with_reducible refine w_so ?_ | with_reducible refine w_nil ?_ | with_reducible refine w_cons ?_ | with_reducible refine w_tup ?_ | with_reducible refine w_lst ?_ | with_reducible refine w_cal ?_ | with_reducible refine w_mk ?_ | with_reducible refine w_mth ?_ | with_reducible refine w_bi ?_ | with_reducible refine w_bm ?_ | with_reducible refine w_lc ?_ | with_reducible refine w_iex ?_ | with_reducible refine w_rng1 ?_ | with_reducible refine w_rng2 ?_ | with_reducible refine w_enum ?_ | with_reducible refine w_T0 ?_ | with_reducible refine w_T1 ?_ | with_reducible refine w_add ?_ | with_reducible refine w_sub ?_ | ((with_reducible refine w_tru ?_ ?_); exact rfl)))
  try simp only [List.set_cons_succ, List.set_cons_zero]
  (repeat (first | ((with_reducible refine w_var ?_); refine ⟨_, rfl, ?_⟩) | with_reducible refine z_set ?_ | with_reducible refine z_setT ?_ | with_reducible refine z_par ?_ | with_reducible refine z_fld ?_ | with_reducible refine z_sub ?_ | with_reducible refine z_exp ?_ | with_reducible refine z_ret ?_ | with_reducible refine z_retN ?_ | with_reducible refine z_ite ?_ | with_reducible refine z_whl ?_ | with_reducible refine z_for ?_ | with_reducible refine z_pass ?_ | with_reducible refine z_brk ?_ | with_reducible refine z_cnt ?_ | with_reducible refine z_nil ?_ | with_reducible refine w_bin ?_ | with_reducible refine w_int ?_ | with_reducible refine w_str ?_ | with_reducible refine w_blc ?_ | with_reducible refine w_non ?_ | with_reducible refine w_bty ?_ | with_reducible refine w_neg ?_ | with_reducible refine w_cmp ?_ | with_reducible refine w_chn ?_ | with_reducible refine w_and ?_ | with_reducible refine w_or ?_ | with_reducible refine w_not ?_ | with_reducible refine w_ite ?_ | with_reducible refine w_fld ?_ | with_reducible refine w_ix ?_ | with_reducible refine w_sl ?_ | with_reducible refine w_no ?_ | with_reducible refine w_so ?_ | with_reducible refine w_nil ?_ | with_reducible refine w_cons ?_ | with_reducible refine w_tup ?_ | with_reducible refine w_lst ?_ | with_reducible refine w_cal ?_ | with_reducible refine w_mk ?_ | with_reducible refine w_mth ?_ | with_reducible refine w_bi ?_ | with_reducible refine w_bm ?_ | with_reducible refine w_lc ?_ | with_reducible refine w_iex ?_ | with_reducible refine w_rng1 ?_ | with_reducible refine w_rng2 ?_ | with_reducible refine w_enum ?_ | with_reducible refine w_T0 ?_ | with_reducible refine w_T1 ?_ | with_reducible refine w_add ?_ | with_reducible refine w_sub ?_ | ((with_reducible refine w_tru ?_ ?_); exact rfl)))
  refine digit h5 h0 (by omega) fun x5 S5 hx5 hx5' h6 f5 => ?_
  (repeat (first | ((with_reducible refine w_var ?_); refine ⟨_, rfl, ?_⟩) | with_reducible refine z_set ?_ | with_reducible refine z_setT ?_ | with_reducible refine z_par ?_ | with_reducible refine z_fld ?_ | with_reducible refine z_sub ?_ | with_reducible refine z_exp ?_ | with_reducible refine z_ret ?_ | with_reducible refine z_retN ?_ | with_reducible refine z_ite ?_ | with_reducible refine z_whl ?_ | with_reducible refine z_for ?_ | with_reducible refine z_pass ?_ | with_reducible refine z_brk ?_ | with_reducible refine z_cnt ?_ | with_reducible refine z_nil ?_ | with_reducible refine w_bin ?_ | with_reducible refine w_int ?_ | with_reducible refine w_str ?_ | with_reducible refine w_blc ?_ | with_reducible refine w_non ?_ | with_reducible refine w_bty ?_ | with_reducible refine w_neg ?_ | with_reducible refine w_cmp ?_ | with_reducible refine w_chn ?_ | with_reducible refine w_and ?_ | with_reducible refine w_or ?_ | with_reducible refine w_not ?_ | with_reducible refine w_ite ?_ | with_reducible refine w_fld ?_ | with_reducible refine w_ix ?_ | with_reducible refine w_sl ?_ | with_reducible refine w_no ?_ | with_reducible refine w_so ?_ | with_reducible refine w_nil ?_ | with_reducible refine w_cons ?_ | with_reducible refine w_tup ?_ | with_reducible refine w_lst ?_ | with_reducible refine w_cal ?_ | with_reducible refine w_mk ?_ | with_reducible refine w_mth ?_ | with_reducible refine w_bi ?_ | with_reducible refine w_bm ?_ | with_reducible refine w_lc ?_ | with_reducible refine w_iex ?_ | with_reducible refine w_rng1 ?_ | with_reducible refine w_rng2 ?_ | with_reducible refine w_enum ?_ | with_reducible refine w_T0 ?_ | with_reducible refine w_T1 ?_ | with_reducible refine w_add ?_ | with_reducible refine w_sub ?_ | ((with_reducible refine w_tru ?_ ?_); exact rfl)))
  refine w_div (by omega) ?_
  (repeat (first | ((with_reducible refine w_var ?_); refine ⟨_, rfl, ?_⟩) | with_reducible refine z_set ?_ | with_reducible refine z_setT ?_ | with_reducible refine z_par ?_ | with_reducible refine z_fld ?_ | with_reducible refine z_sub ?_ | with_reducible refine z_exp ?_ | with_reducible refine z_ret ?_ | with_reducible refine z_retN ?_ | with_reducible refine z_ite ?_ | with_reducible refine z_whl ?_ | with_reducible refine z_for ?_ | with_reducible refine z_pass ?_ | with_reducible refine z_brk ?_ | with_reducible refine z_cnt ?_ | with_reducible refine z_nil ?_ | with_reducible refine w_bin ?_ | with_reducible refine w_int ?_ | with_reducible refine w_str ?_ | with_reducible refine w_blc ?_ | with_reducible refine w_non ?_ | with_reducible refine w_bty ?_ | with_reducible refine w_neg ?_ | with_reducible refine w_cmp ?_ | with_reducible refine w_chn ?_ | with_reducible refine w_and ?_ | with_reducible refine w_or ?_ | with_reducible refine w_not ?_ | with_reducible refine w_ite ?_ | with_reducible refine w_fld ?_ | with_reducible refine w_ix ?_ | with_reducible refine w_sl ?_ | with_reducible refine w_no ?_ | with_reducible refine w_so ?_ | with_reducible refine w_nil ?_ | with_reducible refine w_cons ?_ | with_reducible refine w_tup ?_ | with_reducible refine w_lst ?_ | with_reducible refine w_cal ?_ | with_reducible refine w_mk ?_ | with_reducible refine w_mth ?_ | with_reducible refine w_bi ?_ | with_reducible refine w_bm ?_ | with_reducible refine w_lc ?_ | with_reducible refine w_iex ?_ | with_reducible refine w_rng1 ?_ | with_reducible refine w_rng2 ?_ | with_reducible refine w_enum ?_ | with_reducible refine w_T0 ?_ | with_reducible refine w_T1 ?_ | with_reducible refine w_add ?_ | with_reducible refine w_sub ?_ | ((with_reducible refine w_tru ?_ ?_); exact rfl)))
  refine digit h6 (by omega) (by omega) fun x6 S6 hx6 hx6' h7 f6 => ?_
  (repeat (first | ((with_reducible refine w_var ?_); refine ⟨_, rfl, ?_⟩) | with_reducible refine z_set ?_ | with_reducible refine z_setT ?_ | with_reducible refine z_par ?_ | with_reducible refine z_fld ?_ | with_reducible refine z_sub ?_ | with_reducible refine z_exp ?_ | with_reducible refine z_ret ?_ | with_reducible refine z_retN ?_ | with_reducible refine z_ite ?_ | with_reducible refine z_whl ?_ | with_reducible refine z_for ?_ | with_reducible refine z_pass ?_ | with_reducible refine z_brk ?_ | with_reducible refine z_cnt ?_ | with_reducible refine z_nil ?_ | with_reducible refine w_bin ?_ | with_reducible refine w_int ?_ | with_reducible refine w_str ?_ | with_reducible refine w_blc ?_ | with_reducible refine w_non ?_ | with_reducible refine w_bty ?_ | with_reducible refine w_neg ?_ | with_reducible refine w_cmp ?_ | with_reducible refine w_chn ?_ | with_reducible refine w_and ?_ | with_reducible refine w_or ?_ | with_reducible refine w_not ?_ | with_reducible refine w_ite ?_ | with_reducible refine w_fld ?_ | with_reducible refine w_ix ?_ | with_reducible refine w_sl ?_ | with_reducible refine w_no ?_ | with_reducible refine w_so ?_ | with_reducible refine w_nil ?_ | with_reducible refine w_cons ?_ | with_reducible refine w_tup ?_ | with_reducible refine w_lst ?_ | with_reducible refine w_cal ?_ | with_reducible refine w_mk ?_ | with_reducible refine w_mth ?_ | with_reducible refine w_bi ?_ | with_reducible refine w_bm ?_ | with_reducible refine w_lc ?_ | with_reducible refine w_iex ?_ | with_reducible refine w_rng1 ?_ | with_reducible refine w_rng2 ?_ | with_reducible refine w_enum ?_ | with_reducible refine w_T0 ?_ | with_reducible refine w_T1 ?_ | with_reducible refine w_add ?_ | with_reducible refine w_sub ?_ | ((with_reducible refine w_tru ?_ ?_); exact rfl)))
  refine digit h7 (by omega) (by omega) fun x7 S7 hx7 hx7' h8 f7 => ?_
  (repeat (first | ((with_reducible refine w_var ?_); refine ⟨_, rfl, ?_⟩) | with_reducible refine z_set ?_ | with_reducible refine z_setT ?_ | with_reducible refine z_par ?_ | with_reducible refine z_fld ?_ | with_reducible refine z_sub ?_ | with_reducible refine z_exp ?_ | with_reducible refine z_ret ?_ | with_reducible refine z_retN ?_ | with_reducible refine z_ite ?_ | with_reducible refine z_whl ?_ | with_reducible refine z_for ?_ | with_reducible refine z_pass ?_ | with_reducible refine z_brk ?_ | with_reducible refine z_cnt ?_ | with_reducible refine z_nil ?_ | with_reducible refine w_bin ?_ | with_reducible refine w_int ?_ | with_reducible refine w_str ?_ | with_reducible refine w_blc ?_ | with_reducible refine w_non ?_ | with_reducible refine w_bty ?_ | with_reducible refine w_neg ?_ | with_reducible refine w_cmp ?_ | with_reducible refine w_chn ?_ | with_reducible refine w_and ?_ | with_reducible refine w_or ?_ | with_reducible refine w_not ?_ | with_reducible refine w_ite ?_ | with_reducible refine w_fld ?_ | with_reducible refine w_ix ?_ | with_reducible refine w_sl ?_ | with_reducible refine w_no ?_ | with_reducible refine w_so ?_ | with_reducible refine w_nil ?_ | with_reducible refine w_cons ?_ | with_reducible refine w_tup ?_ | with_reducible refine w_lst ?_ | with_reducible refine w_cal ?_ | with_reducible refine w_mk ?_ | with_reducible refine w_mth ?_ | with_reducible refine w_bi ?_ | with_reducible refine w_bm ?_ | with_reducible refine w_lc ?_ | with_reducible refine w_iex ?_ | with_reducible refine w_rng1 ?_ | with_reducible refine w_rng2 ?_ | with_reducible refine w_enum ?_ | with_reducible refine w_T0 ?_ | with_reducible refine w_T1 ?_ | with_reducible refine w_add ?_ | with_reducible refine w_sub ?_ | ((with_reducible refine w_tru ?_ ?_); exact rfl)))
  refine ⟨sz (by simp), ?_⟩
  (repeat (first | ((with_reducible refine w_var ?_); refine ⟨_, rfl, ?_⟩) | with_reducible refine z_set ?_ | with_reducible refine z_setT ?_ | with_reducible refine z_par ?_ | with_reducible refine z_fld ?_ | with_reducible refine z_sub ?_ | with_reducible refine z_exp ?_ | with_reducible refine z_ret ?_ | with_reducible refine z_retN ?_ | with_reducible refine z_ite ?_ | with_reducible refine z_whl ?_ | with_reducible refine z_for ?_ | with_reducible refine z_pass ?_ | with_reducible refine z_brk ?_ | with_reducible refine z_cnt ?_ | with_reducible refine z_nil ?_ | with_reducible refine w_bin ?_ | with_reducible refine w_int ?_ | with_reducible refine w_str ?_ | with_reducible refine w_blc ?_ | with_reducible refine w_non ?_ | with_reducible refine w_bty ?_ | with_reducible refine w_neg ?_ | with_reducible refine w_cmp ?_ | with_reducible refine w_chn ?_ | with_reducible refine w_and ?_ | with_reducible refine w_or ?_ | with_reducible refine w_not ?_ | with_reducible refine w_ite ?_ | with_reducible refine w_fld ?_ | with_reducible refine w_ix ?_ | with_reducible refine w_sl ?_ | with_reducible refine w_no ?_ | with_reducible refine w_so ?_ | with_reducible refine w_nil ?_ | with_reducible refine w_cons ?_ | with_reducible refine w_tup ?_ | with_reducible refine w_lst ?_ | with_reducible refine w_cal ?_ | with_reducible refine w_mk ?_ | with_reducible refine w_mth ?_ | with_reducible refine w_bi ?_ | with_reducible refine w_bm ?_ | with_reducible refine w_lc ?_ | with_reducible refine w_iex ?_ | with_reducible refine w_rng1 ?_ | with_reducible refine w_rng2 ?_ | with_reducible refine w_enum ?_ | with_reducible refine w_T0 ?_ | with_reducible refine w_T1 ?_ | with_reducible refine w_add ?_ | with_reducible refine w_sub ?_ | ((with_reducible refine w_tru ?_ ?_); exact rfl)))
  refine oneI h8 (by simp) (by simp) (by simp) fun x8 S8 h9 f8 => ?_
  try simp only [List.set_cons_succ, List.set_cons_zero]
  (repeat (first | ((with_reducible refine w_var ?_); refine ⟨_, rfl, ?_⟩) | with_reducible refine z_set ?_ | with_reducible refine z_setT ?_ | with_reducible refine z_par ?_ | with_reducible refine z_fld ?_ | with_reducible refine z_sub ?_ | with_reducible refine z_exp ?_ | with_reducible refine z_ret ?_ | with_reducible refine z_retN ?_ | with_reducible refine z_ite ?_ | with_reducible refine z_whl ?_ | with_reducible refine z_for ?_ | with_reducible refine z_pass ?_ | with_reducible refine z_brk ?_ | with_reducible refine z_cnt ?_ | with_reducible refine z_nil ?_ | with_reducible refine w_bin ?_ | with_reducible refine w_int ?_ | with_reducible refine w_str ?_ | with_reducible refine w_blc ?_ | with_reducible refine w_non ?_ | with_reducible refine w_bty ?_ | with_reducible refine w_neg ?_ | with_reducible refine w_cmp ?_ | with_reducible refine w_chn ?_ | with_reducible refine w_and ?_ | with_reducible refine w_or ?_ | with_reducible refine w_not ?_ | with_reducible refine w_ite ?_ | with_reducible refine w_fld ?_ | with_reducible refine w_ix ?_ | with_reducible refine w_sl ?_ | with_reducible refine w_no ?_ | with_reducible refine w_so ?_ | with_reducible refine w_nil ?_ | with_reducible refine w_cons ?_ | with_reducible refine w_tup ?_ | with_reducible refine w_lst ?_ | with_reducible refine w_cal ?_ | with_reducible refine w_mk ?_ | with_reducible refine w_mth ?_ | with_reducible refine w_bi ?_ | with_reducible refine w_bm ?_ | with_reducible refine w_lc ?_ | with_reducible refine w_iex ?_ | with_reducible refine w_rng1 ?_ | with_reducible refine w_rng2 ?_ | with_reducible refine w_enum ?_ | with_reducible refine w_T0 ?_ | with_reducible refine w_T1 ?_ | with_reducible refine w_add ?_ | with_reducible refine w_sub ?_ | ((with_reducible refine w_tru ?_ ?_); exact rfl)))
  refine digit h9 h0 (by omega) fun y1 T1 hy1 hy1' g1 e1 => ?_
  (repeat (first | ((with_reducible refine w_var ?_); refine ⟨_, rfl, ?_⟩) | with_reducible refine z_set ?_ | with_reducible refine z_setT ?_ | with_reducible refine z_par ?_ | with_reducible refine z_fld ?_ | with_reducible refine z_sub ?_ | with_reducible refine z_exp ?_ | with_reducible refine z_ret ?_ | with_reducible refine z_retN ?_ | with_reducible refine z_ite ?_ | with_reducible refine z_whl ?_ | with_reducible refine z_for ?_ | with_reducible refine z_pass ?_ | with_reducible refine z_brk ?_ | with_reducible refine z_cnt ?_ | with_reducible refine z_nil ?_ | with_reducible refine w_bin ?_ | with_reducible refine w_int ?_ | with_reducible refine w_str ?_ | with_reducible refine w_blc ?_ | with_reducible refine w_non ?_ | with_reducible refine w_bty ?_ | with_reducible refine w_neg ?_ | with_reducible refine w_cmp ?_ | with_reducible refine w_chn ?_ | with_reducible refine w_and ?_ | with_reducible refine w_or ?_ | with_reducible refine w_not ?_ | with_reducible refine w_ite ?_ | with_reducible refine w_fld ?_ | with_reducible refine w_ix ?_ | with_reducible refine w_sl ?_ | with_reducible refine w_no ?_ | with_reducible refine w_so ?_ | with_reducible refine w_nil ?_ | with_reducible refine w_cons ?_ | with_reducible refine w_tup ?_ | with_reducible refine w_lst ?_ | with_reducible refine w_cal ?_ | with_reducible refine w_mk ?_ | with_reducible refine w_mth ?_ | with_reducible refine w_bi ?_ | with_reducible refine w_bm ?_ | with_reducible refine w_lc ?_ | with_reducible refine w_iex ?_ | with_reducible refine w_rng1 ?_ | with_reducible refine w_rng2 ?_ | with_reducible refine w_enum ?_ | with_reducible refine w_T0 ?_ | with_reducible refine w_T1 ?_ | with_reducible refine w_add ?_ | with_reducible refine w_sub ?_ | ((with_reducible refine w_tru ?_ ?_); exact rfl)))
  refine digit g1 (by omega) (by omega) fun y2 T2 hy2 hy2' g2 e2 => ?_
  (repeat (first | ((with_reducible refine w_var ?_); refine ⟨_, rfl, ?_⟩) | with_reducible refine z_set ?_ | with_reducible refine z_setT ?_ | with_reducible refine z_par ?_ | with_reducible refine z_fld ?_ | with_reducible refine z_sub ?_ | with_reducible refine z_exp ?_ | with_reducible refine z_ret ?_ | with_reducible refine z_retN ?_ | with_reducible refine z_ite ?_ | with_reducible refine z_whl ?_ | with_reducible refine z_for ?_ | with_reducible refine z_pass ?_ | with_reducible refine z_brk ?_ | with_reducible refine z_cnt ?_ | with_reducible refine z_nil ?_ | with_reducible refine w_bin ?_ | with_reducible refine w_int ?_ | with_reducible refine w_str ?_ | with_reducible refine w_blc ?_ | with_reducible refine w_non ?_ | with_reducible refine w_bty ?_ | with_reducible refine w_neg ?_ | with_reducible refine w_cmp ?_ | with_reducible refine w_chn ?_ | with_reducible refine w_and ?_ | with_reducible refine w_or ?_ | with_reducible refine w_not ?_ | with_reducible refine w_ite ?_ | with_reducible refine w_fld ?_ | with_reducible refine w_ix ?_ | with_reducible refine w_sl ?_ | with_reducible refine w_no ?_ | with_reducible refine w_so ?_ | with_reducible refine w_nil ?_ | with_reducible refine w_cons ?_ | with_reducible refine w_tup ?_ | with_reducible refine w_lst ?_ | with_reducible refine w_cal ?_ | with_reducible refine w_mk ?_ | with_reducible refine w_mth ?_ | with_reducible refine w_bi ?_ | with_reducible refine w_bm ?_ | with_reducible refine w_lc ?_ | with_reducible refine w_iex ?_ | with_reducible refine w_rng1 ?_ | with_reducible refine w_rng2 ?_ | with_reducible refine w_enum ?_ | with_reducible refine w_T0 ?_ | with_reducible refine w_T1 ?_ | with_reducible refine w_add ?_ | with_reducible refine w_sub ?_ | ((with_reducible refine w_tru ?_ ?_); exact rfl)))
  refine digit g2 (by omega) (by omega) fun y3 T3 hy3 hy3' g3 e3 => ?_
  (repeat (first | ((with_reducible refine w_var ?_); refine ⟨_, rfl, ?_⟩) | with_reducible refine z_set ?_ | with_reducible refine z_setT ?_ | with_reducible refine z_par ?_ | with_reducible refine z_fld ?_ | with_reducible refine z_sub ?_ | with_reducible refine z_exp ?_ | with_reducible refine z_ret ?_ | with_reducible refine z_retN ?_ | with_reducible refine z_ite ?_ | with_reducible refine z_whl ?_ | with_reducible refine z_for ?_ | with_reducible refine z_pass ?_ | with_reducible refine z_brk ?_ | with_reducible refine z_cnt ?_ | with_reducible refine z_nil ?_ | with_reducible refine w_bin ?_ | with_reducible refine w_int ?_ | with_reducible refine w_str ?_ | with_reducible refine w_blc ?_ | with_reducible refine w_non ?_ | with_reducible refine w_bty ?_ | with_reducible refine w_neg ?_ | with_reducible refine w_cmp ?_ | with_reducible refine w_chn ?_ | with_reducible refine w_and ?_ | with_reducible refine w_or ?_ | with_reducible refine w_not ?_ | with_reducible refine w_ite ?_ | with_reducible refine w_fld ?_ | with_reducible refine w_ix ?_ | with_reducible refine w_sl ?_ | with_reducible refine w_no ?_ | with_reducible refine w_so ?_ | with_reducible refine w_nil ?_ | with_reducible refine w_cons ?_ | with_reducible refine w_tup ?_ | with_reducible refine w_lst ?_ | with_reducible refine w_cal ?_ | with_reducible refine w_mk ?_ | with_reducible refine w_mth ?_ | with_reducible refine w_bi ?_ | with_reducible refine w_bm ?_ | with_reducible refine w_lc ?_ | with_reducible refine w_iex ?_ | with_reducible refine w_rng1 ?_ | with_reducible refine w_rng2 ?_ | with_reducible refine w_enum ?_ | with_reducible refine w_T0 ?_ | with_reducible refine w_T1 ?_ | with_reducible refine w_add ?_ | with_reducible refine w_sub ?_ | ((with_reducible refine w_tru ?_ ?_); exact rfl)))
  refine ⟨sz (by simp), ?_⟩
  (repeat (first | ((with_reducible refine w_var ?_); refine ⟨_, rfl, ?_⟩) | with_reducible refine z_set ?_ | with_reducible refine z_setT ?_ | with_reducible refine z_par ?_ | with_reducible refine z_fld ?_ | with_reducible refine z_sub ?_ | with_reducible refine z_exp ?_ | with_reducible refine z_ret ?_ | with_reducible refine z_retN ?_ | with_reducible refine z_ite ?_ | with_reducible refine z_whl ?_ | with_reducible refine z_for ?_ | with_reducible refine z_pass ?_ | with_reducible refine z_brk ?_ | with_reducible refine z_cnt ?_ | with_reducible refine z_nil ?_ | with_reducible refine w_bin ?_ | with_reducible refine w_int ?_ | with_reducible refine w_str ?_ | with_reducible refine w_blc ?_ | with_reducible refine w_non ?_ | with_reducible refine w_bty ?_ | with_reducible refine w_neg ?_ | with_reducible refine w_cmp ?_ | with_reducible refine w_chn ?_ | with_reducible refine w_and ?_ | with_reducible refine w_or ?_ | with_reducible refine w_not ?_ | with_reducible refine w_ite ?_ | with_reducible refine w_fld ?_ | with_reducible refine w_ix ?_ | with_reducible refine w_sl ?_ | with_reducible refine w_no ?_ | with_reducible refine w_so ?_ | with_reducible refine w_nil ?_ | with_reducible refine w_cons ?_ | with_reducible refine w_tup ?_ | with_reducible refine w_lst ?_ | with_reducible refine w_cal ?_ | with_reducible refine w_mk ?_ | with_reducible refine w_mth ?_ | with_reducible refine w_bi ?_ | with_reducible refine w_bm ?_ | with_reducible refine w_lc ?_ | with_reducible refine w_iex ?_ | with_reducible refine w_rng1 ?_ | with_reducible refine w_rng2 ?_ | with_reducible refine w_enum ?_ | with_reducible refine w_T0 ?_ | with_reducible refine w_T1 ?_ | with_reducible refine w_add ?_ | with_reducible refine w_sub ?_ | ((with_reducible refine w_tru ?_ ?_); exact rfl)))
  refine oneI g3 (by simp) (by simp) (by simp) fun y4 T4 g4 e4 => ?_
  try simp only [List.set_cons_succ, List.set_cons_zero]
  (repeat (first | ((with_reducible refine w_var ?_); refine ⟨_, rfl, ?_⟩) | with_reducible refine z_set ?_ | with_reducible refine z_setT ?_ | with_reducible refine z_par ?_ | with_reducible refine z_fld ?_ | with_reducible refine z_sub ?_ | with_reducible refine z_exp ?_ | with_reducible refine z_ret ?_ | with_reducible refine z_retN ?_ | with_reducible refine z_ite ?_ | with_reducible refine z_whl ?_ | with_reducible refine z_for ?_ | with_reducible refine z_pass ?_ | with_reducible refine z_brk ?_ | with_reducible refine z_cnt ?_ | with_reducible refine z_nil ?_ | with_reducible refine w_bin ?_ | with_reducible refine w_int ?_ | with_reducible refine w_str ?_ | with_reducible refine w_blc ?_ | with_reducible refine w_non ?_ | with_reducible refine w_bty ?_ | with_reducible refine w_neg ?_ | with_reducible refine w_cmp ?_ | with_reducible refine w_chn ?_ | with_reducible refine w_and ?_ | with_reducible refine w_or ?_ | with_reducible refine w_not ?_ | with_reducible refine w_ite ?_ | with_reducible refine w_fld ?_ | with_reducible refine w_ix ?_ | with_reducible refine w_sl ?_ | with_reducible refine w_no ?_ | with_reducible refine w_so ?_ | with_reducible refine w_nil ?_ | with_reducible refine w_cons ?_ | with_reducible refine w_tup ?_ | with_reducible refine w_lst ?_ | with_reducible refine w_cal ?_ | with_reducible refine w_mk ?_ | with_reducible refine w_mth ?_ | with_reducible refine w_bi ?_ | with_reducible refine w_bm ?_ | with_reducible refine w_lc ?_ | with_reducible refine w_iex ?_ | with_reducible refine w_rng1 ?_ | with_reducible refine w_rng2 ?_ | with_reducible refine w_enum ?_ | with_reducible refine w_T0 ?_ | with_reducible refine w_T1 ?_ | with_reducible refine w_add ?_ | with_reducible refine w_sub ?_ | ((with_reducible refine w_tru ?_ ?_); exact rfl)))
  refine ⟨sz (by simp), ?_⟩
  (repeat (first | ((with_reducible refine w_var ?_); refine ⟨_, rfl, ?_⟩) | with_reducible refine z_set ?_ | with_reducible refine z_setT ?_ | with_reducible refine z_par ?_ | with_reducible refine z_fld ?_ | with_reducible refine z_sub ?_ | with_reducible refine z_exp ?_ | with_reducible refine z_ret ?_ | with_reducible refine z_retN ?_ | with_reducible refine z_ite ?_ | with_reducible refine z_whl ?_ | with_reducible refine z_for ?_ | with_reducible refine z_pass ?_ | with_reducible refine z_brk ?_ | with_reducible refine z_cnt ?_ | with_reducible refine z_nil ?_ | with_reducible refine w_bin ?_ | with_reducible refine w_int ?_ | with_reducible refine w_str ?_ | with_reducible refine w_blc ?_ | with_reducible refine w_non ?_ | with_reducible refine w_bty ?_ | with_reducible refine w_neg ?_ | with_reducible refine w_cmp ?_ | with_reducible refine w_chn ?_ | with_reducible refine w_and ?_ | with_reducible refine w_or ?_ | with_reducible refine w_not ?_ | with_reducible refine w_ite ?_ | with_reducible refine w_fld ?_ | with_reducible refine w_ix ?_ | with_reducible refine w_sl ?_ | with_reducible refine w_no ?_ | with_reducible refine w_so ?_ | with_reducible refine w_nil ?_ | with_reducible refine w_cons ?_ | with_reducible refine w_tup ?_ | with_reducible refine w_lst ?_ | with_reducible refine w_cal ?_ | with_reducible refine w_mk ?_ | with_reducible refine w_mth ?_ | with_reducible refine w_bi ?_ | with_reducible refine w_bm ?_ | with_reducible refine w_lc ?_ | with_reducible refine w_iex ?_ | with_reducible refine w_rng1 ?_ | with_reducible refine w_rng2 ?_ | with_reducible refine w_enum ?_ | with_reducible refine w_T0 ?_ | with_reducible refine w_T1 ?_ | with_reducible refine w_add ?_ | with_reducible refine w_sub ?_ | ((with_reducible refine w_tru ?_ ?_); exact rfl)))
  have gl := g4.lt
  refine one (g4.fr (B := []) DI.Fr.push (by simp)) get_push (by omega) (by simp) (by simp) fun x T5 hm g5 e5 => ?_
  have fr := (((((((f1.trans f2).trans f3).trans f4).trans f5).trans f6).trans f7).trans f8).trans ((e1.trans e2).trans (e3.trans (e4.trans (DI.Fr.push.trans e5))))
  (repeat (first | ((with_reducible refine w_var ?_); refine ⟨_, rfl, ?_⟩) | with_reducible refine z_set ?_ | with_reducible refine z_setT ?_ | with_reducible refine z_par ?_ | with_reducible refine z_fld ?_ | with_reducible refine z_sub ?_ | with_reducible refine z_exp ?_ | with_reducible refine z_ret ?_ | with_reducible refine z_retN ?_ | with_reducible refine z_ite ?_ | with_reducible refine z_whl ?_ | with_reducible refine z_for ?_ | with_reducible refine z_pass ?_ | with_reducible refine z_brk ?_ | with_reducible refine z_cnt ?_ | with_reducible refine z_nil ?_ | with_reducible refine w_bin ?_ | with_reducible refine w_int ?_ | with_reducible refine w_str ?_ | with_reducible refine w_blc ?_ | with_reducible refine w_non ?_ | with_reducible refine w_bty ?_ | with_reducible refine w_neg ?_ | with_reducible refine w_cmp ?_ | with_reducible refine w_chn ?_ | with_reducible refine w_and ?_ | with_reducible refine w_or ?_ | with_reducible refine w_not ?_ | with_reducible refine w_ite ?_ | with_reducible refine w_fld ?_ | with_reducible refine w_ix ?_ | with_reducible refine w_sl ?_ | with_reducible refine w_no ?_ | with_reducible refine w_so ?_ | with_reducible refine w_nil ?_ | with_reducible refine w_cons ?_ | with_reducible refine w_tup ?_ | with_reducible refine w_lst ?_ | with_reducible refine w_cal ?_ | with_reducible refine w_mk ?_ | with_reducible refine w_mth ?_ | with_reducible refine w_bi ?_ | with_reducible refine w_bm ?_ | with_reducible refine w_lc ?_ | with_reducible refine w_iex ?_ | with_reducible refine w_rng1 ?_ | with_reducible refine w_rng2 ?_ | with_reducible refine w_enum ?_ | with_reducible refine w_T0 ?_ | with_reducible refine w_T1 ?_ | with_reducible refine w_add ?_ | with_reducible refine w_sub ?_ | ((with_reducible refine w_tru ?_ ?_); exact rfl)))
  refine w_div (by omega) ?_
  (repeat (first | ((with_reducible refine w_var ?_); refine ⟨_, rfl, ?_⟩) | with_reducible refine z_set ?_ | with_reducible refine z_setT ?_ | with_reducible refine z_par ?_ | with_reducible refine z_fld ?_ | with_reducible refine z_sub ?_ | with_reducible refine z_exp ?_ | with_reducible refine z_ret ?_ | with_reducible refine z_retN ?_ | with_reducible refine z_ite ?_ | with_reducible refine z_whl ?_ | with_reducible refine z_for ?_ | with_reducible refine z_pass ?_ | with_reducible refine z_brk ?_ | with_reducible refine z_cnt ?_ | with_reducible refine z_nil ?_ | with_reducible refine w_bin ?_ | with_reducible refine w_int ?_ | with_reducible refine w_str ?_ | with_reducible refine w_blc ?_ | with_reducible refine w_non ?_ | with_reducible refine w_bty ?_ | with_reducible refine w_neg ?_ | with_reducible refine w_cmp ?_ | with_reducible refine w_chn ?_ | with_reducible refine w_and ?_ | with_reducible refine w_or ?_ | with_reducible refine w_not ?_ | with_reducible refine w_ite ?_ | with_reducible refine w_fld ?_ | with_reducible refine w_ix ?_ | with_reducible refine w_sl ?_ | with_reducible refine w_no ?_ | with_reducible refine w_so ?_ | with_reducible refine w_nil ?_ | with_reducible refine w_cons ?_ | with_reducible refine w_tup ?_ | with_reducible refine w_lst ?_ | with_reducible refine w_cal ?_ | with_reducible refine w_mk ?_ | with_reducible refine w_mth ?_ | with_reducible refine w_bi ?_ | with_reducible refine w_bm ?_ | with_reducible refine w_lc ?_ | with_reducible refine w_iex ?_ | with_reducible refine w_rng1 ?_ | with_reducible refine w_rng2 ?_ | with_reducible refine w_enum ?_ | with_reducible refine w_T0 ?_ | with_reducible refine w_T1 ?_ | with_reducible refine w_add ?_ | with_reducible refine w_sub ?_ | ((with_reducible refine w_tru ?_ ?_); exact rfl)))
  refine digit g5 (by omega) (by omega) fun y6 T6 hy6 hy6' g6 e6 => ?_
  (repeat (first | ((with_reducible refine w_var ?_); refine ⟨_, rfl, ?_⟩) | with_reducible refine z_set ?_ | with_reducible refine z_setT ?_ | with_reducible refine z_par ?_ | with_reducible refine z_fld ?_ | with_reducible refine z_sub ?_ | with_reducible refine z_exp ?_ | with_reducible refine z_ret ?_ | with_reducible refine z_retN ?_ | with_reducible refine z_ite ?_ | with_reducible refine z_whl ?_ | with_reducible refine z_for ?_ | with_reducible refine z_pass ?_ | with_reducible refine z_brk ?_ | with_reducible refine z_cnt ?_ | with_reducible refine z_nil ?_ | with_reducible refine w_bin ?_ | with_reducible refine w_int ?_ | with_reducible refine w_str ?_ | with_reducible refine w_blc ?_ | with_reducible refine w_non ?_ | with_reducible refine w_bty ?_ | with_reducible refine w_neg ?_ | with_reducible refine w_cmp ?_ | with_reducible refine w_chn ?_ | with_reducible refine w_and ?_ | with_reducible refine w_or ?_ | with_reducible refine w_not ?_ | with_reducible refine w_ite ?_ | with_reducible refine w_fld ?_ | with_reducible refine w_ix ?_ | with_reducible refine w_sl ?_ | with_reducible refine w_no ?_ | with_reducible refine w_so ?_ | with_reducible refine w_nil ?_ | with_reducible refine w_cons ?_ | with_reducible refine w_tup ?_ | with_reducible refine w_lst ?_ | with_reducible refine w_cal ?_ | with_reducible refine w_mk ?_ | with_reducible refine w_mth ?_ | with_reducible refine w_bi ?_ | with_reducible refine w_bm ?_ | with_reducible refine w_lc ?_ | with_reducible refine w_iex ?_ | with_reducible refine w_rng1 ?_ | with_reducible refine w_rng2 ?_ | with_reducible refine w_enum ?_ | with_reducible refine w_T0 ?_ | with_reducible refine w_T1 ?_ | with_reducible refine w_add ?_ | with_reducible refine w_sub ?_ | ((with_reducible refine w_tru ?_ ?_); exact rfl)))
  have hs : ∃ s, x = .str (sd s) := by
    simp only [List.mem_cons, List.not_mem_nil, or_false] at hm
    rcases hm with rfl | rfl
    · exact ⟨true, rfl⟩
    · exact ⟨false, rfl⟩
  obtain ⟨s, rfl⟩ := hs
  refine ⟨sz (by simp), ?_⟩
  exact hQ ⟨s, _, _, _, _, _⟩ T6 g6 (fr.trans e6)
def askD (a : Ask) : D := .tup (askL a)
theorem lc_ask {d i : Nat} {S0 S : Sto} {m : Int} {σ : Sl} {nm : Str} {e : Ex} (f0 : DI.Fr [i] S0 S) (h : St S i) (h0 : 0 < m) (h1 : m ≤ 1000000) {v : Nat} (hv : v < σ.length) (hv0 : v ≠ 0) (hv1 : v ≠ 1) (e0 : σ[0]? = some (some (.loc i))) (e1 : σ[1]? = some (some (.int m)))
    {lo hi : Int} (hlo : 0 ≤ lo) (hhi : hi ≤ 100)
    (he : ∀ Q : D → Sto → Prop, (∀ (x : Int) (S' : Sto), lo ≤ x → x ≤ hi → St S' i → DI.Fr [i] S S' → Q (.int x) S') → W (de P0 (calls P0 fs (d + 3)) e false σ S) Q)
    {Q : D → Sto → Prop} (hQ : ∀ (f : Nat) (as : List Ask) (S' : Sto), lo ≤ as.length → (as.length : Int) ≤ hi → S0.length ≤ f → S'[f]? = some (.lst (as.map askD)) → St S' i → DI.Fr [i] S0 S' → Q (.loc f) S') :
    W (de P0 (calls P0 fs (d + 3)) (.lc [(nm, v)] (.nm v) (.rng1 e) .nil (.cal 4 (.cons (.var 0) (.cons (.var 1) .nil)))) false σ S) Q := by
  refine w_lc (w_rng1 (he _ fun x S1 hx hx' g f1 => ⟨x, rfl, decide_eq_true (by omega), ?_⟩))
  have gl := g.lt
  have f2 := f0.trans f1
  show W (lcLoop _ _ _ _ _ _ x.toNat 0 _) _
  refine W_lcLoop (J := fun k S' => k ≤ x.toNat ∧ St S' i ∧ DI.Fr [i] S1 S' ∧ ∃ as : List Ask, as.length = k ∧ S'[S1.length]? = some (.lst (as.map askD))) (k0 := x.toNat) ?_ ?_ ?_ x.toNat 0 _ (by omega) ⟨by omega, g.fr (B := []) DI.Fr.push (by simp), DI.Fr.push, [], rfl, get_push⟩
  · rintro S' _
    simp [wgo]
  · rintro k S' hk ⟨_, g', f', as, hl, ha⟩
    refine ⟨.int (0 + k), _, by simp only [wgo]; rw [if_pos hk], rfl, w_T0 ?_⟩
    rw [if_pos rfl]
    refine w_cal (w_cons (w_var ⟨.loc i, ?_, w_cons (w_var ⟨.int m, ?_, w_nil (asked g' h0 h1 fun a S2 g2 f3 => ?_)⟩)⟩))
    · simp only [wipeD, List.map_cons, List.map_nil]
      rw [List.getElem?_set_ne (by omega), List.getElem?_set_ne (by omega)]
      exact e0
    · simp only [wipeD, List.map_cons, List.map_nil]
      rw [List.getElem?_set_ne (by omega), List.getElem?_set_ne (by omega)]
      exact e1
    · have ha2 := f3.get ha (by simp; omega)
      refine ⟨_, ha2, Nat.lt_of_le_of_lt (m := 1000000) (by simp; omega) (by decide), by omega, g2.fr (B := [S1.length]) (DI.Fr.set (.inl (by simp))) (by simp; omega), (f'.trans f3).setr (.inr (Nat.le_refl _)), as ++ [a], by simp [hl], ?_⟩
      rw [get_set (lt_of ha2)]
      simp [askD]
  · rintro S' ⟨_, g', f', as, hl, ha⟩
    exact hQ _ as S' (by omega) (by omega) f2.1 ha g' (f2.trans f')
end K25

set_option Elab.async false
set_option linter.all false
set_option maxRecDepth 100000
set_option maxHeartbeats 4000000
namespace K25
open L2 DI PySem PySem.Spec PyProof.Rows
theorem _root_.DI.Fr.comp {B B' : List Nat} {S S1 S2 : Sto} (a : DI.Fr B S S1) (b : DI.Fr B' S1 S2) (h : ∀ k ∈ B', k ∈ B ∨ S.length ≤ k) : DI.Fr B S S2 := ⟨Nat.le_trans a.1 b.1, fun k h1 h2 => (b.2 k (Nat.lt_of_lt_of_le h1 a.1) fun h3 => (h k h3).elim h2 fun h4 => by omega).trans (a.2 k h1 h2)⟩
theorem init {d o : Nat} {S : Sto} (h : S[o]? = some (.ins 0 [])) {Q : D → Sto → Prop} (hQ : ∀ S', Sp S' o S.length [] → DI.Fr [o] S S' → Q .non S') : W (calls P0 fs (d + 1) 1 [.loc o] S) Q := by
  refine W_call (f := d_Strip_init) rfl rfl ?_
  show WS (dSs P0 _ t_Strip_init [some (.loc o)] S) _
  unfold t_Strip_init
  have h1 : (S ++ [Cell.lst []])[o]? = some (.ins 0 []) := get_pushl h
  refine z_fld (w_lst (w_nil ⟨sz (by simp), w_var ⟨_, rfl, (S ++ [Cell.lst []]).set o (.ins 0 [(("rows" : Str), .loc S.length)]), ?_, ?_⟩⟩))
  · simp only [putSem, h1]
    rfl
  · have hl := lt_of h
    refine z_nil (hQ _ ⟨get_set (by simp <;> omega), ?_⟩ (DI.Fr.push.setr (.inl (by simp))))
    rw [get_setn (by omega)]
    exact get_push
noncomputable def toldP (R : List Rw) : List Ask → List Rw
  | [] => []
  | a :: as => placeP R a :: toldP (R ++ [placeP R a]) as
theorem told_len : ∀ (as : List Ask) (R : List Rw), (toldP R as).length = as.length
  | [], _ => rfl
  | a :: as, R => by simp [toldP, told_len as]
theorem told_at : ∀ (as : List Ask) (R : List Rw) (k : Nat) (h : k < as.length), (toldP R as)[k]? = some (placeP (R ++ (toldP R as).take k) as[k])
  | a :: as, R, 0, _ => by simp [toldP]
  | a :: as, R, k + 1, h => by
    have hk : k < as.length := by simpa using h
    simp only [toldP, List.getElem?_cons_succ, List.take_succ_cons, List.getElem_cons_succ]
    rw [told_at as _ k hk]
    simp
theorem told_take : ∀ (as : List Ask) (R : List Rw) (k : Nat), toldP R (as.take k) = (toldP R as).take k
  | [], _, k => by simp [toldP]
  | a :: as, R, 0 => by simp [toldP]
  | a :: as, R, k + 1 => by simp [toldP, told_take as]
def rowL (q : Ask × Rw) : List D := askL q.1 ++ [q.2.d]
def rowD (q : Ask × Rw) : D := .tup (rowL q)
/-- the call of place with the six of a row in a variable -/
theorem place6 {d o l vs vr : Nat} {S : Sto} {R : List Rw} {a : Ask} {σ : Sl} {more : List D} (h : Sp S o l R) (hR : R.length < 1000000) (e1 : σ[vs]? = some (some (.loc o))) (e2 : σ[vr]? = some (some (.tup (askL a ++ more)))) {Q : D → Sto → Prop} (hQ : ∀ S', DI.Fr [l] S S' → Sp S' o l (R ++ [placeP R a]) → Q (placeP R a).d S') :
    W (de P0 (calls P0 fs (d + 3)) (.mth 0 12 (.var vs) ("place" : Str) (.cons (.ix (.var vr) (.cst (.int 0))) (.cons (.ix (.var vr) (.cst (.int 1))) (.cons (.ix (.var vr) (.cst (.int 2))) (.cons (.ix (.var vr) (.cst (.int 3))) (.cons (.ix (.var vr) (.cst (.int 4))) (.cons (.ix (.var vr) (.cst (.int 5))) .nil))))))) false σ S) Q := by
  have hi : ∀ (k : Nat) (y : D), (askL a)[k]? = some y → itemSem (.tup (askL a ++ more)) (.int k) S = some y := fun k y e => by
    simp only [itemSem]
    refine DI.atI_nat ?_
    rw [List.getElem?_append_left (List.getElem?_eq_some_iff.mp e).1]
    exact e
  refine w_mth (w_var ⟨_, e1, _, _, rfl, h.1, rfl, ?_⟩)
  refine w_cons (V_use (V_ix (V_var e2) V_int (hi 0 _ rfl)) (w_cons (V_use (V_ix (V_var e2) V_int (hi 1 _ rfl)) (w_cons (V_use (V_ix (V_var e2) V_int (hi 2 _ rfl)) (w_cons (V_use (V_ix (V_var e2) V_int (hi 3 _ rfl)) (w_cons (V_use (V_ix (V_var e2) V_int (hi 4 _ rfl)) (w_cons (V_use (V_ix (V_var e2) V_int (hi 5 _ rfl)) (w_nil ?_))))))))))))
  exact place h hR hQ
theorem first_at {n k : Nat} {p : Nat → Bool} (hk : k < n) (h1 : p k = true) (h2 : ∀ j, j < k → p j = false) : ((List.range n).filter p).head? = some k := by
  rw [List.head?_filter, List.find?_range_eq_some]
  exact ⟨h1, List.mem_range.mpr hk, fun j hj => by rw [h2 j hj]; rfl⟩
theorem first_no {n : Nat} {p : Nat → Bool} (h2 : ∀ j, j < n → p j = false) : ((List.range n).filter p).head? = none := by
  rw [List.head?_filter, List.find?_range_eq_none]
  exact fun j hj => by rw [h2 j hj]; rfl
theorem Rw.pl (q : Rw) : plD 32 q.d = true := by
  obtain ⟨s, x, y, r, b⟩ := q
  have : PyData.canLay0 (.str (sd s)) = true := by cases s <;> decide +kernel
  simp [Rw.d, plD, this]
theorem sd_inj {s s' : Bool} (h : sd s = sd s') : s = s' := by revert h; cases s <;> cases s' <;> simp [sd] <;> decide
theorem Rw.inj {q q' : Rw} : q.d = q'.d ↔ q = q' := by
  obtain ⟨s, x, y, r, b⟩ := q
  obtain ⟨s', x', y', r', b'⟩ := q'
  constructor
  · intro h
    simp only [Rw.d, D.tup.injEq, List.cons.injEq, D.str.injEq, D.int.injEq, and_true] at h
    obtain ⟨h1, rfl, rfl, rfl, rfl⟩ := h
    rw [sd_inj h1]
  · rintro h; rw [h]
end K25

set_option Elab.async false
set_option linter.all false
set_option maxRecDepth 100000
set_option maxHeartbeats 4000000
namespace K25
open L2 DI PySem PySem.Spec PyProof.Rows
theorem oneI' {d i : Nat} {S : Sto} {xs : List D} (h : St S i) (hx : ∀ x ∈ xs, ∃ n : Int, x = .int n) (h0 : 0 < xs.length) (h1 : xs.length < 1000000) {Q : D → Sto → Prop}
    (hQ : ∀ (x : Int) (S' : Sto), D.int x ∈ xs → St S' i → DI.Fr [i] S S' → Q (.int x) S') : W (calls P0 fs (d + 2) 3 [.loc i, .loc S.length] (S ++ [.lst xs])) Q := by
  have hl := h.lt
  refine one (h.fr (B := []) DI.Fr.push (by simp)) get_push (by omega) h0 h1 fun x S' hm h' f => ?_
  obtain ⟨n, rfl⟩ := hx x hm
  exact hQ n S' hm h' (DI.Fr.push.trans f)
/-- what is asked, with its bounds -/
theorem askedB {d i : Nat} {S : Sto} {m : Int} (h : St S i) (h0 : 10 ≤ m) (h1 : m ≤ 1000000) {Q : D → Sto → Prop}
    (hQ : ∀ (a : Ask) (S' : Sto), -3 ≤ a.t → a.t ≤ m → a.h ≤ m → St S' i → DI.Fr [i] S S' → Q (.tup (askL a)) S') : W (calls P0 fs (d + 3) 4 [.loc i, .int m] S) Q := by
  refine W_call (f := d_law_asked) rfl rfl ?_
  show WS (dSs P0 _ t_law_asked [some (.loc i), some (.int m), none, none, none, none] S) _
  unfold t_law_asked
  (repeat (first | ((with_reducible refine w_var ?_); refine ⟨_, rfl, ?_⟩) | with_reducible refine z_set ?_ | with_reducible refine z_setT ?_ | with_reducible refine z_par ?_ | with_reducible refine z_fld ?_ | with_reducible refine z_sub ?_ | with_reducible refine z_exp ?_ | with_reducible refine z_ret ?_ | with_reducible refine z_retN ?_ | with_reducible refine z_ite ?_ | with_reducible refine z_whl ?_ | with_reducible refine z_for ?_ | with_reducible refine z_pass ?_ | with_reducible refine z_brk ?_ | with_reducible refine z_cnt ?_ | with_reducible refine z_nil ?_ | with_reducible refine w_bin ?_ | with_reducible refine w_int ?_ | with_reducible refine w_str ?_ | with_reducible refine w_blc ?_ | with_reducible refine w_non ?_ | with_reducible refine w_bty ?_ | with_reducible refine w_neg ?_ | with_reducible refine w_cmp ?_ | with_reducible refine w_chn ?_ | with_reducible refine w_and ?_ | with_reducible refine w_or ?_ | with_reducible refine w_not ?_ | with_reducible refine w_ite ?_ | with_reducible refine w_fld ?_ | with_reducible refine w_ix ?_ | with_reducible refine w_sl ?_ | with_reducible refine w_no ?_ | with_reducible refine w_so ?_ | with_reducible refine w_nil ?_ | with_reducible refine w_cons ?_ | with_reducible refine w_tup ?_ | with_reducible refine w_lst ?_ | with_reducible refine w_cal ?_ | with_reducible refine w_mk ?_ | with_reducible refine w_mth ?_ | with_reducible refine w_bi ?_ | with_reducible refine w_bm ?_ | with_reducible refine w_lc ?_ | with_reducible refine w_iex ?_ | with_reducible refine w_rng1 ?_ | with_reducible refine w_rng2 ?_ | with_reducible refine w_enum ?_ | with_reducible refine w_T0 ?_ | with_reducible refine w_T1 ?_ | with_reducible refine w_add ?_ | with_reducible refine w_sub ?_ | ((with_reducible refine w_tru ?_ ?_); exact rfl)))
  refine digit h (by omega) (by omega) fun x1 S1 hx1 hx1' h2 f1 => ?_
  (repeat (first | ((with_reducible refine w_var ?_); refine ⟨_, rfl, ?_⟩) | with_reducible refine z_set ?_ | with_reducible refine z_setT ?_ | with_reducible refine z_par ?_ | with_reducible refine z_fld ?_ | with_reducible refine z_sub ?_ | with_reducible refine z_exp ?_ | with_reducible refine z_ret ?_ | with_reducible refine z_retN ?_ | with_reducible refine z_ite ?_ | with_reducible refine z_whl ?_ | with_reducible refine z_for ?_ | with_reducible refine z_pass ?_ | with_reducible refine z_brk ?_ | with_reducible refine z_cnt ?_ | with_reducible refine z_nil ?_ | with_reducible refine w_bin ?_ | with_reducible refine w_int ?_ | with_reducible refine w_str ?_ | with_reducible refine w_blc ?_ | with_reducible refine w_non ?_ | with_reducible refine w_bty ?_ | with_reducible refine w_neg ?_ | with_reducible refine w_cmp ?_ | with_reducible refine w_chn ?_ | with_reducible refine w_and ?_ | with_reducible refine w_or ?_ | with_reducible refine w_not ?_ | with_reducible refine w_ite ?_ | with_reducible refine w_fld ?_ | with_reducible refine w_ix ?_ | with_reducible refine w_sl ?_ | with_reducible refine w_no ?_ | with_reducible refine w_so ?_ | with_reducible refine w_nil ?_ | with_reducible refine w_cons ?_ | with_reducible refine w_tup ?_ | with_reducible refine w_lst ?_ | with_reducible refine w_cal ?_ | with_reducible refine w_mk ?_ | with_reducible refine w_mth ?_ | with_reducible refine w_bi ?_ | with_reducible refine w_bm ?_ | with_reducible refine w_lc ?_ | with_reducible refine w_iex ?_ | with_reducible refine w_rng1 ?_ | with_reducible refine w_rng2 ?_ | with_reducible refine w_enum ?_ | with_reducible refine w_T0 ?_ | with_reducible refine w_T1 ?_ | with_reducible refine w_add ?_ | with_reducible refine w_sub ?_ | ((with_reducible refine w_tru ?_ ?_); exact rfl)))
  refine w_div (by omega) ?_
  (repeat (first | ((with_reducible refine w_var ?_); refine ⟨_, rfl, ?_⟩) | with_reducible refine z_set ?_ | with_reducible refine z_setT ?_ | with_reducible refine z_par ?_ | with_reducible refine z_fld ?_ | with_reducible refine z_sub ?_ | with_reducible refine z_exp ?_ | with_reducible refine z_ret ?_ | with_reducible refine z_retN ?_ | with_reducible refine z_ite ?_ | with_reducible refine z_whl ?_ | with_reducible refine z_for ?_ | with_reducible refine z_pass ?_ | with_reducible refine z_brk ?_ | with_reducible refine z_cnt ?_ | with_reducible refine z_nil ?_ | with_reducible refine w_bin ?_ | with_reducible refine w_int ?_ | with_reducible refine w_str ?_ | with_reducible refine w_blc ?_ | with_reducible refine w_non ?_ | with_reducible refine w_bty ?_ | with_reducible refine w_neg ?_ | with_reducible refine w_cmp ?_ | with_reducible refine w_chn ?_ | with_reducible refine w_and ?_ | with_reducible refine w_or ?_ | with_reducible refine w_not ?_ | with_reducible refine w_ite ?_ | with_reducible refine w_fld ?_ | with_reducible refine w_ix ?_ | with_reducible refine w_sl ?_ | with_reducible refine w_no ?_ | with_reducible refine w_so ?_ | with_reducible refine w_nil ?_ | with_reducible refine w_cons ?_ | with_reducible refine w_tup ?_ | with_reducible refine w_lst ?_ | with_reducible refine w_cal ?_ | with_reducible refine w_mk ?_ | with_reducible refine w_mth ?_ | with_reducible refine w_bi ?_ | with_reducible refine w_bm ?_ | with_reducible refine w_lc ?_ | with_reducible refine w_iex ?_ | with_reducible refine w_rng1 ?_ | with_reducible refine w_rng2 ?_ | with_reducible refine w_enum ?_ | with_reducible refine w_T0 ?_ | with_reducible refine w_T1 ?_ | with_reducible refine w_add ?_ | with_reducible refine w_sub ?_ | ((with_reducible refine w_tru ?_ ?_); exact rfl)))
  try simp only [List.set_cons_succ, List.set_cons_zero]
  (repeat (first | ((with_reducible refine w_var ?_); refine ⟨_, rfl, ?_⟩) | with_reducible refine z_set ?_ | with_reducible refine z_setT ?_ | with_reducible refine z_par ?_ | with_reducible refine z_fld ?_ | with_reducible refine z_sub ?_ | with_reducible refine z_exp ?_ | with_reducible refine z_ret ?_ | with_reducible refine z_retN ?_ | with_reducible refine z_ite ?_ | with_reducible refine z_whl ?_ | with_reducible refine z_for ?_ | with_reducible refine z_pass ?_ | with_reducible refine z_brk ?_ | with_reducible refine z_cnt ?_ | with_reducible refine z_nil ?_ | with_reducible refine w_bin ?_ | with_reducible refine w_int ?_ | with_reducible refine w_str ?_ | with_reducible refine w_blc ?_ | with_reducible refine w_non ?_ | with_reducible refine w_bty ?_ | with_reducible refine w_neg ?_ | with_reducible refine w_cmp ?_ | with_reducible refine w_chn ?_ | with_reducible refine w_and ?_ | with_reducible refine w_or ?_ | with_reducible refine w_not ?_ | with_reducible refine w_ite ?_ | with_reducible refine w_fld ?_ | with_reducible refine w_ix ?_ | with_reducible refine w_sl ?_ | with_reducible refine w_no ?_ | with_reducible refine w_so ?_ | with_reducible refine w_nil ?_ | with_reducible refine w_cons ?_ | with_reducible refine w_tup ?_ | with_reducible refine w_lst ?_ | with_reducible refine w_cal ?_ | with_reducible refine w_mk ?_ | with_reducible refine w_mth ?_ | with_reducible refine w_bi ?_ | with_reducible refine w_bm ?_ | with_reducible refine w_lc ?_ | with_reducible refine w_iex ?_ | with_reducible refine w_rng1 ?_ | with_reducible refine w_rng2 ?_ | with_reducible refine w_enum ?_ | with_reducible refine w_T0 ?_ | with_reducible refine w_T1 ?_ | with_reducible refine w_add ?_ | with_reducible refine w_sub ?_ | ((with_reducible refine w_tru ?_ ?_); exact rfl)))
  refine digit h2 (by omega) (by omega) fun x2 S2 hx2 hx2' h3 f2 => ?_
  (repeat (first | ((with_reducible refine w_var ?_); refine ⟨_, rfl, ?_⟩) | with_reducible refine z_set ?_ | with_reducible refine z_setT ?_ | with_reducible refine z_par ?_ | with_reducible refine z_fld ?_ | with_reducible refine z_sub ?_ | with_reducible refine z_exp ?_ | with_reducible refine z_ret ?_ | with_reducible refine z_retN ?_ | with_reducible refine z_ite ?_ | with_reducible refine z_whl ?_ | with_reducible refine z_for ?_ | with_reducible refine z_pass ?_ | with_reducible refine z_brk ?_ | with_reducible refine z_cnt ?_ | with_reducible refine z_nil ?_ | with_reducible refine w_bin ?_ | with_reducible refine w_int ?_ | with_reducible refine w_str ?_ | with_reducible refine w_blc ?_ | with_reducible refine w_non ?_ | with_reducible refine w_bty ?_ | with_reducible refine w_neg ?_ | with_reducible refine w_cmp ?_ | with_reducible refine w_chn ?_ | with_reducible refine w_and ?_ | with_reducible refine w_or ?_ | with_reducible refine w_not ?_ | with_reducible refine w_ite ?_ | with_reducible refine w_fld ?_ | with_reducible refine w_ix ?_ | with_reducible refine w_sl ?_ | with_reducible refine w_no ?_ | with_reducible refine w_so ?_ | with_reducible refine w_nil ?_ | with_reducible refine w_cons ?_ | with_reducible refine w_tup ?_ | with_reducible refine w_lst ?_ | with_reducible refine w_cal ?_ | with_reducible refine w_mk ?_ | with_reducible refine w_mth ?_ | with_reducible refine w_bi ?_ | with_reducible refine w_bm ?_ | with_reducible refine w_lc ?_ | with_reducible refine w_iex ?_ | with_reducible refine w_rng1 ?_ | with_reducible refine w_rng2 ?_ | with_reducible refine w_enum ?_ | with_reducible refine w_T0 ?_ | with_reducible refine w_T1 ?_ | with_reducible refine w_add ?_ | with_reducible refine w_sub ?_ | ((with_reducible refine w_tru ?_ ?_); exact rfl)))
  refine digit h3 (by omega) (by omega) fun x3 S3 hx3 hx3' h4 f3 => ?_
  (repeat (first | ((with_reducible refine w_var ?_); refine ⟨_, rfl, ?_⟩) | with_reducible refine z_set ?_ | with_reducible refine z_setT ?_ | with_reducible refine z_par ?_ | with_reducible refine z_fld ?_ | with_reducible refine z_sub ?_ | with_reducible refine z_exp ?_ | with_reducible refine z_ret ?_ | with_reducible refine z_retN ?_ | with_reducible refine z_ite ?_ | with_reducible refine z_whl ?_ | with_reducible refine z_for ?_ | with_reducible refine z_pass ?_ | with_reducible refine z_brk ?_ | with_reducible refine z_cnt ?_ | with_reducible refine z_nil ?_ | with_reducible refine w_bin ?_ | with_reducible refine w_int ?_ | with_reducible refine w_str ?_ | with_reducible refine w_blc ?_ | with_reducible refine w_non ?_ | with_reducible refine w_bty ?_ | with_reducible refine w_neg ?_ | with_reducible refine w_cmp ?_ | with_reducible refine w_chn ?_ | with_reducible refine w_and ?_ | with_reducible refine w_or ?_ | with_reducible refine w_not ?_ | with_reducible refine w_ite ?_ | with_reducible refine w_fld ?_ | with_reducible refine w_ix ?_ | with_reducible refine w_sl ?_ | with_reducible refine w_no ?_ | with_reducible refine w_so ?_ | with_reducible refine w_nil ?_ | with_reducible refine w_cons ?_ | with_reducible refine w_tup ?_ | with_reducible refine w_lst ?_ | with_reducible refine w_cal ?_ | with_reducible refine w_mk ?_ | with_reducible refine w_mth ?_ | with_reducible refine w_bi ?_ | with_reducible refine w_bm ?_ | with_reducible refine w_lc ?_ | with_reducible refine w_iex ?_ | with_reducible refine w_rng1 ?_ | with_reducible refine w_rng2 ?_ | with_reducible refine w_enum ?_ | with_reducible refine w_T0 ?_ | with_reducible refine w_T1 ?_ | with_reducible refine w_add ?_ | with_reducible refine w_sub ?_ | ((with_reducible refine w_tru ?_ ?_); exact rfl)))
  refine ⟨sz (by simp), ?_⟩
  (repeat (first | ((with_reducible refine w_var ?_); refine ⟨_, rfl, ?_⟩) | with_reducible refine z_set ?_ | with_reducible refine z_setT ?_ | with_reducible refine z_par ?_ | with_reducible refine z_fld ?_ | with_reducible refine z_sub ?_ | with_reducible refine z_exp ?_ | with_reducible refine z_ret ?_ | with_reducible refine z_retN ?_ | with_reducible refine z_ite ?_ | with_reducible refine z_whl ?_ | with_reducible refine z_for ?_ | with_reducible refine z_pass ?_ | with_reducible refine z_brk ?_ | with_reducible refine z_cnt ?_ | with_reducible refine z_nil ?_ | with_reducible refine w_bin ?_ | with_reducible refine w_int ?_ | with_reducible refine w_str ?_ | with_reducible refine w_blc ?_ | with_reducible refine w_non ?_ | with_reducible refine w_bty ?_ | with_reducible refine w_neg ?_ | with_reducible refine w_cmp ?_ | with_reducible refine w_chn ?_ | with_reducible refine w_and ?_ | with_reducible refine w_or ?_ | with_reducible refine w_not ?_ | with_reducible refine w_ite ?_ | with_reducible refine w_fld ?_ | with_reducible refine w_ix ?_ | with_reducible refine w_sl ?_ | with_reducible refine w_no ?_ | with_reducible refine w_so ?_ | with_reducible refine w_nil ?_ | with_reducible refine w_cons ?_ | with_reducible refine w_tup ?_ | with_reducible refine w_lst ?_ | with_reducible refine w_cal ?_ | with_reducible refine w_mk ?_ | with_reducible refine w_mth ?_ | with_reducible refine w_bi ?_ | with_reducible refine w_bm ?_ | with_reducible refine w_lc ?_ | with_reducible refine w_iex ?_ | with_reducible refine w_rng1 ?_ | with_reducible refine w_rng2 ?_ | with_reducible refine w_enum ?_ | with_reducible refine w_T0 ?_ | with_reducible refine w_T1 ?_ | with_reducible refine w_add ?_ | with_reducible refine w_sub ?_ | ((with_reducible refine w_tru ?_ ?_); exact rfl)))
  refine oneI h4 (by simp) (by simp) (by simp) fun x4 S4 h5 f4 => ?_
  (repeat (first | ((with_reducible refine w_var ?_); refine ⟨_, rfl, ?_⟩) | with_reducible refine z_set ?_ | with_reducible refine z_setT ?_ | with_reducible refine z_par ?_ | with_reducible refine z_fld ?_ | with_reducible refine z_sub ?_ | with_reducible refine z_exp ?_ | with_reducible refine z_ret ?_ | with_reducible refine z_retN ?_ | with_reducible refine z_ite ?_ | with_reducible refine z_whl ?_ | with_reducible refine z_for ?_ | with_reducible refine z_pass ?_ | with_reducible refine z_brk ?_ | with_reducible refine z_cnt ?_ | with_reducible refine z_nil ?_ | with_reducible refine w_bin ?_ | with_reducible refine w_int ?_ | with_reducible refine w_str ?_ | with_reducible refine w_blc ?_ | with_reducible refine w_non ?_ | with_reducible refine w_bty ?_ | with_reducible refine w_neg ?_ | with_reducible refine w_cmp ?_ | with_reducible refine w_chn ?_ | with_reducible refine w_and ?_ | with_reducible refine w_or ?_ | with_reducible refine w_not ?_ | with_reducible refine w_ite ?_ | with_reducible refine w_fld ?_ | with_reducible refine w_ix ?_ | with_reducible refine w_sl ?_ | with_reducible refine w_no ?_ | with_reducible refine w_so ?_ | with_reducible refine w_nil ?_ | with_reducible refine w_cons ?_ | with_reducible refine w_tup ?_ | with_reducible refine w_lst ?_ | with_reducible refine w_cal ?_ | with_reducible refine w_mk ?_ | with_reducible refine w_mth ?_ | with_reducible refine w_bi ?_ | with_reducible refine w_bm ?_ | with_reducible refine w_lc ?_ | with_reducible refine w_iex ?_ | with_reducible refine w_rng1 ?_ | with_reducible refine w_rng2 ?_ | with_reducible refine w_enum ?_ | with_reducible refine w_T0 ?_ | with_reducible refine w_T1 ?_ | with_reducible refine w_add ?_ | with_reducible refine w_sub ?_ | ((with_reducible refine w_tru ?_ ?_); exact rfl)))
  try simp only [List.set_cons_succ, List.set_cons_zero]
  (repeat (first | ((with_reducible refine w_var ?_); refine ⟨_, rfl, ?_⟩) | with_reducible refine z_set ?_ | with_reducible refine z_setT ?_ | with_reducible refine z_par ?_ | with_reducible refine z_fld ?_ | with_reducible refine z_sub ?_ | with_reducible refine z_exp ?_ | with_reducible refine z_ret ?_ | with_reducible refine z_retN ?_ | with_reducible refine z_ite ?_ | with_reducible refine z_whl ?_ | with_reducible refine z_for ?_ | with_reducible refine z_pass ?_ | with_reducible refine z_brk ?_ | with_reducible refine z_cnt ?_ | with_reducible refine z_nil ?_ | with_reducible refine w_bin ?_ | with_reducible refine w_int ?_ | with_reducible refine w_str ?_ | with_reducible refine w_blc ?_ | with_reducible refine w_non ?_ | with_reducible refine w_bty ?_ | with_reducible refine w_neg ?_ | with_reducible refine w_cmp ?_ | with_reducible refine w_chn ?_ | with_reducible refine w_and ?_ | with_reducible refine w_or ?_ | with_reducible refine w_not ?_ | with_reducible refine w_ite ?_ | with_reducible refine w_fld ?_ | with_reducible refine w_ix ?_ | with_reducible refine w_sl ?_ | with_reducible refine w_no ?_ | with_reducible refine w_so ?_ | with_reducible refine w_nil ?_ | with_reducible refine w_cons ?_ | with_reducible refine w_tup ?_ | with_reducible refine w_lst ?_ | with_reducible refine w_cal ?_ | with_reducible refine w_mk ?_ | with_reducible refine w_mth ?_ | with_reducible refine w_bi ?_ | with_reducible refine w_bm ?_ | with_reducible refine w_lc ?_ | with_reducible refine w_iex ?_ | with_reducible refine w_rng1 ?_ | with_reducible refine w_rng2 ?_ | with_reducible refine w_enum ?_ | with_reducible refine w_T0 ?_ | with_reducible refine w_T1 ?_ | with_reducible refine w_add ?_ | with_reducible refine w_sub ?_ | ((with_reducible refine w_tru ?_ ?_); exact rfl)))
  refine digit h5 (by omega) (by omega) fun x5 S5 hx5 hx5' h6 f5 => ?_
  (repeat (first | ((with_reducible refine w_var ?_); refine ⟨_, rfl, ?_⟩) | with_reducible refine z_set ?_ | with_reducible refine z_setT ?_ | with_reducible refine z_par ?_ | with_reducible refine z_fld ?_ | with_reducible refine z_sub ?_ | with_reducible refine z_exp ?_ | with_reducible refine z_ret ?_ | with_reducible refine z_retN ?_ | with_reducible refine z_ite ?_ | with_reducible refine z_whl ?_ | with_reducible refine z_for ?_ | with_reducible refine z_pass ?_ | with_reducible refine z_brk ?_ | with_reducible refine z_cnt ?_ | with_reducible refine z_nil ?_ | with_reducible refine w_bin ?_ | with_reducible refine w_int ?_ | with_reducible refine w_str ?_ | with_reducible refine w_blc ?_ | with_reducible refine w_non ?_ | with_reducible refine w_bty ?_ | with_reducible refine w_neg ?_ | with_reducible refine w_cmp ?_ | with_reducible refine w_chn ?_ | with_reducible refine w_and ?_ | with_reducible refine w_or ?_ | with_reducible refine w_not ?_ | with_reducible refine w_ite ?_ | with_reducible refine w_fld ?_ | with_reducible refine w_ix ?_ | with_reducible refine w_sl ?_ | with_reducible refine w_no ?_ | with_reducible refine w_so ?_ | with_reducible refine w_nil ?_ | with_reducible refine w_cons ?_ | with_reducible refine w_tup ?_ | with_reducible refine w_lst ?_ | with_reducible refine w_cal ?_ | with_reducible refine w_mk ?_ | with_reducible refine w_mth ?_ | with_reducible refine w_bi ?_ | with_reducible refine w_bm ?_ | with_reducible refine w_lc ?_ | with_reducible refine w_iex ?_ | with_reducible refine w_rng1 ?_ | with_reducible refine w_rng2 ?_ | with_reducible refine w_enum ?_ | with_reducible refine w_T0 ?_ | with_reducible refine w_T1 ?_ | with_reducible refine w_add ?_ | with_reducible refine w_sub ?_ | ((with_reducible refine w_tru ?_ ?_); exact rfl)))
  refine w_div (by omega) ?_
  (repeat (first | ((with_reducible refine w_var ?_); refine ⟨_, rfl, ?_⟩) | with_reducible refine z_set ?_ | with_reducible refine z_setT ?_ | with_reducible refine z_par ?_ | with_reducible refine z_fld ?_ | with_reducible refine z_sub ?_ | with_reducible refine z_exp ?_ | with_reducible refine z_ret ?_ | with_reducible refine z_retN ?_ | with_reducible refine z_ite ?_ | with_reducible refine z_whl ?_ | with_reducible refine z_for ?_ | with_reducible refine z_pass ?_ | with_reducible refine z_brk ?_ | with_reducible refine z_cnt ?_ | with_reducible refine z_nil ?_ | with_reducible refine w_bin ?_ | with_reducible refine w_int ?_ | with_reducible refine w_str ?_ | with_reducible refine w_blc ?_ | with_reducible refine w_non ?_ | with_reducible refine w_bty ?_ | with_reducible refine w_neg ?_ | with_reducible refine w_cmp ?_ | with_reducible refine w_chn ?_ | with_reducible refine w_and ?_ | with_reducible refine w_or ?_ | with_reducible refine w_not ?_ | with_reducible refine w_ite ?_ | with_reducible refine w_fld ?_ | with_reducible refine w_ix ?_ | with_reducible refine w_sl ?_ | with_reducible refine w_no ?_ | with_reducible refine w_so ?_ | with_reducible refine w_nil ?_ | with_reducible refine w_cons ?_ | with_reducible refine w_tup ?_ | with_reducible refine w_lst ?_ | with_reducible refine w_cal ?_ | with_reducible refine w_mk ?_ | with_reducible refine w_mth ?_ | with_reducible refine w_bi ?_ | with_reducible refine w_bm ?_ | with_reducible refine w_lc ?_ | with_reducible refine w_iex ?_ | with_reducible refine w_rng1 ?_ | with_reducible refine w_rng2 ?_ | with_reducible refine w_enum ?_ | with_reducible refine w_T0 ?_ | with_reducible refine w_T1 ?_ | with_reducible refine w_add ?_ | with_reducible refine w_sub ?_ | ((with_reducible refine w_tru ?_ ?_); exact rfl)))
  refine digit h6 (by omega) (by omega) fun x6 S6 hx6 hx6' h7 f6 => ?_
  (repeat (first | ((with_reducible refine w_var ?_); refine ⟨_, rfl, ?_⟩) | with_reducible refine z_set ?_ | with_reducible refine z_setT ?_ | with_reducible refine z_par ?_ | with_reducible refine z_fld ?_ | with_reducible refine z_sub ?_ | with_reducible refine z_exp ?_ | with_reducible refine z_ret ?_ | with_reducible refine z_retN ?_ | with_reducible refine z_ite ?_ | with_reducible refine z_whl ?_ | with_reducible refine z_for ?_ | with_reducible refine z_pass ?_ | with_reducible refine z_brk ?_ | with_reducible refine z_cnt ?_ | with_reducible refine z_nil ?_ | with_reducible refine w_bin ?_ | with_reducible refine w_int ?_ | with_reducible refine w_str ?_ | with_reducible refine w_blc ?_ | with_reducible refine w_non ?_ | with_reducible refine w_bty ?_ | with_reducible refine w_neg ?_ | with_reducible refine w_cmp ?_ | with_reducible refine w_chn ?_ | with_reducible refine w_and ?_ | with_reducible refine w_or ?_ | with_reducible refine w_not ?_ | with_reducible refine w_ite ?_ | with_reducible refine w_fld ?_ | with_reducible refine w_ix ?_ | with_reducible refine w_sl ?_ | with_reducible refine w_no ?_ | with_reducible refine w_so ?_ | with_reducible refine w_nil ?_ | with_reducible refine w_cons ?_ | with_reducible refine w_tup ?_ | with_reducible refine w_lst ?_ | with_reducible refine w_cal ?_ | with_reducible refine w_mk ?_ | with_reducible refine w_mth ?_ | with_reducible refine w_bi ?_ | with_reducible refine w_bm ?_ | with_reducible refine w_lc ?_ | with_reducible refine w_iex ?_ | with_reducible refine w_rng1 ?_ | with_reducible refine w_rng2 ?_ | with_reducible refine w_enum ?_ | with_reducible refine w_T0 ?_ | with_reducible refine w_T1 ?_ | with_reducible refine w_add ?_ | with_reducible refine w_sub ?_ | ((with_reducible refine w_tru ?_ ?_); exact rfl)))
  refine digit h7 (by omega) (by omega) fun x7 S7 hx7 hx7' h8 f7 => ?_
  (repeat (first | ((with_reducible refine w_var ?_); refine ⟨_, rfl, ?_⟩) | with_reducible refine z_set ?_ | with_reducible refine z_setT ?_ | with_reducible refine z_par ?_ | with_reducible refine z_fld ?_ | with_reducible refine z_sub ?_ | with_reducible refine z_exp ?_ | with_reducible refine z_ret ?_ | with_reducible refine z_retN ?_ | with_reducible refine z_ite ?_ | with_reducible refine z_whl ?_ | with_reducible refine z_for ?_ | with_reducible refine z_pass ?_ | with_reducible refine z_brk ?_ | with_reducible refine z_cnt ?_ | with_reducible refine z_nil ?_ | with_reducible refine w_bin ?_ | with_reducible refine w_int ?_ | with_reducible refine w_str ?_ | with_reducible refine w_blc ?_ | with_reducible refine w_non ?_ | with_reducible refine w_bty ?_ | with_reducible refine w_neg ?_ | with_reducible refine w_cmp ?_ | with_reducible refine w_chn ?_ | with_reducible refine w_and ?_ | with_reducible refine w_or ?_ | with_reducible refine w_not ?_ | with_reducible refine w_ite ?_ | with_reducible refine w_fld ?_ | with_reducible refine w_ix ?_ | with_reducible refine w_sl ?_ | with_reducible refine w_no ?_ | with_reducible refine w_so ?_ | with_reducible refine w_nil ?_ | with_reducible refine w_cons ?_ | with_reducible refine w_tup ?_ | with_reducible refine w_lst ?_ | with_reducible refine w_cal ?_ | with_reducible refine w_mk ?_ | with_reducible refine w_mth ?_ | with_reducible refine w_bi ?_ | with_reducible refine w_bm ?_ | with_reducible refine w_lc ?_ | with_reducible refine w_iex ?_ | with_reducible refine w_rng1 ?_ | with_reducible refine w_rng2 ?_ | with_reducible refine w_enum ?_ | with_reducible refine w_T0 ?_ | with_reducible refine w_T1 ?_ | with_reducible refine w_add ?_ | with_reducible refine w_sub ?_ | ((with_reducible refine w_tru ?_ ?_); exact rfl)))
  refine ⟨sz (by simp), ?_⟩
  (repeat (first | ((with_reducible refine w_var ?_); refine ⟨_, rfl, ?_⟩) | with_reducible refine z_set ?_ | with_reducible refine z_setT ?_ | with_reducible refine z_par ?_ | with_reducible refine z_fld ?_ | with_reducible refine z_sub ?_ | with_reducible refine z_exp ?_ | with_reducible refine z_ret ?_ | with_reducible refine z_retN ?_ | with_reducible refine z_ite ?_ | with_reducible refine z_whl ?_ | with_reducible refine z_for ?_ | with_reducible refine z_pass ?_ | with_reducible refine z_brk ?_ | with_reducible refine z_cnt ?_ | with_reducible refine z_nil ?_ | with_reducible refine w_bin ?_ | with_reducible refine w_int ?_ | with_reducible refine w_str ?_ | with_reducible refine w_blc ?_ | with_reducible refine w_non ?_ | with_reducible refine w_bty ?_ | with_reducible refine w_neg ?_ | with_reducible refine w_cmp ?_ | with_reducible refine w_chn ?_ | with_reducible refine w_and ?_ | with_reducible refine w_or ?_ | with_reducible refine w_not ?_ | with_reducible refine w_ite ?_ | with_reducible refine w_fld ?_ | with_reducible refine w_ix ?_ | with_reducible refine w_sl ?_ | with_reducible refine w_no ?_ | with_reducible refine w_so ?_ | with_reducible refine w_nil ?_ | with_reducible refine w_cons ?_ | with_reducible refine w_tup ?_ | with_reducible refine w_lst ?_ | with_reducible refine w_cal ?_ | with_reducible refine w_mk ?_ | with_reducible refine w_mth ?_ | with_reducible refine w_bi ?_ | with_reducible refine w_bm ?_ | with_reducible refine w_lc ?_ | with_reducible refine w_iex ?_ | with_reducible refine w_rng1 ?_ | with_reducible refine w_rng2 ?_ | with_reducible refine w_enum ?_ | with_reducible refine w_T0 ?_ | with_reducible refine w_T1 ?_ | with_reducible refine w_add ?_ | with_reducible refine w_sub ?_ | ((with_reducible refine w_tru ?_ ?_); exact rfl)))
  refine oneI h8 (by simp) (by simp) (by simp) fun x8 S8 h9 f8 => ?_
  try simp only [List.set_cons_succ, List.set_cons_zero]
  (repeat (first | ((with_reducible refine w_var ?_); refine ⟨_, rfl, ?_⟩) | with_reducible refine z_set ?_ | with_reducible refine z_setT ?_ | with_reducible refine z_par ?_ | with_reducible refine z_fld ?_ | with_reducible refine z_sub ?_ | with_reducible refine z_exp ?_ | with_reducible refine z_ret ?_ | with_reducible refine z_retN ?_ | with_reducible refine z_ite ?_ | with_reducible refine z_whl ?_ | with_reducible refine z_for ?_ | with_reducible refine z_pass ?_ | with_reducible refine z_brk ?_ | with_reducible refine z_cnt ?_ | with_reducible refine z_nil ?_ | with_reducible refine w_bin ?_ | with_reducible refine w_int ?_ | with_reducible refine w_str ?_ | with_reducible refine w_blc ?_ | with_reducible refine w_non ?_ | with_reducible refine w_bty ?_ | with_reducible refine w_neg ?_ | with_reducible refine w_cmp ?_ | with_reducible refine w_chn ?_ | with_reducible refine w_and ?_ | with_reducible refine w_or ?_ | with_reducible refine w_not ?_ | with_reducible refine w_ite ?_ | with_reducible refine w_fld ?_ | with_reducible refine w_ix ?_ | with_reducible refine w_sl ?_ | with_reducible refine w_no ?_ | with_reducible refine w_so ?_ | with_reducible refine w_nil ?_ | with_reducible refine w_cons ?_ | with_reducible refine w_tup ?_ | with_reducible refine w_lst ?_ | with_reducible refine w_cal ?_ | with_reducible refine w_mk ?_ | with_reducible refine w_mth ?_ | with_reducible refine w_bi ?_ | with_reducible refine w_bm ?_ | with_reducible refine w_lc ?_ | with_reducible refine w_iex ?_ | with_reducible refine w_rng1 ?_ | with_reducible refine w_rng2 ?_ | with_reducible refine w_enum ?_ | with_reducible refine w_T0 ?_ | with_reducible refine w_T1 ?_ | with_reducible refine w_add ?_ | with_reducible refine w_sub ?_ | ((with_reducible refine w_tru ?_ ?_); exact rfl)))
  refine digit h9 (by omega) (by omega) fun y1 T1 hy1 hy1' g1 e1 => ?_
  (repeat (first | ((with_reducible refine w_var ?_); refine ⟨_, rfl, ?_⟩) | with_reducible refine z_set ?_ | with_reducible refine z_setT ?_ | with_reducible refine z_par ?_ | with_reducible refine z_fld ?_ | with_reducible refine z_sub ?_ | with_reducible refine z_exp ?_ | with_reducible refine z_ret ?_ | with_reducible refine z_retN ?_ | with_reducible refine z_ite ?_ | with_reducible refine z_whl ?_ | with_reducible refine z_for ?_ | with_reducible refine z_pass ?_ | with_reducible refine z_brk ?_ | with_reducible refine z_cnt ?_ | with_reducible refine z_nil ?_ | with_reducible refine w_bin ?_ | with_reducible refine w_int ?_ | with_reducible refine w_str ?_ | with_reducible refine w_blc ?_ | with_reducible refine w_non ?_ | with_reducible refine w_bty ?_ | with_reducible refine w_neg ?_ | with_reducible refine w_cmp ?_ | with_reducible refine w_chn ?_ | with_reducible refine w_and ?_ | with_reducible refine w_or ?_ | with_reducible refine w_not ?_ | with_reducible refine w_ite ?_ | with_reducible refine w_fld ?_ | with_reducible refine w_ix ?_ | with_reducible refine w_sl ?_ | with_reducible refine w_no ?_ | with_reducible refine w_so ?_ | with_reducible refine w_nil ?_ | with_reducible refine w_cons ?_ | with_reducible refine w_tup ?_ | with_reducible refine w_lst ?_ | with_reducible refine w_cal ?_ | with_reducible refine w_mk ?_ | with_reducible refine w_mth ?_ | with_reducible refine w_bi ?_ | with_reducible refine w_bm ?_ | with_reducible refine w_lc ?_ | with_reducible refine w_iex ?_ | with_reducible refine w_rng1 ?_ | with_reducible refine w_rng2 ?_ | with_reducible refine w_enum ?_ | with_reducible refine w_T0 ?_ | with_reducible refine w_T1 ?_ | with_reducible refine w_add ?_ | with_reducible refine w_sub ?_ | ((with_reducible refine w_tru ?_ ?_); exact rfl)))
  refine digit g1 (by omega) (by omega) fun y2 T2 hy2 hy2' g2 e2 => ?_
  (repeat (first | ((with_reducible refine w_var ?_); refine ⟨_, rfl, ?_⟩) | with_reducible refine z_set ?_ | with_reducible refine z_setT ?_ | with_reducible refine z_par ?_ | with_reducible refine z_fld ?_ | with_reducible refine z_sub ?_ | with_reducible refine z_exp ?_ | with_reducible refine z_ret ?_ | with_reducible refine z_retN ?_ | with_reducible refine z_ite ?_ | with_reducible refine z_whl ?_ | with_reducible refine z_for ?_ | with_reducible refine z_pass ?_ | with_reducible refine z_brk ?_ | with_reducible refine z_cnt ?_ | with_reducible refine z_nil ?_ | with_reducible refine w_bin ?_ | with_reducible refine w_int ?_ | with_reducible refine w_str ?_ | with_reducible refine w_blc ?_ | with_reducible refine w_non ?_ | with_reducible refine w_bty ?_ | with_reducible refine w_neg ?_ | with_reducible refine w_cmp ?_ | with_reducible refine w_chn ?_ | with_reducible refine w_and ?_ | with_reducible refine w_or ?_ | with_reducible refine w_not ?_ | with_reducible refine w_ite ?_ | with_reducible refine w_fld ?_ | with_reducible refine w_ix ?_ | with_reducible refine w_sl ?_ | with_reducible refine w_no ?_ | with_reducible refine w_so ?_ | with_reducible refine w_nil ?_ | with_reducible refine w_cons ?_ | with_reducible refine w_tup ?_ | with_reducible refine w_lst ?_ | with_reducible refine w_cal ?_ | with_reducible refine w_mk ?_ | with_reducible refine w_mth ?_ | with_reducible refine w_bi ?_ | with_reducible refine w_bm ?_ | with_reducible refine w_lc ?_ | with_reducible refine w_iex ?_ | with_reducible refine w_rng1 ?_ | with_reducible refine w_rng2 ?_ | with_reducible refine w_enum ?_ | with_reducible refine w_T0 ?_ | with_reducible refine w_T1 ?_ | with_reducible refine w_add ?_ | with_reducible refine w_sub ?_ | ((with_reducible refine w_tru ?_ ?_); exact rfl)))
  refine digit g2 (by omega) (by omega) fun y3 T3 hy3 hy3' g3 e3 => ?_
  (repeat (first | ((with_reducible refine w_var ?_); refine ⟨_, rfl, ?_⟩) | with_reducible refine z_set ?_ | with_reducible refine z_setT ?_ | with_reducible refine z_par ?_ | with_reducible refine z_fld ?_ | with_reducible refine z_sub ?_ | with_reducible refine z_exp ?_ | with_reducible refine z_ret ?_ | with_reducible refine z_retN ?_ | with_reducible refine z_ite ?_ | with_reducible refine z_whl ?_ | with_reducible refine z_for ?_ | with_reducible refine z_pass ?_ | with_reducible refine z_brk ?_ | with_reducible refine z_cnt ?_ | with_reducible refine z_nil ?_ | with_reducible refine w_bin ?_ | with_reducible refine w_int ?_ | with_reducible refine w_str ?_ | with_reducible refine w_blc ?_ | with_reducible refine w_non ?_ | with_reducible refine w_bty ?_ | with_reducible refine w_neg ?_ | with_reducible refine w_cmp ?_ | with_reducible refine w_chn ?_ | with_reducible refine w_and ?_ | with_reducible refine w_or ?_ | with_reducible refine w_not ?_ | with_reducible refine w_ite ?_ | with_reducible refine w_fld ?_ | with_reducible refine w_ix ?_ | with_reducible refine w_sl ?_ | with_reducible refine w_no ?_ | with_reducible refine w_so ?_ | with_reducible refine w_nil ?_ | with_reducible refine w_cons ?_ | with_reducible refine w_tup ?_ | with_reducible refine w_lst ?_ | with_reducible refine w_cal ?_ | with_reducible refine w_mk ?_ | with_reducible refine w_mth ?_ | with_reducible refine w_bi ?_ | with_reducible refine w_bm ?_ | with_reducible refine w_lc ?_ | with_reducible refine w_iex ?_ | with_reducible refine w_rng1 ?_ | with_reducible refine w_rng2 ?_ | with_reducible refine w_enum ?_ | with_reducible refine w_T0 ?_ | with_reducible refine w_T1 ?_ | with_reducible refine w_add ?_ | with_reducible refine w_sub ?_ | ((with_reducible refine w_tru ?_ ?_); exact rfl)))
  refine ⟨sz (by simp), ?_⟩
  (repeat (first | ((with_reducible refine w_var ?_); refine ⟨_, rfl, ?_⟩) | with_reducible refine z_set ?_ | with_reducible refine z_setT ?_ | with_reducible refine z_par ?_ | with_reducible refine z_fld ?_ | with_reducible refine z_sub ?_ | with_reducible refine z_exp ?_ | with_reducible refine z_ret ?_ | with_reducible refine z_retN ?_ | with_reducible refine z_ite ?_ | with_reducible refine z_whl ?_ | with_reducible refine z_for ?_ | with_reducible refine z_pass ?_ | with_reducible refine z_brk ?_ | with_reducible refine z_cnt ?_ | with_reducible refine z_nil ?_ | with_reducible refine w_bin ?_ | with_reducible refine w_int ?_ | with_reducible refine w_str ?_ | with_reducible refine w_blc ?_ | with_reducible refine w_non ?_ | with_reducible refine w_bty ?_ | with_reducible refine w_neg ?_ | with_reducible refine w_cmp ?_ | with_reducible refine w_chn ?_ | with_reducible refine w_and ?_ | with_reducible refine w_or ?_ | with_reducible refine w_not ?_ | with_reducible refine w_ite ?_ | with_reducible refine w_fld ?_ | with_reducible refine w_ix ?_ | with_reducible refine w_sl ?_ | with_reducible refine w_no ?_ | with_reducible refine w_so ?_ | with_reducible refine w_nil ?_ | with_reducible refine w_cons ?_ | with_reducible refine w_tup ?_ | with_reducible refine w_lst ?_ | with_reducible refine w_cal ?_ | with_reducible refine w_mk ?_ | with_reducible refine w_mth ?_ | with_reducible refine w_bi ?_ | with_reducible refine w_bm ?_ | with_reducible refine w_lc ?_ | with_reducible refine w_iex ?_ | with_reducible refine w_rng1 ?_ | with_reducible refine w_rng2 ?_ | with_reducible refine w_enum ?_ | with_reducible refine w_T0 ?_ | with_reducible refine w_T1 ?_ | with_reducible refine w_add ?_ | with_reducible refine w_sub ?_ | ((with_reducible refine w_tru ?_ ?_); exact rfl)))
  refine oneI' g3 (by simp) (by simp) (by simp) fun y4 T4 hy4 g4 e4 => ?_
  have hy4 : y4 ≤ m := by
    simp only [List.mem_cons, List.not_mem_nil, or_false, D.int.injEq] at hy4
    omega
  try simp only [List.set_cons_succ, List.set_cons_zero]
  (repeat (first | ((with_reducible refine w_var ?_); refine ⟨_, rfl, ?_⟩) | with_reducible refine z_set ?_ | with_reducible refine z_setT ?_ | with_reducible refine z_par ?_ | with_reducible refine z_fld ?_ | with_reducible refine z_sub ?_ | with_reducible refine z_exp ?_ | with_reducible refine z_ret ?_ | with_reducible refine z_retN ?_ | with_reducible refine z_ite ?_ | with_reducible refine z_whl ?_ | with_reducible refine z_for ?_ | with_reducible refine z_pass ?_ | with_reducible refine z_brk ?_ | with_reducible refine z_cnt ?_ | with_reducible refine z_nil ?_ | with_reducible refine w_bin ?_ | with_reducible refine w_int ?_ | with_reducible refine w_str ?_ | with_reducible refine w_blc ?_ | with_reducible refine w_non ?_ | with_reducible refine w_bty ?_ | with_reducible refine w_neg ?_ | with_reducible refine w_cmp ?_ | with_reducible refine w_chn ?_ | with_reducible refine w_and ?_ | with_reducible refine w_or ?_ | with_reducible refine w_not ?_ | with_reducible refine w_ite ?_ | with_reducible refine w_fld ?_ | with_reducible refine w_ix ?_ | with_reducible refine w_sl ?_ | with_reducible refine w_no ?_ | with_reducible refine w_so ?_ | with_reducible refine w_nil ?_ | with_reducible refine w_cons ?_ | with_reducible refine w_tup ?_ | with_reducible refine w_lst ?_ | with_reducible refine w_cal ?_ | with_reducible refine w_mk ?_ | with_reducible refine w_mth ?_ | with_reducible refine w_bi ?_ | with_reducible refine w_bm ?_ | with_reducible refine w_lc ?_ | with_reducible refine w_iex ?_ | with_reducible refine w_rng1 ?_ | with_reducible refine w_rng2 ?_ | with_reducible refine w_enum ?_ | with_reducible refine w_T0 ?_ | with_reducible refine w_T1 ?_ | with_reducible refine w_add ?_ | with_reducible refine w_sub ?_ | ((with_reducible refine w_tru ?_ ?_); exact rfl)))
  refine ⟨sz (by simp), ?_⟩
  (repeat (first | ((with_reducible refine w_var ?_); refine ⟨_, rfl, ?_⟩) | with_reducible refine z_set ?_ | with_reducible refine z_setT ?_ | with_reducible refine z_par ?_ | with_reducible refine z_fld ?_ | with_reducible refine z_sub ?_ | with_reducible refine z_exp ?_ | with_reducible refine z_ret ?_ | with_reducible refine z_retN ?_ | with_reducible refine z_ite ?_ | with_reducible refine z_whl ?_ | with_reducible refine z_for ?_ | with_reducible refine z_pass ?_ | with_reducible refine z_brk ?_ | with_reducible refine z_cnt ?_ | with_reducible refine z_nil ?_ | with_reducible refine w_bin ?_ | with_reducible refine w_int ?_ | with_reducible refine w_str ?_ | with_reducible refine w_blc ?_ | with_reducible refine w_non ?_ | with_reducible refine w_bty ?_ | with_reducible refine w_neg ?_ | with_reducible refine w_cmp ?_ | with_reducible refine w_chn ?_ | with_reducible refine w_and ?_ | with_reducible refine w_or ?_ | with_reducible refine w_not ?_ | with_reducible refine w_ite ?_ | with_reducible refine w_fld ?_ | with_reducible refine w_ix ?_ | with_reducible refine w_sl ?_ | with_reducible refine w_no ?_ | with_reducible refine w_so ?_ | with_reducible refine w_nil ?_ | with_reducible refine w_cons ?_ | with_reducible refine w_tup ?_ | with_reducible refine w_lst ?_ | with_reducible refine w_cal ?_ | with_reducible refine w_mk ?_ | with_reducible refine w_mth ?_ | with_reducible refine w_bi ?_ | with_reducible refine w_bm ?_ | with_reducible refine w_lc ?_ | with_reducible refine w_iex ?_ | with_reducible refine w_rng1 ?_ | with_reducible refine w_rng2 ?_ | with_reducible refine w_enum ?_ | with_reducible refine w_T0 ?_ | with_reducible refine w_T1 ?_ | with_reducible refine w_add ?_ | with_reducible refine w_sub ?_ | ((with_reducible refine w_tru ?_ ?_); exact rfl)))
  have gl := g4.lt
  refine one (g4.fr (B := []) DI.Fr.push (by simp)) get_push (by omega) (by simp) (by simp) fun x T5 hm g5 e5 => ?_
  have fr := (((((((f1.trans f2).trans f3).trans f4).trans f5).trans f6).trans f7).trans f8).trans ((e1.trans e2).trans (e3.trans (e4.trans (DI.Fr.push.trans e5))))
  (repeat (first | ((with_reducible refine w_var ?_); refine ⟨_, rfl, ?_⟩) | with_reducible refine z_set ?_ | with_reducible refine z_setT ?_ | with_reducible refine z_par ?_ | with_reducible refine z_fld ?_ | with_reducible refine z_sub ?_ | with_reducible refine z_exp ?_ | with_reducible refine z_ret ?_ | with_reducible refine z_retN ?_ | with_reducible refine z_ite ?_ | with_reducible refine z_whl ?_ | with_reducible refine z_for ?_ | with_reducible refine z_pass ?_ | with_reducible refine z_brk ?_ | with_reducible refine z_cnt ?_ | with_reducible refine z_nil ?_ | with_reducible refine w_bin ?_ | with_reducible refine w_int ?_ | with_reducible refine w_str ?_ | with_reducible refine w_blc ?_ | with_reducible refine w_non ?_ | with_reducible refine w_bty ?_ | with_reducible refine w_neg ?_ | with_reducible refine w_cmp ?_ | with_reducible refine w_chn ?_ | with_reducible refine w_and ?_ | with_reducible refine w_or ?_ | with_reducible refine w_not ?_ | with_reducible refine w_ite ?_ | with_reducible refine w_fld ?_ | with_reducible refine w_ix ?_ | with_reducible refine w_sl ?_ | with_reducible refine w_no ?_ | with_reducible refine w_so ?_ | with_reducible refine w_nil ?_ | with_reducible refine w_cons ?_ | with_reducible refine w_tup ?_ | with_reducible refine w_lst ?_ | with_reducible refine w_cal ?_ | with_reducible refine w_mk ?_ | with_reducible refine w_mth ?_ | with_reducible refine w_bi ?_ | with_reducible refine w_bm ?_ | with_reducible refine w_lc ?_ | with_reducible refine w_iex ?_ | with_reducible refine w_rng1 ?_ | with_reducible refine w_rng2 ?_ | with_reducible refine w_enum ?_ | with_reducible refine w_T0 ?_ | with_reducible refine w_T1 ?_ | with_reducible refine w_add ?_ | with_reducible refine w_sub ?_ | ((with_reducible refine w_tru ?_ ?_); exact rfl)))
  refine w_div (by omega) ?_
  (repeat (first | ((with_reducible refine w_var ?_); refine ⟨_, rfl, ?_⟩) | with_reducible refine z_set ?_ | with_reducible refine z_setT ?_ | with_reducible refine z_par ?_ | with_reducible refine z_fld ?_ | with_reducible refine z_sub ?_ | with_reducible refine z_exp ?_ | with_reducible refine z_ret ?_ | with_reducible refine z_retN ?_ | with_reducible refine z_ite ?_ | with_reducible refine z_whl ?_ | with_reducible refine z_for ?_ | with_reducible refine z_pass ?_ | with_reducible refine z_brk ?_ | with_reducible refine z_cnt ?_ | with_reducible refine z_nil ?_ | with_reducible refine w_bin ?_ | with_reducible refine w_int ?_ | with_reducible refine w_str ?_ | with_reducible refine w_blc ?_ | with_reducible refine w_non ?_ | with_reducible refine w_bty ?_ | with_reducible refine w_neg ?_ | with_reducible refine w_cmp ?_ | with_reducible refine w_chn ?_ | with_reducible refine w_and ?_ | with_reducible refine w_or ?_ | with_reducible refine w_not ?_ | with_reducible refine w_ite ?_ | with_reducible refine w_fld ?_ | with_reducible refine w_ix ?_ | with_reducible refine w_sl ?_ | with_reducible refine w_no ?_ | with_reducible refine w_so ?_ | with_reducible refine w_nil ?_ | with_reducible refine w_cons ?_ | with_reducible refine w_tup ?_ | with_reducible refine w_lst ?_ | with_reducible refine w_cal ?_ | with_reducible refine w_mk ?_ | with_reducible refine w_mth ?_ | with_reducible refine w_bi ?_ | with_reducible refine w_bm ?_ | with_reducible refine w_lc ?_ | with_reducible refine w_iex ?_ | with_reducible refine w_rng1 ?_ | with_reducible refine w_rng2 ?_ | with_reducible refine w_enum ?_ | with_reducible refine w_T0 ?_ | with_reducible refine w_T1 ?_ | with_reducible refine w_add ?_ | with_reducible refine w_sub ?_ | ((with_reducible refine w_tru ?_ ?_); exact rfl)))
  refine digit g5 (by omega) (by omega) fun y6 T6 hy6 hy6' g6 e6 => ?_
  (repeat (first | ((with_reducible refine w_var ?_); refine ⟨_, rfl, ?_⟩) | with_reducible refine z_set ?_ | with_reducible refine z_setT ?_ | with_reducible refine z_par ?_ | with_reducible refine z_fld ?_ | with_reducible refine z_sub ?_ | with_reducible refine z_exp ?_ | with_reducible refine z_ret ?_ | with_reducible refine z_retN ?_ | with_reducible refine z_ite ?_ | with_reducible refine z_whl ?_ | with_reducible refine z_for ?_ | with_reducible refine z_pass ?_ | with_reducible refine z_brk ?_ | with_reducible refine z_cnt ?_ | with_reducible refine z_nil ?_ | with_reducible refine w_bin ?_ | with_reducible refine w_int ?_ | with_reducible refine w_str ?_ | with_reducible refine w_blc ?_ | with_reducible refine w_non ?_ | with_reducible refine w_bty ?_ | with_reducible refine w_neg ?_ | with_reducible refine w_cmp ?_ | with_reducible refine w_chn ?_ | with_reducible refine w_and ?_ | with_reducible refine w_or ?_ | with_reducible refine w_not ?_ | with_reducible refine w_ite ?_ | with_reducible refine w_fld ?_ | with_reducible refine w_ix ?_ | with_reducible refine w_sl ?_ | with_reducible refine w_no ?_ | with_reducible refine w_so ?_ | with_reducible refine w_nil ?_ | with_reducible refine w_cons ?_ | with_reducible refine w_tup ?_ | with_reducible refine w_lst ?_ | with_reducible refine w_cal ?_ | with_reducible refine w_mk ?_ | with_reducible refine w_mth ?_ | with_reducible refine w_bi ?_ | with_reducible refine w_bm ?_ | with_reducible refine w_lc ?_ | with_reducible refine w_iex ?_ | with_reducible refine w_rng1 ?_ | with_reducible refine w_rng2 ?_ | with_reducible refine w_enum ?_ | with_reducible refine w_T0 ?_ | with_reducible refine w_T1 ?_ | with_reducible refine w_add ?_ | with_reducible refine w_sub ?_ | ((with_reducible refine w_tru ?_ ?_); exact rfl)))
  have hs : ∃ s, x = .str (sd s) := by
    simp only [List.mem_cons, List.not_mem_nil, or_false] at hm
    rcases hm with rfl | rfl
    · exact ⟨true, rfl⟩
    · exact ⟨false, rfl⟩
  obtain ⟨s, rfl⟩ := hs
  refine ⟨sz (by simp), ?_⟩
  exact hQ ⟨s, _, _, _, _, _⟩ T6 (by show -3 ≤ y6 - 3; omega) (by show y6 - 3 ≤ m; omega) hy4 g6 (fr.trans e6)

theorem foldl_max_c (a : Int) : ∀ (l : List Int) (b : Int), l.foldl max (max a b) = max (l.foldl max b) a
  | [], b => by simp only [List.foldl_nil]; omega
  | c :: l, b => by
    simp only [List.foldl_cons]
    rw [← foldl_max_c a l (max b c)]
    congr 1
    omega
theorem foldl_min_c (a : Int) : ∀ (l : List Int) (b : Int), l.foldl min (min a b) = min (l.foldl min b) a
  | [], b => by simp only [List.foldl_nil]; omega
  | c :: l, b => by
    simp only [List.foldl_cons]
    rw [← foldl_min_c a l (min b c)]
    congr 1
    omega
theorem maxL_snoc (a : Int) : ∀ l : List Int, maxL (l ++ [a]) = some (l.foldl max a)
  | [] => rfl
  | b :: l => by
    show some ((l ++ [a]).foldl max b) = some (l.foldl max (max a b))
    rw [List.foldl_append, foldl_max_c]
    rfl
theorem minL_snoc (a : Int) : ∀ l : List Int, minL (l ++ [a]) = some (l.foldl min a)
  | [] => rfl
  | b :: l => by
    show some ((l ++ [a]).foldl min b) = some (l.foldl min (min a b))
    rw [List.foldl_append, foldl_min_c]
    rfl
theorem near_iff (l : List Int) (b : Int) : (!(l.filter fun x => decide (x < b)).isEmpty) = (!l.isEmpty && decide ((minL l).getD 0 < b)) := by
  cases l with
  | nil => rfl
  | cons i r =>
    have h := foldl_min r i
    rw [Bool.eq_iff_iff, Bool.not_eq_true', List.isEmpty_eq_false_iff_exists_mem]
    simp only [List.isEmpty_cons, Bool.not_false, Bool.true_and, minL, Option.getD_some, List.mem_filter]
    constructor
    · rintro ⟨x, h1, h2⟩
      have h2 := of_decide_eq_true h2
      refine decide_eq_true ?_
      rcases List.mem_cons.mp h1 with rfl | h1
      · have := h.1; omega
      · have := h.2.1 x h1; omega
    · intro h1
      have h1 := of_decide_eq_true h1
      rcases h.2.2 with h2 | h2
      · exact ⟨i, by simp, decide_eq_true (by omega)⟩
      · exact ⟨_, List.mem_cons_of_mem _ h2, decide_eq_true h1⟩
theorem far_iff (l : List Int) (b : Int) : (!(l.filter fun x => decide (b < x)).isEmpty) = (!l.isEmpty && decide (b < (maxL l).getD 0)) := by
  cases l with
  | nil => rfl
  | cons i r =>
    have h := foldl_max_spec r i
    rw [Bool.eq_iff_iff, Bool.not_eq_true', List.isEmpty_eq_false_iff_exists_mem]
    simp only [List.isEmpty_cons, Bool.not_false, Bool.true_and, maxL, Option.getD_some, List.mem_filter]
    constructor
    · rintro ⟨x, h1, h2⟩
      have h2 := of_decide_eq_true h2
      refine decide_eq_true ?_
      rcases List.mem_cons.mp h1 with rfl | h1
      · have := h.2.1; omega
      · have := h.2.2 x h1; omega
    · intro h1
      have h1 := of_decide_eq_true h1
      rcases h.1 with h2 | h2
      · exact ⟨i, by simp, decide_eq_true (by omega)⟩
      · exact ⟨_, List.mem_cons_of_mem _ h2, decide_eq_true h1⟩
theorem pick_eq (s : Bool) (g : Rw → Int) (y : Int) : ∀ R : List Rw, (R.filter fun r => (r.s == s) && decide (y < r.b)).map (fun r => D.int (g r)) = (pick s g R y).map D.int
  | [] => rfl
  | q :: R => by
    have ih := pick_eq s g y R
    unfold pick at ih ⊢
    by_cases c : q.s = s ∧ y < q.b
    · rw [List.filter_cons_of_pos (by simp [c]), List.map_cons, ih]
      simp only [List.filterMap_cons, if_pos c, List.map_cons]
    · rw [List.filter_cons_of_neg (by simpa using c), ih]
      simp only [List.filterMap_cons, if_neg c]
theorem left_ge {R : List Rw} {st y : Int} : st ≤ leftsP R st y := (foldl_max_spec _ _).2.1
theorem right_le {R : List Rw} {en y : Int} : rightsP R en y ≤ en := (foldl_min _ _).1
theorem pick_len {R : List Rw} {s : Bool} {g : Rw → Int} {y : Int} : (pick s g R y).length ≤ R.length := List.length_filterMap_le _ _
theorem bi_max_snoc {S : Sto} {a : Nat} {st : Int} {l : List Int} (h : S[a]? = some (.lst (l.map D.int ++ [D.int st]))) : biSem .max1 [.loc a] S = some (.int (l.foldl max st), S) := by
  have e : intsD (l.map D.int ++ [D.int st]) = some (l ++ [st]) := by
    have := intsD_map (l ++ [st])
    rwa [List.map_append] at this
  simp only [biSem, listD, h, e, Option.bind, maxL_snoc, Option.map]
theorem bi_min_snoc {S : Sto} {a : Nat} {st : Int} {l : List Int} (h : S[a]? = some (.lst (l.map D.int ++ [D.int st]))) : biSem .min1 [.loc a] S = some (.int (l.foldl min st), S) := by
  have e : intsD (l.map D.int ++ [D.int st]) = some (l ++ [st]) := by
    have := intsD_map (l ++ [st])
    rwa [List.map_append] at this
  simp only [biSem, listD, h, e, Option.bind, minL_snoc, Option.map]
theorem lspot {d k : Nat} {S : Sto} {R : List Rw} {s : Bool} {st en w y : Int} (h : S[k]? = some (.lst (R.map Rw.d))) (hR : R.length ≤ 1000) {Q : D → Sto → Prop} (hQ : ∀ S', DI.Fr [] S S' → Q (optD (spotP R s st en w y)) S') : W (calls P0 fs (d + 1) 5 [.loc k, .str (sd s), .tup [.int st, .int en], .int w, .int y] S) Q := by
  refine W_call (f := d_law_spot) rfl rfl ?_
  show WS (dSs P0 _ t_law_spot [some (.loc k), some (.str (sd s)), some (.tup [.int st, .int en]), some (.int w), some (.int y), none, none, none, none, none, none, none] S) _
  unfold t_law_spot
  refine z_set (lc_pure Rw.d (fun r => (r.s == true) && decide (y < r.b)) (fun r => .int r.r) (xs := R) (w_iex (w_var ⟨_, rfl, _, walk_lst h, IsW.li h (by rw [List.length_map]; omega), fun q hq acc => ⟨_, rfl, dT1 (T_and (T_cmp (V_ix (V_var rfl) V_int rfl) V_str (cq_sd q.s true)) fun _ => T_cmp (V_ix (V_var rfl) V_int rfl) (V_var rfl) rfl), fun _ => V_ix (V_var rfl) V_int rfl⟩, ?_⟩)))
  rw [pick_eq true Rw.r y R]
  have e1 : (S ++ [Cell.lst ((pick true Rw.r R y).map D.int)])[S.length]? = some (.lst ((pick true Rw.r R y).map D.int)) := get_push
  have f1 := DI.Fr.push (B := []) (S := S) (c := Cell.lst ((pick true Rw.r R y).map D.int))
  generalize (S ++ [Cell.lst ((pick true Rw.r R y).map D.int)]) = S1 at e1 f1
  generalize S.length = kL at e1
  try simp only [List.set_cons_succ, List.set_cons_zero]
  refine z_set (lc_pure Rw.d (fun r => (r.s == false) && decide (y < r.b)) (fun r => .int r.x) (xs := R) (w_iex (w_var ⟨_, rfl, _, walk_lst (f1.get h (by simp)), IsW.li (f1.get h (by simp)) (by rw [List.length_map]; omega), fun q hq acc => ⟨_, rfl, dT1 (T_and (T_cmp (V_ix (V_var rfl) V_int rfl) V_str (cq_sd q.s false)) fun _ => T_cmp (V_ix (V_var rfl) V_int rfl) (V_var rfl) rfl), fun _ => V_ix (V_var rfl) V_int rfl⟩, ?_⟩)))
  rw [pick_eq false Rw.x y R]
  have e2 : (S1 ++ [Cell.lst ((pick false Rw.x R y).map D.int)])[S1.length]? = some (.lst ((pick false Rw.x R y).map D.int)) := get_push
  replace e1 := get_pushl (c := Cell.lst ((pick false Rw.x R y).map D.int)) e1
  replace f1 := f1.pushr (c := Cell.lst ((pick false Rw.x R y).map D.int))
  generalize (S1 ++ [Cell.lst ((pick false Rw.x R y).map D.int)]) = S2 at e1 e2 f1
  generalize S1.length = kR at e2
  try simp only [List.set_cons_succ, List.set_cons_zero]
  have hlL := pick_len (R := R) (s := true) (g := Rw.r) (y := y)
  have hlR := pick_len (R := R) (s := false) (g := Rw.x) (y := y)
  refine z_iteT (p := (s == true)) (T_cmp (V_var rfl) V_str (cq_sd s true)) (fun hs => ?_) (fun hs => ?_)
  · have hs : s = true := by simpa using hs
    subst hs
    unfold t_law_spot_3
    refine z_set (w_bi (w_cons (w_bin (w_var ⟨_, rfl, w_lst (w_cons (V_use (V_ix (V_var rfl) V_int rfl) (w_nil ⟨sz (by simp), ?_⟩)))⟩))))
    refine w_addL (xs := (pick true Rw.r R y).map D.int) (ys := [.int st]) (get_pushl e1) get_push (Nat.le_trans ?_ (by decide : 1001 ≤ sizeLine)) (w_nil ⟨_, _, bi_max_snoc get_push, ?_⟩)
    · simp only [List.length_map, List.length_singleton]; omega
    replace e2 := get_pushl (c := Cell.lst ((pick true Rw.r R y).map D.int ++ [D.int st])) (get_pushl (c := Cell.lst [D.int st]) e2)
    replace f1 := (f1.pushr (c := Cell.lst [D.int st])).pushr (c := Cell.lst ((pick true Rw.r R y).map D.int ++ [D.int st]))
    generalize (S2 ++ [Cell.lst [D.int st]]) ++ [Cell.lst ((pick true Rw.r R y).map D.int ++ [D.int st])] = S3 at e2 f1
    try simp only [List.set_cons_succ, List.set_cons_zero]
    show WS (dSs P0 _ _ [_, _, _, _, _, _, _, some (.int (leftsP R st y)), _, _, _, _] _) _
    have hge := left_ge (R := R) (st := st) (y := y)
    have hq : ∀ v, spotP R true st en w y = v → ∀ S', DI.Fr [] S3 S' → Q (optD v) S' := fun v ev S' f' => by rw [← ev]; exact hQ _ (f1.trans f')
    refine z_iteT (T_and (T_cmp (V_var rfl) (V_ix (V_var rfl) V_int rfl) rfl) fun _ => T_cmp (V_bin (V_var rfl) (V_var rfl) rfl) (V_ix (V_var rfl) V_int rfl) rfl) (fun ht => ?_) (fun ht => ?_)
    · unfold t_law_spot_1
      refine z_ret (w_non (hq none ?_ _ .refl))
      simp only [Bool.and_eq_true, decide_eq_true_eq] at ht
      unfold spotP
      rw [if_pos rfl, if_pos]
      have : (leftsP R st y == st) = false := by simp; omega
      rw [this, decide_eq_true ht.2]
      rfl
    · refine z_nil ?_
      dsimp only
      unfold t_law_spot_2
      refine z_set (lc_pure D.int (fun x => decide (x < leftsP R st y + w)) D.int (xs := pick false Rw.x R y) (w_iex (w_var ⟨_, rfl, _, walk_lst e2, IsW.li e2 (by rw [List.length_map]; omega), fun q hq acc => ⟨_, rfl, dT1 (T_cmp (V_var rfl) (V_bin (V_var rfl) (V_var rfl) rfl) rfl), fun _ => V_var rfl⟩, ?_⟩)))
      have hc : (!(leftsP R st y == st) && decide (en < leftsP R st y + w)) = false := by
        rw [← ht]
        congr 1
        by_cases c : leftsP R st y = st
        · rw [c]; simp
        · have : st < leftsP R st y := by omega
          simp [c, this]
      try simp only [List.set_cons_succ, List.set_cons_zero]
      refine z_ret (w_ite (w_cmp (w_var ⟨_, rfl, w_lst (w_nil ⟨sz (by simp), _, ne_nil (get_pushl get_push) get_push, _, rfl, fun hb => ?_, fun hb => ?_⟩)⟩)))
      · rw [near_iff] at hb
        refine w_non (hq none ?_ _ DI.Fr.push.pushr)
        unfold spotP
        rw [if_pos rfl, if_pos (by rw [hc, hb]; rfl)]
      · rw [near_iff] at hb
        refine w_var ⟨_, rfl, hq (some _) ?_ _ DI.Fr.push.pushr⟩
        unfold spotP
        rw [if_pos rfl, if_neg (by rw [hc, hb]; decide)]
  · have hs : s = false := by simpa using hs
    subst hs
    refine z_nil ?_
    dsimp only
    unfold t_law_spot_6
    refine z_set (w_bi (w_cons (w_bin (w_var ⟨_, rfl, w_lst (w_cons (V_use (V_ix (V_var rfl) V_int rfl) (w_nil ⟨sz (by simp), ?_⟩)))⟩))))
    refine w_addL (xs := (pick false Rw.x R y).map D.int) (ys := [.int en]) (get_pushl e2) get_push (Nat.le_trans ?_ (by decide : 1001 ≤ sizeLine)) (w_nil ⟨_, _, bi_min_snoc get_push, ?_⟩)
    · simp only [List.length_map, List.length_singleton]; omega
    replace e1 := get_pushl (c := Cell.lst ((pick false Rw.x R y).map D.int ++ [D.int en])) (get_pushl (c := Cell.lst [D.int en]) e1)
    replace f1 := (f1.pushr (c := Cell.lst [D.int en])).pushr (c := Cell.lst ((pick false Rw.x R y).map D.int ++ [D.int en]))
    generalize (S2 ++ [Cell.lst [D.int en]]) ++ [Cell.lst ((pick false Rw.x R y).map D.int ++ [D.int en])] = S3 at e1 f1
    try simp only [List.set_cons_succ, List.set_cons_zero]
    show WS (dSs P0 _ _ [_, _, _, _, _, _, _, some (.int (rightsP R en y)), _, _, _, _] _) _
    have hge := right_le (R := R) (en := en) (y := y)
    have hq : ∀ v, spotP R false st en w y = v → ∀ S', DI.Fr [] S3 S' → Q (optD v) S' := fun v ev S' f' => by rw [← ev]; exact hQ _ (f1.trans f')
    refine z_iteT (T_and (T_cmp (V_var rfl) (V_ix (V_var rfl) V_int rfl) rfl) fun _ => T_cmp (V_bin (V_var rfl) (V_var rfl) rfl) (V_ix (V_var rfl) V_int rfl) rfl) (fun ht => ?_) (fun ht => ?_)
    · unfold t_law_spot_4
      refine z_ret (w_non (hq none ?_ _ .refl))
      simp only [Bool.and_eq_true, decide_eq_true_eq] at ht
      unfold spotP
      rw [if_neg (by decide), if_pos]
      have : (rightsP R en y == en) = false := by simp; omega
      rw [this, decide_eq_true ht.2]
      rfl
    · refine z_nil ?_
      dsimp only
      unfold t_law_spot_5
      refine z_set (lc_pure D.int (fun x => decide (rightsP R en y - w < x)) D.int (xs := pick true Rw.r R y) (w_iex (w_var ⟨_, rfl, _, walk_lst e1, IsW.li e1 (by rw [List.length_map]; omega), fun q hq acc => ⟨_, rfl, dT1 (T_cmp (V_var rfl) (V_bin (V_var rfl) (V_var rfl) rfl) rfl), fun _ => V_var rfl⟩, ?_⟩)))
      have hc : (!(rightsP R en y == en) && decide (rightsP R en y - w < st)) = false := by
        rw [← ht]
        congr 1
        by_cases c : rightsP R en y = en
        · rw [c]; simp
        · have : rightsP R en y < en := by omega
          simp [c, this]
      try simp only [List.set_cons_succ, List.set_cons_zero]
      refine z_ret (w_ite (w_cmp (w_var ⟨_, rfl, w_lst (w_nil ⟨sz (by simp), _, ne_nil (get_pushl get_push) get_push, _, rfl, fun hb => ?_, fun hb => ?_⟩)⟩)))
      · rw [far_iff] at hb
        refine w_non (hq none ?_ _ DI.Fr.push.pushr)
        unfold spotP
        rw [if_neg (by decide), if_pos (by rw [hc, hb]; rfl)]
      · rw [far_iff] at hb
        refine V_use (V_bin (V_var rfl) (V_var rfl) rfl) (hq (some _) ?_ _ DI.Fr.push.pushr)
        unfold spotP
        rw [if_neg (by decide), if_neg (by rw [hc, hb]; decide)]

end K25

set_option Elab.async false
set_option linter.all false
set_option maxRecDepth 100000
set_option maxHeartbeats 4000000
namespace K25
open L2 DI PySem PySem.Spec PyProof.Rows
theorem minL_spec' {l : List Int} {i : Int} (h : minL l = some i) : i ∈ l ∧ ∀ x ∈ l, i ≤ x := by
  cases l with
  | nil => cases h
  | cons a r =>
    have h : r.foldl min a = i := Option.some.inj h
    have f := foldl_min r a
    rw [h] at f
    refine ⟨?_, fun x hx => ?_⟩
    · rcases f.2.2 with e | e
      · rw [e]; simp
      · exact List.mem_cons_of_mem _ e
    · rcases List.mem_cons.mp hx with rfl | hx
      · exact f.1
      · exact f.2.1 x hx
theorem below_spec {R : List Rw} {y y' : Int} (h : belowP R y = some y') : y < y' ∧ (∃ r ∈ R, y' = r.b) ∧ ∀ r ∈ R, y < r.b → y' ≤ r.b := by
  obtain ⟨h1, h2⟩ := minL_spec' h
  obtain ⟨r, hr, e⟩ := List.mem_filterMap.mp h1
  by_cases c : y < r.b
  · rw [if_pos c] at e
    have e : r.b = y' := Option.some.inj e
    refine ⟨by omega, ⟨r, hr, e.symm⟩, fun q hq hqy => h2 _ (List.mem_filterMap.mpr ⟨q, hq, by rw [if_pos hqy]⟩)⟩
  · rw [if_neg c] at e; cases e
theorem fm_congr {α β : Type} {f g : α → Option β} : ∀ {l : List α}, (∀ x ∈ l, f x = g x) → l.filterMap f = l.filterMap g
  | [], _ => rfl
  | x :: l, h => by
    rw [List.filterMap_cons, List.filterMap_cons, h x List.mem_cons_self, fm_congr fun y hy => h y (List.mem_cons_of_mem _ hy)]
theorem pick_const {R : List Rw} {s : Bool} {g : Rw → Int} {y y' y'' : Int} (h : belowP R y = some y') (h1 : y ≤ y'') (h2 : y'' < y') : pick s g R y'' = pick s g R y := by
  obtain ⟨_, _, h3⟩ := below_spec h
  unfold pick
  refine fm_congr fun r hr => ?_
  have := h3 r hr
  have e : (r.s = s ∧ y'' < r.b) = (r.s = s ∧ y < r.b) := by
    apply propext
    constructor
    · rintro ⟨a, b⟩; exact ⟨a, by omega⟩
    · rintro ⟨a, b⟩; have := this b; exact ⟨a, by omega⟩
  simp only [e]
theorem spot_const {R : List Rw} {s : Bool} {st en w y y' y'' : Int} (h : belowP R y = some y') (h1 : y ≤ y'') (h2 : y'' < y') : spotP R s st en w y'' = spotP R s st en w y := by
  unfold spotP leftsP rightsP
  rw [pick_const (s := true) (g := Rw.r) h h1 h2, pick_const (s := false) (g := Rw.x) h h1 h2]
theorem Go.first {R : List Rw} {s : Bool} {st en w y x z : Int} (g : Go R s st en w y x z) : y ≤ z ∧ spotP R s st en w z = some x ∧ (∀ y', y ≤ y' → y' < z → spotP R s st en w y' = none) ∧ (z = y ∨ ∃ r ∈ R, z = r.b) := by
  induction g with
  | stop h => exact ⟨Int.le_refl _, h, fun y' h1 h2 => by omega, .inl rfl⟩
  | @step y y' x z h hb g ih =>
    obtain ⟨h1, h2, h3, h4⟩ := ih
    obtain ⟨b1, b2, b3⟩ := below_spec hb
    refine ⟨by omega, h2, fun y'' k1 k2 => ?_, .inr ?_⟩
    · by_cases c : y'' < y'
      · rw [spot_const hb k1 c, h]
      · exact h3 y'' (by omega) k2
    · rcases h4 with rfl | h4
      · exact b2
      · exact h4
def Bd (R : List Rw) (B : Int) : Prop := ∀ r ∈ R, -1000 ≤ r.y ∧ r.y ≤ B ∧ r.b ≤ B
theorem top_le {R : List Rw} {B t : Int} (h : Bd R B) (ht : t ≤ B) : t ≤ top0 R t ∧ top0 R t ≤ B := by
  unfold top0
  have f := foldl_max_spec (R.map Rw.y) t
  refine ⟨f.2.1, ?_⟩
  rcases f.1 with e | e
  · rw [e]; exact ht
  · obtain ⟨r, hr, e2⟩ := List.mem_map.mp e
    have := (h r hr).2.1
    omega
theorem place_go (R : List Rw) (a : Ask) : ∃ x z, Go R a.s a.st a.en (max 0 a.w) (top0 R a.t) x z ∧ placeP R a = ⟨a.s, x, z, x + max 0 a.w, z + max 0 a.h⟩ := by
  obtain ⟨x, z, g⟩ := Go.ex R a.s a.st a.en (max 0 a.w) (cnt R (top0 R a.t)) (top0 R a.t) (Nat.le_refl _)
  exact ⟨x, z, g, placeP_of g⟩
theorem Bd.place {R : List Rw} {B Hh : Int} {a : Ask} (h : Bd R B) (t1 : -1000 ≤ a.t) (t2 : a.t ≤ B) (hh : a.h ≤ Hh) (h0 : 0 ≤ Hh) : Bd (R ++ [placeP R a]) (B + Hh) := by
  obtain ⟨x, z, g, e⟩ := place_go R a
  obtain ⟨k1, k2, k3, k4⟩ := g.first
  have tl := top_le h t2
  intro r hr
  rcases List.mem_append.mp hr with hr | hr
  · have := h r hr; omega
  · rw [List.mem_singleton] at hr
    subst hr
    rw [e]
    have hz : z ≤ B := by
      rcases k4 with e | ⟨q, hq, e⟩
      · omega
      · have := (h q hq).2.2; omega
    show -1000 ≤ z ∧ z ≤ B + Hh ∧ z + max 0 a.h ≤ B + Hh
    omega
theorem col_eq (g : Rw → Int) (R : List Rw) : (R.filter fun _ => true).map (fun r => D.int (g r)) = (R.map g).map D.int := by
  rw [List.filter_eq_self.mpr (fun _ _ => rfl), List.map_map]; rfl
theorem placed {d k : Nat} {S : Sto} {R : List Rw} {a : Ask} {B : Int} (hk : S[k]? = some (.lst (R.map Rw.d))) (hR : R.length ≤ 1000) (hB : Bd R B) (hB2 : B ≤ 100000) (t1 : -1000 ≤ a.t) (t2 : a.t ≤ B) {Q : D → Sto → Prop} (hQ : ∀ S', DI.Fr [] S S' → Q (placeP R a).d S') :
    W (calls P0 fs (d + 2) 6 [.loc k, .str (sd a.s), .tup [.int a.st, .int a.en], .tup [.int a.w, .int a.h], .int a.t] S) Q := by
  refine W_call (f := d_law_placed) rfl rfl ?_
  show WS (dSs P0 _ t_law_placed [some (.loc k), some (.str (sd a.s)), some (.tup [.int a.st, .int a.en]), some (.tup [.int a.w, .int a.h]), some (.int a.t), none, none, none, none, none, none] S) _
  obtain ⟨x, z, g, e⟩ := place_go R a
  rw [e] at hQ
  obtain ⟨k1, k2, k3, k4⟩ := g.first
  have tl := top_le hB t2
  obtain ⟨s, st, en, w, h, t⟩ := a
  dsimp only at *
  unfold t_law_placed
  refine z_set (w_bi (w_cons (w_bin (w_lst (w_cons (w_var ⟨_, rfl, w_nil ⟨sz (by simp), ?_⟩⟩))))))
  refine lc_pure Rw.d (fun _ => true) (fun r => D.int r.y) (xs := R) (w_iex (w_var ⟨_, rfl, _, walk_lst (get_pushl hk), IsW.li (get_pushl hk) (by rw [List.length_map]; omega), fun q _ acc => ⟨_, rfl, dT0, fun _ => V_ix (V_var rfl) V_int rfl⟩, ?_⟩))
  rw [col_eq]
  refine w_addL (get_pushl get_push) get_push (Nat.le_trans ?_ (by decide : 1001 ≤ sizeLine)) (w_nil ⟨_, _, bi_max1 get_push, ?_⟩)
  · simp only [List.length_map, List.length_singleton]; omega
  have f1 : DI.Fr [] S (S ++ [Cell.lst [D.int t]] ++ [Cell.lst ((R.map Rw.y).map D.int)] ++ [Cell.lst ([D.int t] ++ (R.map Rw.y).map D.int)]) := DI.Fr.push.pushr.pushr
  generalize (S ++ [Cell.lst [D.int t]] ++ [Cell.lst ((R.map Rw.y).map D.int)] ++ [Cell.lst ([D.int t] ++ (R.map Rw.y).map D.int)]) = S1 at f1
  show WS (dSs P0 _ _ [_, _, _, _, _, some (.int (top0 R t)), _, _, _, _, _] _) _
  refine z_par (V_use (V_bi2 V_int (V_ix (V_var rfl) V_int rfl) rfl) (V_use (V_bi2 V_int (V_ix (V_var rfl) V_int rfl) rfl) ?_))
  try simp only [List.set_cons_succ, List.set_cons_zero]
  have hk1 := f1.get hk (by simp)
  refine z_for (w_rng2 (w_var ⟨_, rfl, w_bin (w_bi (w_cons (w_bin (w_lst (w_cons (w_var ⟨_, rfl, w_nil ⟨sz (by simp), ?_⟩⟩))))))⟩))
  refine lc_pure Rw.d (fun _ => true) (fun r => D.int r.b) (xs := R) (w_iex (w_var ⟨_, rfl, _, walk_lst (get_pushl hk1), IsW.li (get_pushl hk1) (by rw [List.length_map]; omega), fun q _ acc => ⟨_, rfl, dT0, fun _ => V_ix (V_var rfl) V_int rfl⟩, ?_⟩))
  rw [col_eq]
  refine w_addL (get_pushl get_push) get_push (Nat.le_trans ?_ (by decide : 1001 ≤ sizeLine)) (w_nil ⟨_, _, bi_max1 get_push, w_int (w_add ?_)⟩)
  · simp only [List.length_map, List.length_singleton]; omega
  have f2 : DI.Fr [] S1 (S1 ++ [Cell.lst [D.int (top0 R t)]] ++ [Cell.lst ((R.map Rw.b).map D.int)] ++ [Cell.lst ([D.int (top0 R t)] ++ (R.map Rw.b).map D.int)]) := DI.Fr.push.pushr.pushr
  generalize (S1 ++ [Cell.lst [D.int (top0 R t)]] ++ [Cell.lst ((R.map Rw.b).map D.int)] ++ [Cell.lst ([D.int (top0 R t)] ++ (R.map Rw.b).map D.int)]) = S2 at f2
  have fm := foldl_max_spec (R.map Rw.b) (top0 R t)
  have hm : (R.map Rw.b).foldl max (top0 R t) ≤ B := by
    rcases fm.1 with e | e
    · rw [e]; omega
    · obtain ⟨r, hr, e2⟩ := List.mem_map.mp e
      have := (hB r hr).2.2
      omega
  have hzm : z ≤ (R.map Rw.b).foldl max (top0 R t) := by
    rcases k4 with e | ⟨q, hq, e⟩
    · have := fm.2.1; omega
    · have := fm.2.2 _ (List.mem_map.mpr ⟨q, hq, rfl⟩); omega
  generalize (R.map Rw.b).foldl max (top0 R t) = mb at fm hm hzm
  refine ⟨_, _, rfl, rfl, decide_eq_true (by omega), ?_⟩
  have f3 := f1.trans f2
  refine WS_for (n := (mb + 1 - top0 R t).toNat) (fun j σ' S' => top0 R t + j ≤ z ∧ DI.Fr [] S S' ∧ ∃ v8 v9, σ' = [some (.loc k), some (.str (sd s)), some (.tup [.int st, .int en]), some (.tup [.int w, .int h]), some (.int t), some (.int (top0 R t)), some (.int (max 0 w)), some (.int (max 0 h)), v8, v9, none]) ⟨by omega, f3, _, _, rfl⟩ ?_ ?_ ?_
  · rintro σ' S' _
    simp [wgo]
  · rintro j σ' S' hj ⟨hz, f, v8, v9, rfl⟩
    refine ⟨.int (top0 R t + j), _, by simp only [wgo]; rw [if_pos hj], rfl, ?_⟩
    try simp only [List.set_cons_succ, List.set_cons_zero]
    unfold t_law_placed_2
    refine z_set (w_cal (w_cons (w_var ⟨_, rfl, w_cons (w_var ⟨_, rfl, w_cons (w_var ⟨_, rfl, w_cons (w_var ⟨_, rfl, w_cons (w_var ⟨_, rfl, w_nil (lspot (f.get hk (by simp)) hR fun S3 f3 => ?_)⟩)⟩)⟩)⟩)⟩)))
    try simp only [List.set_cons_succ, List.set_cons_zero]
    by_cases c : top0 R t + j = z
    · rw [c, k2]
      refine z_iteT (p := true) (T_cmp (V_var rfl) V_non rfl) (fun _ => ?_) (fun h => by cases h)
      unfold t_law_placed_1
      refine z_ret (w_tup (w_cons (w_var ⟨_, rfl, w_cons (w_var ⟨_, rfl, w_cons (w_var ⟨_, rfl, w_cons (V_use (V_bin (V_var rfl) (V_var rfl) rfl) (w_cons (V_use (V_bin (V_var rfl) (V_var rfl) rfl) (w_nil ⟨sz (by simp), ?_⟩))))⟩)⟩)⟩)))
      exact hQ _ (f.trans f3)
    · rw [k3 _ (by omega) (by omega)]
      refine z_iteT (p := false) (T_cmp (V_var rfl) V_non rfl) (fun h => by cases h) (fun _ => z_nil ?_)
      dsimp only
      exact z_nil ⟨by omega, f.trans f3, _, _, rfl⟩
  · rintro σ' S' ⟨hz, f, _⟩
    exfalso
    omega
theorem cut13 (a : Ask) : cutL (askL a) (some 1) (some 3) = [.int a.st, .int a.en] := rfl
theorem cut35 (a : Ask) : cutL (askL a) (some 3) (some 5) = [.int a.w, .int a.h] := rfl

end K25

set_option Elab.async false
set_option linter.all false
set_option maxRecDepth 100000
set_option maxHeartbeats 4000000
namespace K25
open L2 DI PySem PySem.Spec PyProof.Rows
theorem cell_at {d : Nat} {S : Sto} {ns : List Int} {k : Nat} {Q : D → Sto → Prop} (hQ : ∀ z : Int, Q (.int z) S) : W (calls P0 fs (d + 1) 0 [.rl (ns.map D.int), .int k] S) Q := by
  refine W_call (f := d_law_cell_at) rfl rfl ?_
  show WS (dSs P0 _ t_law_cell_at [some (.rl (ns.map D.int)), some (.int k)] S) _
  unfold t_law_cell_at
  refine z_ret (w_iteT (T_cmp (V_var rfl) (V_bi1 (z := .int ns.length) (V_var rfl) (by simp [biSem])) rfl) (fun h => ?_) fun _ => w_int (hQ _))
  have h : (k : Int) < ns.length := of_decide_eq_true h
  have hk : k < ns.length := by omega
  refine V_use (V_ix (z := .int ns[k]) (V_var rfl) (V_var rfl) ?_) (hQ _)
  simp only [itemSem]
  exact DI.atI_nat (by simp [hk])

def wd : Option Bool → Str
  | none => "both"
  | some s => sd s
def hasW (o : Option Bool) (s : Bool) : Bool := match o with | none => true | some t => t == s
def lowL (R : List Rw) (o : Option Bool) : List Int := (R.filter fun r => hasW o r.s).map Rw.b
def lowP (R : List Rw) (o : Option Bool) : Option Int := maxL (lowL R o)
theorem in_wd (w : Option Bool) (s : Bool) {S : Sto} : inSem (.str (wd w)) (.tup [.str "both", .str (sd s)]) S = some (hasW w s) := by
  cases w with
  | none => cases s <;> rfl
  | some t => cases t <;> cases s <;> rfl
theorem low_D (R : List Rw) (w : Option Bool) : (R.filter fun r => hasW w r.s).map (fun r => D.int r.b) = (lowL R w).map D.int := by
  unfold lowL
  rw [List.map_map]; rfl
theorem lowest {d o l : Nat} {S : Sto} {R : List Rw} {w : Option Bool} (h : Sp S o l R) (hR : R.length ≤ 1000) {Q : D → Sto → Prop} (hQ : ∀ S', DI.Fr [] S S' → Q (optD (lowP R w)) S') : W (calls P0 fs (d + 1) 13 [.loc o, .str (wd w)] S) Q := by
  refine W_call (f := d_Strip_lowest) rfl rfl ?_
  show WS (dSs P0 _ t_Strip_lowest [some (.loc o), some (.str (wd w)), none, none] S) _
  unfold t_Strip_lowest
  have hin : inSem (.str (wd w)) (.tup [.str "left", .str "right", .str "both"]) S = some true := by
    cases w with
    | none => rfl
    | some t => cases t <;> rfl
  refine z_iteT (p := false) (T_cast (q := false) (T_or (p := false) (q := false) (T_cast (T_not (T_tru (p := true) rfl (V_bi2 (z := .bl true) (V_var rfl) V_bty rfl) rfl)) rfl) fun _ => T_cmp (y := .tup [.str "left", .str "right", .str "both"]) (V_var rfl) (w_tup (w_cons (w_str (w_cons (w_str (w_cons (w_str (w_nil ⟨sz (by decide), rfl, rfl⟩)))))))) (by simp only [cmpSem, hin]; rfl)) rfl) (fun h => by cases h) fun _ => ?_
  refine z_nil ?_
  dsimp only
  unfold t_Strip_lowest_2
  refine z_set (lc_pure Rw.d (fun r => hasW w r.s) (fun r => .int r.b) (xs := R) (w_iex (w_fld (w_var ⟨_, rfl, _, h.fld, _, walk_lst h.2, IsW.li h.2 (by rw [List.length_map]; omega), fun q hq acc => ⟨_, rfl, dT1 (T_cmp (y := .tup [.str "both", .str (sd q.s)]) (V_var rfl) (w_tup (w_cons (w_str (w_cons (V_use (V_ix (V_var rfl) V_int rfl) (w_nil ⟨sz (by simp), rfl, rfl⟩)))))) (in_wd w q.s (S := S ++ [Cell.lst acc]))), fun _ => V_ix (V_var rfl) V_int rfl⟩, ?_⟩))))
  rw [low_D]
  have e : (S ++ [Cell.lst ((lowL R w).map D.int)])[S.length]? = some (.lst ((lowL R w).map D.int)) := get_push
  try simp only [List.set_cons_succ, List.set_cons_zero]
  refine z_ret (w_iteT (T_tru rfl (V_var rfl) (tru_lst e)) (fun ht => ?_) (fun ht => ?_))
  · have hne : lowL R w ≠ [] := by intro q; rw [q] at ht; cases ht
    refine V_use (V_bi1 (V_var rfl) (bi_maxL e hne)) ?_
    have := hQ _ (DI.Fr.push (S := S) (c := Cell.lst ((lowL R w).map D.int)))
    unfold lowP at this
    rw [maxL_ne hne] at this
    exact this
  · have hne : lowL R w = [] := by cases hb : lowL R w with | nil => rfl | cons a b => rw [hb] at ht; cases ht
    refine w_non ?_
    have := hQ _ (DI.Fr.push (S := S) (c := Cell.lst ((lowL R w).map D.int)))
    unfold lowP at this
    rw [hne] at this ⊢
    exact this
theorem floats {d o l : Nat} {S : Sto} {R : List Rw} (hp : Sp S o l R) {Q : D → Sto → Prop} (hQ : Q (.loc S.length) (S ++ [Cell.lst (R.map Rw.d)])) : W (calls P0 fs (d + 1) 7 [.loc o] S) Q := by
  refine W_call (f := d_Strip_floats) rfl rfl ?_
  show WS (dSs P0 _ t_Strip_floats [some (.loc o)] S) _
  unfold t_Strip_floats
  refine z_ret (w_bi (w_cons (w_fld (w_var ⟨_, rfl, _, hp.fld, w_nil ⟨_, _, ?_, hQ⟩⟩))))
  simp only [biSem, seqD, hp.2, Option.map_some]
theorem rows_plain (T : List Rw) : (T.map Rw.d).all (plD 31) = true := by
  rw [List.all_eq_true]
  intro d hd
  obtain ⟨q, _, rfl⟩ := List.mem_map.mp hd
  obtain ⟨s, x, y, r, b⟩ := q
  have : PyData.canLay0 (.str (sd s)) = true := by cases s <;> decide +kernel
  simp [Rw.d, plD, this]
theorem pl_opt (o : Option Int) : plD 32 (optD o) = true := by cases o <;> rfl
theorem ne_rows {S : Sto} {a b : Nat} {R : List Rw} (h1 : S[a]? = some (.lst (R.map Rw.d))) (h2 : S[b]? = some (.lst (R.map Rw.d))) : cmpSem .NotEq (.loc a) (.loc b) S = some false := by
  obtain ⟨t, e, i⟩ := eq_lls h1 h2 (rows_plain R) (rows_plain R)
  rw [NE_of e, i.mpr rfl]; rfl
theorem eq_rows {S : Sto} {a b : Nat} {R : List Rw} (h1 : S[a]? = some (.lst (R.map Rw.d))) (h2 : S[b]? = some (.lst (R.map Rw.d))) : cmpSem .Eq (.loc a) (.loc b) S = some true := by
  obtain ⟨t, e, i⟩ := eq_lls h1 h2 (rows_plain R) (rows_plain R)
  show eqSem _ _ _ = _
  rw [e, i.mpr rfl]

theorem llowest {d k : Nat} {S : Sto} {R : List Rw} {w : Option Bool} (h : S[k]? = some (.lst (R.map Rw.d))) (hR : R.length ≤ 1000) {Q : D → Sto → Prop} (hQ : ∀ S', DI.Fr [] S S' → Q (optD (lowP R w)) S') : W (calls P0 fs (d + 1) 14 [.loc k, .str (wd w)] S) Q := by
  refine W_call (f := d_law_lowest) rfl rfl ?_
  show WS (dSs P0 _ t_law_lowest [some (.loc k), some (.str (wd w)), none, none] S) _
  unfold t_law_lowest
  refine z_set (lc_pure Rw.d (fun r => hasW w r.s) (fun r => .int r.b) (xs := R) (w_iex (w_var ⟨_, rfl, _, walk_lst h, IsW.li h (by rw [List.length_map]; omega), fun q hq acc => ⟨_, rfl, dT1 (T_cmp (y := .tup [.str "both", .str (sd q.s)]) (V_var rfl) (w_tup (w_cons (w_str (w_cons (V_use (V_ix (V_var rfl) V_int rfl) (w_nil ⟨sz (by simp), rfl, rfl⟩)))))) (in_wd w q.s (S := S ++ [Cell.lst acc]))), fun _ => V_ix (V_var rfl) V_int rfl⟩, ?_⟩)))
  rw [low_D]
  have e : (S ++ [Cell.lst ((lowL R w).map D.int)])[S.length]? = some (.lst ((lowL R w).map D.int)) := get_push
  have f := DI.Fr.push (B := []) (S := S) (c := Cell.lst ((lowL R w).map D.int))
  generalize S ++ [Cell.lst ((lowL R w).map D.int)] = S1 at e f
  try simp only [List.set_cons_succ, List.set_cons_zero]
  refine z_ret (w_ite (w_cmp (w_var ⟨_, rfl, w_lst (w_nil ⟨sz (by simp), _, ne_nil (get_pushl e) get_push, _, rfl, fun hb => ?_, fun hb => ?_⟩)⟩)))
  · have hne : lowL R w ≠ [] := by intro q; rw [q] at hb; cases hb
    refine V_use (V_bi1 (V_var rfl) (bi_maxL (get_pushl e) hne)) ?_
    have := hQ _ (f.pushr (c := Cell.lst []))
    unfold lowP at this
    rw [maxL_ne hne] at this
    exact this
  · have hne : lowL R w = [] := by cases hq : lowL R w with | nil => rfl | cons a b => rw [hq] at hb; cases hb
    refine w_non ?_
    have := hQ _ (f.pushr (c := Cell.lst []))
    unfold lowP at this
    rw [hne] at this
    exact this
abbrev sg (i o kl : Nat) (v3 v4 v5 v6 v7 : Option D) : Sl := [some (.loc i), some (.loc o), some (.loc kl), v3, v4, v5, v6, v7]
structure Al (S : Sto) (i o l kl : Nat) (R : List Rw) : Prop where
  st : St S i
  sp : Sp S o l R
  kn : S[kl]? = some (.lst (R.map Rw.d))
theorem Al.fr {S S' : Sto} {i o l kl : Nat} {R : List Rw} (h : Al S i o l kl R) (f : DI.Fr [] S S') : Al S' i o l kl R := ⟨h.st.fr f (by simp), h.sp.fr f (by simp) (by simp), f.get h.kn (by simp)⟩
theorem words {d i o l kl : Nat} {S : Sto} {R : List Rw} {v3 v4 v5 v6 v7 : Option D} (h : Al S i o l kl R) (hR : R.length ≤ 1000) {Q : Po} (hQ : ∀ v7 S', Al S' i o l kl R → Q.nx (sg i o kl v3 v4 v5 v6 v7) S') : WS (dSs P0 (calls P0 fs (d + 4)) t_law_right_7 (sg i o kl v3 v4 v5 v6 v7) S) Q := by
  unfold t_law_right_7
  refine z_for (w_iex (w_tup (w_cons (w_str (w_cons (w_str (w_cons (w_str (w_nil ⟨sz (by simp), _, rfl, ?_⟩)))))))))
  refine WS_for (n := 3) (fun k σ' S' => (∃ v7, σ' = sg i o kl v3 v4 v5 v6 v7) ∧ Al S' i o l kl R) ⟨⟨_, rfl⟩, h⟩ ?_ ?_ ?_
  · rintro σ' S' _
    rfl
  · rintro k σ' S' hk ⟨⟨v7, rfl⟩, g⟩
    have hw : ∃ w : Option Bool, [D.str "left", .str "right", .str "both"][k]? = some (.str (wd w)) := by
      match k, hk with
      | 0, _ => exact ⟨some true, rfl⟩
      | 1, _ => exact ⟨some false, rfl⟩
      | 2, _ => exact ⟨none, rfl⟩
    obtain ⟨w, hw⟩ := hw
    refine ⟨.str (wd w), _, by simp only [wgo]; exact congrArg some hw, rfl, ?_⟩
    try simp only [List.set_cons_succ, List.set_cons_zero]
    unfold t_law_right_6
    refine z_ite (w_or (w_cmp (w_mth (w_var ⟨_, rfl, _, _, rfl, g.sp.1, rfl, w_cons (w_var ⟨_, rfl, w_nil (lowest (d := d + 3) g.sp hR fun S1 f1 => ?_)⟩)⟩))))
    have g1 := g.fr f1
    refine w_cal (w_cons (w_var ⟨_, rfl, w_cons (w_var ⟨_, rfl, w_nil (llowest (d := d + 3) g1.kn hR fun S2 f2 => ⟨_, ne_self (pl_opt _), _, rfl, fun h => (by cases h), fun _ => ?_⟩)⟩)⟩))
    have g2 := g1.fr f2
    refine w_cmp (w_mthK (w_var ⟨_, rfl, _, _, rfl, g2.sp.1, rfl, w_nil (w_cons (w_var ⟨_, rfl, w_nil ⟨⟨rfl, rfl⟩, lowest (d := d + 3) g2.sp hR fun S3 f3 => ?_⟩⟩))⟩))
    have g3 := g2.fr f3
    refine w_mth (w_var ⟨_, rfl, _, _, rfl, g3.sp.1, rfl, w_cons (w_var ⟨_, rfl, w_nil (lowest (d := d + 3) g3.sp hR fun S4 f4 => ⟨_, ne_self (pl_opt _), _, rfl, fun h => (by cases h), fun _ => ?_⟩)⟩)⟩)
    refine z_nil ?_
    dsimp only
    exact z_nil ⟨⟨_, rfl⟩, g3.fr f4⟩
  · rintro σ' S' ⟨⟨v7, rfl⟩, g⟩
    dsimp only
    exact z_nil (hQ _ _ g)
theorem turn {d i o l kl : Nat} {S : Sto} {R : List Rw} {v3 v4 v5 v6 v7 : Option D} {B : Int} (h : Al S i o l kl R) (hR : R.length ≤ 100) (hi : o ≠ i ∧ l ≠ i ∧ kl ≠ i ∧ kl ≠ l ∧ kl ≠ o) (hB : Bd R B) (hB0 : 40 ≤ B) (hB1 : B ≤ 10000) {Q : Po}
    (hQ : ∀ (v4 v5 v6 v7 : Option D) (S' : Sto) (q : Rw), Bd (R ++ [q]) (B + 40) → Al S' i o l kl (R ++ [q]) → Q.nx (sg i o kl v3 v4 v5 v6 v7) S') : WS (dSs P0 (calls P0 fs (d + 4)) t_law_right_9 (sg i o kl v3 v4 v5 v6 v7) S) Q := by
  obtain ⟨i1, i2, i3, i4, i5⟩ := hi
  unfold t_law_right_9
  refine z_set (w_cal (w_cons (w_var ⟨_, rfl, w_cons (w_int (w_nil (askedB (d := d + 1) h.st (by omega) (by omega) fun a S1 t1 t2 hh g1 f1 => ?_)))⟩)))
  have p1 := h.sp.fr f1 (by simpa using i1) (by simpa using i2)
  have k1 := f1.get h.kn (by simpa using i3)
  try simp only [List.set_cons_succ, List.set_cons_zero]
  refine z_set (w_cal (w_cons (w_var ⟨_, rfl, w_cons (V_use (V_ix (V_var rfl) V_int rfl) (w_cons ?_))⟩)))
  refine w_sl (w_var ⟨_, rfl, w_so (w_int ⟨_, rfl, w_so (w_int ⟨_, rfl, _, _, rfl, w_cons ?_⟩)⟩)⟩)
  refine w_sl (w_var ⟨_, rfl, w_so (w_int ⟨_, rfl, w_so (w_int ⟨_, rfl, _, _, rfl, w_cons ?_⟩)⟩)⟩)
  refine V_use (V_ix (V_var rfl) V_int rfl) (w_nil ?_)
  refine placed (d := d + 2) (a := a) k1 (by omega) hB (by omega) (by omega) (by omega) fun S2 f2 => ?_
  have g2 := g1.fr f2 (by simp)
  have p2 := p1.fr f2 (by simp) (by simp)
  have k2 := f2.get k1 (by simp)
  try simp only [List.set_cons_succ, List.set_cons_zero]
  have rest : ∀ S3, St S3 i → Sp S3 o l (R ++ [placeP R a]) → S3[kl]? = some (.lst (R.map Rw.d)) → WS (dSs P0 (calls P0 fs (d + 4)) t_law_right_8 (sg i o kl v3 (some (.tup (askL a))) (some (placeP R a).d) (some (placeP R a).d) v7) S3) Q := by
    intro S3 g3 p3 k3
    unfold t_law_right_8
    have hbm : bmSem .append (.loc kl) [(placeP R a).d] S3 = some (.non, S3.set kl (.lst ((R ++ [placeP R a]).map Rw.d))) := by
      simp only [bmSem, k3]
      rw [if_pos, List.map_append]
      · rfl
      · rw [List.length_map]; exact Nat.lt_of_le_of_lt hR (by decide)
    refine z_exp (w_bm (w_var ⟨_, rfl, _, _, rfl, k3, w_cons (w_var ⟨_, rfl, w_nil ⟨_, _, hbm, ?_⟩⟩)⟩))
    have A4 : Al (S3.set kl (.lst ((R ++ [placeP R a]).map Rw.d))) i o l kl (R ++ [placeP R a]) := ⟨g3.fr (B := [kl]) (DI.Fr.set (.inl (by simp))) (by simpa using Ne.symm i3), p3.fr (B := [kl]) (DI.Fr.set (.inl (by simp))) (by simpa using Ne.symm i5) (by simpa using Ne.symm i4), get_set (lt_of k3)⟩
    generalize S3.set kl (.lst ((R ++ [placeP R a]).map Rw.d)) = S4 at A4
    refine z_ite (w_or (w_cmp (w_var ⟨_, rfl, w_var ⟨_, rfl, _, ne_self (Rw.pl _), _, rfl, fun h => (by cases h), fun _ => ?_⟩⟩)))
    refine w_cmp (w_mth (w_var ⟨_, rfl, _, _, rfl, A4.sp.1, rfl, w_nil (floats (d := d + 3) A4.sp (w_var ⟨_, rfl, _, ne_rows get_push (get_pushl A4.kn), _, rfl, fun h => (by cases h), fun _ => z_nil ?_⟩))⟩))
    dsimp only
    refine words (d := d) (A4.fr DI.Fr.push) (by rw [List.length_append]; simp; omega) fun v7 S5 A5 => ?_
    exact hQ _ _ _ _ _ _ (hB.place (by omega) (by omega) hh (by omega)) A5
  (repeat (first | ((with_reducible refine w_var ?_); refine ⟨_, rfl, ?_⟩) | with_reducible refine z_set ?_ | with_reducible refine z_setT ?_ | with_reducible refine z_par ?_ | with_reducible refine z_fld ?_ | with_reducible refine z_sub ?_ | with_reducible refine z_exp ?_ | with_reducible refine z_ret ?_ | with_reducible refine z_retN ?_ | with_reducible refine z_ite ?_ | with_reducible refine z_whl ?_ | with_reducible refine z_for ?_ | with_reducible refine z_pass ?_ | with_reducible refine z_brk ?_ | with_reducible refine z_cnt ?_ | with_reducible refine z_nil ?_ | with_reducible refine w_bin ?_ | with_reducible refine w_int ?_ | with_reducible refine w_str ?_ | with_reducible refine w_blc ?_ | with_reducible refine w_non ?_ | with_reducible refine w_bty ?_ | with_reducible refine w_neg ?_ | with_reducible refine w_cmp ?_ | with_reducible refine w_chn ?_ | with_reducible refine w_and ?_ | with_reducible refine w_or ?_ | with_reducible refine w_not ?_ | with_reducible refine w_ite ?_ | with_reducible refine w_fld ?_ | with_reducible refine w_ix ?_ | with_reducible refine w_sl ?_ | with_reducible refine w_no ?_ | with_reducible refine w_so ?_ | with_reducible refine w_nil ?_ | with_reducible refine w_cons ?_ | with_reducible refine w_tup ?_ | with_reducible refine w_lst ?_ | with_reducible refine w_cal ?_ | with_reducible refine w_mk ?_ | with_reducible refine w_mth ?_ | with_reducible refine w_bi ?_ | with_reducible refine w_bm ?_ | with_reducible refine w_lc ?_ | with_reducible refine w_iex ?_ | with_reducible refine w_rng1 ?_ | with_reducible refine w_rng2 ?_ | with_reducible refine w_enum ?_ | with_reducible refine w_T0 ?_ | with_reducible refine w_T1 ?_ | with_reducible refine w_add ?_ | with_reducible refine w_sub ?_ | ((with_reducible refine w_tru ?_ ?_); exact rfl)))
  refine digit (d := d + 3) g2 (by omega) (by omega) fun x S3 hx hx2 g3 f3 => ?_
  have p3 := p2.fr f3 (by simpa using i1) (by simpa using i2)
  have k3 := f3.get k2 (by simpa using i3)
  (repeat (first | ((with_reducible refine w_var ?_); refine ⟨_, rfl, ?_⟩) | with_reducible refine z_set ?_ | with_reducible refine z_setT ?_ | with_reducible refine z_par ?_ | with_reducible refine z_fld ?_ | with_reducible refine z_sub ?_ | with_reducible refine z_exp ?_ | with_reducible refine z_ret ?_ | with_reducible refine z_retN ?_ | with_reducible refine z_ite ?_ | with_reducible refine z_whl ?_ | with_reducible refine z_for ?_ | with_reducible refine z_pass ?_ | with_reducible refine z_brk ?_ | with_reducible refine z_cnt ?_ | with_reducible refine z_nil ?_ | with_reducible refine w_bin ?_ | with_reducible refine w_int ?_ | with_reducible refine w_str ?_ | with_reducible refine w_blc ?_ | with_reducible refine w_non ?_ | with_reducible refine w_bty ?_ | with_reducible refine w_neg ?_ | with_reducible refine w_cmp ?_ | with_reducible refine w_chn ?_ | with_reducible refine w_and ?_ | with_reducible refine w_or ?_ | with_reducible refine w_not ?_ | with_reducible refine w_ite ?_ | with_reducible refine w_fld ?_ | with_reducible refine w_ix ?_ | with_reducible refine w_sl ?_ | with_reducible refine w_no ?_ | with_reducible refine w_so ?_ | with_reducible refine w_nil ?_ | with_reducible refine w_cons ?_ | with_reducible refine w_tup ?_ | with_reducible refine w_lst ?_ | with_reducible refine w_cal ?_ | with_reducible refine w_mk ?_ | with_reducible refine w_mth ?_ | with_reducible refine w_bi ?_ | with_reducible refine w_bm ?_ | with_reducible refine w_lc ?_ | with_reducible refine w_iex ?_ | with_reducible refine w_rng1 ?_ | with_reducible refine w_rng2 ?_ | with_reducible refine w_enum ?_ | with_reducible refine w_T0 ?_ | with_reducible refine w_T1 ?_ | with_reducible refine w_add ?_ | with_reducible refine w_sub ?_ | ((with_reducible refine w_tru ?_ ?_); exact rfl)))
  refine ⟨_, by simp only [cmpSem]; exact eqD_int, _, rfl, fun _ => ?_, fun _ => ?_⟩
  · unfold t_law_right_2
    refine z_set (place6 (d := d + 1) (a := a) (more := []) p3 (by omega) rfl rfl fun S4 f4 p4 => ?_)
    refine z_nil ?_
    dsimp only
    exact rest S4 (g3.fr f4 (by simpa using Ne.symm i2)) p4 (f4.get k3 (by simpa using i4))
  · unfold t_law_right_3
    refine z_set (w_mthK (w_var ⟨_, rfl, _, _, rfl, p3.1, rfl, w_nil ?_⟩))
    refine w_cons (V_use (V_ix (V_var rfl) V_int rfl) (w_cons (V_use (V_ix (V_var rfl) V_int rfl) (w_cons (V_use (V_ix (V_var rfl) V_int rfl) (w_cons (V_use (V_ix (V_var rfl) V_int rfl) (w_cons (V_use (V_ix (V_var rfl) V_int rfl) (w_cons (V_use (V_ix (V_var rfl) V_int rfl) (w_nil ⟨⟨rfl, rfl⟩, ?_⟩))))))))))))
    refine place (d := d + 1) (a := a) p3 (by omega) fun S4 f4 p4 => ?_
    refine z_nil ?_
    dsimp only
    exact rest S4 (g3.fr f4 (by simpa using Ne.symm i2)) p4 (f4.get k3 (by simpa using i4))
theorem lows {d o l : Nat} {S : Sto} {C : Nat → List D → Sto → Out D} (hC : C = calls P0 fs (d + 1)) {σ : Sl} (ho : σ[1]? = some (some (.loc o))) (hv : σ.length = 8) (h : Sp S o l []) {Q : D → Sto → Prop} (hQ : ∀ a S', DI.Fr [] S S' → S'[a]? = some (.lst [.non, .non, .non]) → Q (.loc a) S') :
    W (de P0 C (.lc [(("word" : Str), 7)] (.nm 7) (.ex (.tup (.cons (.cst (.str ("left" : Str))) (.cons (.cst (.str ("right" : Str))) (.cons (.cst (.str ("both" : Str))) .nil))))) .nil (.mth 0 13 (.var 1) ("lowest" : Str) (.cons (.var 7) .nil))) false σ S) Q := by
  subst hC
  refine lc_eff (fun w : Option Bool => D.str (wd w)) (fun k acc S' => DI.Fr [] S S' ∧ acc = List.replicate k .non) (xs := [some true, some false, none]) (w_iex (w_tup (w_cons (w_str (w_cons (w_str (w_cons (w_str (w_nil ⟨sz (by simp), _, rfl, ?_⟩)))))))))
  refine ⟨fun i acc S' _ _ => rfl, rfl, by simp, ⟨DI.Fr.push, rfl⟩, ?_, ?_⟩
  · rintro i hi acc S' h1 ⟨f, ha⟩ h3
    refine ⟨_, rfl, w_mth (w_var ⟨.loc o, ?_, _, _, rfl, (h.fr f (by simp) (by simp)).1, rfl, w_cons (w_var ⟨_, ?_, w_nil (lowest (w := [some true, some false, none][i]) (h.fr f (by simp) (by simp)) (by simp) fun S2 f2 => ?_)⟩)⟩)⟩
    · rw [List.getElem?_set_ne (by decide)]
      show (wipeD σ [7])[1]? = _
      rw [show wipeD σ [7] = σ.set 7 none from rfl, List.getElem?_set_ne (by decide)]
      exact ho
    · rw [List.getElem?_set_self]
      simp [wipeD, hv]
    · refine ⟨f2.get h3 (by simp), (f.trans f2).setr (.inr (Nat.le_refl _)), ?_⟩
      rw [ha, List.replicate_succ']
      rfl
  · rintro acc S' h1 ⟨f, ha⟩ h3
    subst ha
    exact hQ _ _ f h3
theorem right {d i : Nat} {S : Sto} (hs : St S i) {Q : D → Sto → Prop} (hQ : ∀ S', St S' i → Q (.bl true) S') : W (calls P0 fs (d + 5) 15 [.loc i] S) Q := by
  refine W_call (f := d_law_right) rfl rfl ?_
  show WS (dSs P0 _ t_law_right [some (.loc i), none, none, none, none, none, none, none] S) _
  unfold t_law_right
  have hil := hs.lt
  refine z_setT (w_tup (w_cons (w_mk (w_nil (init get_push fun S1 h1 f1 => ⟨rfl, w_cons (w_lst (w_nil ⟨sz (by simp), w_nil ⟨sz (by simp), _, rfl, ?_⟩⟩))⟩)))))
  try simp only [List.set_cons_succ, List.set_cons_zero]
  have hs1 : St S1 i := (hs.fr (B := []) DI.Fr.push (by simp)).fr f1 (by simp; omega)
  have hll := lt_of h1.2
  have hi : S.length ≠ i ∧ (S ++ [Cell.ins 0 []]).length ≠ i ∧ S1.length ≠ i ∧ S1.length ≠ (S ++ [Cell.ins 0 []]).length ∧ S1.length ≠ S.length := by
    have hol := lt_of h1.1
    have := hs1.lt
    simp only [List.length_append, List.length_singleton] at hll ⊢
    omega
  have A : Al (S1 ++ [Cell.lst []]) i S.length (S ++ [Cell.ins 0 []]).length S1.length [] := ⟨hs1.fr (B := []) DI.Fr.push (by simp), h1.push, get_push⟩
  generalize S.length = o at A hi
  generalize (S ++ [Cell.ins 0 []]).length = l at A hi
  generalize S1 ++ [Cell.lst []] = S2 at A
  generalize S1.length = kl at A hi
  refine z_ite (w_or (w_cmp (w_mth (w_var ⟨_, rfl, _, _, rfl, A.sp.1, rfl, w_nil (floats (d := d + 3) A.sp (w_lst (w_nil ⟨sz (by simp), _, ne_rows (R := []) (get_pushl get_push) get_push, _, rfl, fun h => (by cases h), fun _ => ?_⟩)))⟩))))
  have A3 : Al (S2 ++ [Cell.lst (List.map Rw.d [])] ++ [Cell.lst []]) i o l kl [] := A.fr DI.Fr.push.pushr
  generalize S2 ++ [Cell.lst (List.map Rw.d [])] ++ [Cell.lst []] = S3 at A3
  refine w_cmp (lows (d := d + 3) rfl rfl rfl A3.sp fun a S4 f4 ha => w_bin (w_lst (w_cons (w_non (w_nil ⟨sz (by simp), w_int (w_mulL get_push (by decide) ?_)⟩)))))
  have hne : cmpSem .NotEq (.loc a) (.loc (S4 ++ [Cell.lst [D.non]]).length) (S4 ++ [Cell.lst [D.non]] ++ [Cell.lst (List.replicate (Int.toNat 3) [D.non]).flatten]) = some false := by
    obtain ⟨t, e, i⟩ := eq_lls (a := a) (b := (S4 ++ [Cell.lst [D.non]]).length) (get_pushl (c := Cell.lst (List.replicate (Int.toNat 3) [D.non]).flatten) (get_pushl (c := Cell.lst [D.non]) ha)) get_push rfl rfl
    rw [NE_of e, i.mpr rfl]; rfl
  refine ⟨_, hne, _, rfl, fun h => (by cases h), fun _ => z_nil ?_⟩
  have A5 := A3.fr (f4.pushr (c := Cell.lst [D.non])).pushr (S' := S4 ++ [Cell.lst [D.non]] ++ [Cell.lst (List.replicate (Int.toNat 3) [D.non]).flatten])
  dsimp only
  unfold t_law_right_11
  refine z_for (w_rng1 (w_bin (w_int (w_cal (w_cons (w_var ⟨_, rfl, w_cons (w_int (w_nil (digit (d := d + 3) A5.st (by omega) (by omega) fun x S6 hx hx2 g6 f6 => w_add ⟨_, rfl, decide_eq_true (by omega), ?_⟩)))⟩))))))
  have A6 : Al S6 i o l kl [] := ⟨g6, A5.sp.fr f6 (by simpa using hi.1) (by simpa using hi.2.1), f6.get A5.kn (by simpa using hi.2.2.1)⟩
  refine WS_for (n := (1 + x).toNat) (fun k σ' S' => k ≤ (1 + x).toNat ∧ ∃ v3 v4 v5 v6 v7 R, σ' = sg i o kl v3 v4 v5 v6 v7 ∧ Al S' i o l kl R ∧ R.length = k ∧ Bd R (40 + 40 * k)) ⟨by omega, _, _, _, _, _, [], rfl, A6, rfl, fun r hr => by cases hr⟩ ?_ ?_ ?_
  · rintro σ' S' _
    simp [wgo]
  · rintro k σ' S' hk ⟨_, v3, v4, v5, v6, v7, R, rfl, A7, hR, hB⟩
    refine ⟨.int (0 + k), _, by simp only [wgo]; rw [if_pos hk], rfl, ?_⟩
    try simp only [List.set_cons_succ, List.set_cons_zero]
    refine turn (d := d) A7 (by omega) hi hB (by omega) (by omega) fun v4 v5 v6 v7 S8 q hB8 A8 => ?_
    have e40 : 40 + 40 * (k : Int) + 40 = 40 + 40 * ((k + 1 : Nat) : Int) := by omega
    rw [e40] at hB8
    exact ⟨by omega, _, _, _, _, _, _, rfl, A8, by simp [hR], hB8⟩
  · rintro σ' S' ⟨_, v3, v4, v5, v6, v7, R, rfl, A7, hR, hB⟩
    dsimp only
    unfold t_law_right_10
    refine z_exp (w_bm (w_mth (w_var ⟨_, rfl, _, _, rfl, A7.sp.1, rfl, w_nil (floats (d := d + 3) A7.sp ⟨_, _, rfl, get_push, w_cons (w_non (w_nil ⟨.non, (S' ++ [Cell.lst (R.map Rw.d)]).set S'.length (.lst (R.map Rw.d ++ [.non])), ?_, ?_⟩))⟩)⟩)))
    · simp only [bmSem, get_push]
      rw [if_pos]
      rw [List.length_map]; exact Nat.lt_of_le_of_lt (m := 1000) (by omega) (by decide)
    · have A8 := A7.fr (DI.Fr.setr (c := Cell.lst (R.map Rw.d ++ [D.non])) (DI.Fr.push (c := Cell.lst (R.map Rw.d))) (.inr (Nat.le_refl _)))
      refine z_ret (w_cmp (w_mth (w_var ⟨_, rfl, _, _, rfl, A8.sp.1, rfl, w_nil (floats (d := d + 3) A8.sp (w_var ⟨_, rfl, _, eq_rows get_push (get_pushl A8.kn), ?_⟩))⟩)))
      exact hQ _ (A8.fr DI.Fr.push).st
theorem lawful : ∀ ns : List Int, ns.length ≤ 63 → ∃ S', calls P0 fs (dep + 1) 16 [.rl (ns.map D.int)] [] = .ok (.bl true) S' := by
  intro ns hn
  have : W (calls P0 fs (dep + 1) 16 [.rl (ns.map D.int)] []) fun v _ => v = .bl true := by
    refine W_call (f := d_law) rfl rfl ?_
    show WS (dSs P0 (calls P0 fs (5 + 6)) t_law [some (.rl (ns.map D.int)), none, none] []) _
    unfold t_law
    refine z_for (w_rng1 (V_use (V_bi2 V_int (V_bi2 V_int (V_bi1 (z := .int ns.length) (V_var rfl) (by simp [biSem])) rfl) rfl) ⟨_, rfl, decide_eq_true (by omega), ?_⟩))
    refine WS_for (n := (max 1 (min 6 (ns.length : Int))).toNat) (fun k σ' S' => ∃ v1 v2, σ' = [some (.rl (ns.map D.int)), v1, v2]) ⟨_, _, rfl⟩ ?_ ?_ ?_
    · rintro σ' S' _
      simp [wgo]
    · rintro k σ' S' hk ⟨v1, v2, rfl⟩
      refine ⟨.int (0 + k), _, by simp only [wgo]; rw [if_pos hk], rfl, ?_⟩
      try simp only [List.set_cons_succ, List.set_cons_zero]
      rw [Int.zero_add]
      unfold t_law_2
      (repeat (first | ((with_reducible refine w_var ?_); refine ⟨_, rfl, ?_⟩) | with_reducible refine z_set ?_ | with_reducible refine z_setT ?_ | with_reducible refine z_par ?_ | with_reducible refine z_fld ?_ | with_reducible refine z_sub ?_ | with_reducible refine z_exp ?_ | with_reducible refine z_ret ?_ | with_reducible refine z_retN ?_ | with_reducible refine z_ite ?_ | with_reducible refine z_whl ?_ | with_reducible refine z_for ?_ | with_reducible refine z_pass ?_ | with_reducible refine z_brk ?_ | with_reducible refine z_cnt ?_ | with_reducible refine z_nil ?_ | with_reducible refine w_bin ?_ | with_reducible refine w_int ?_ | with_reducible refine w_str ?_ | with_reducible refine w_blc ?_ | with_reducible refine w_non ?_ | with_reducible refine w_bty ?_ | with_reducible refine w_neg ?_ | with_reducible refine w_cmp ?_ | with_reducible refine w_chn ?_ | with_reducible refine w_and ?_ | with_reducible refine w_or ?_ | with_reducible refine w_not ?_ | with_reducible refine w_ite ?_ | with_reducible refine w_fld ?_ | with_reducible refine w_ix ?_ | with_reducible refine w_sl ?_ | with_reducible refine w_no ?_ | with_reducible refine w_so ?_ | with_reducible refine w_nil ?_ | with_reducible refine w_cons ?_ | with_reducible refine w_tup ?_ | with_reducible refine w_lst ?_ | with_reducible refine w_cal ?_ | with_reducible refine w_mk ?_ | with_reducible refine w_mth ?_ | with_reducible refine w_bi ?_ | with_reducible refine w_bm ?_ | with_reducible refine w_lc ?_ | with_reducible refine w_iex ?_ | with_reducible refine w_rng1 ?_ | with_reducible refine w_rng2 ?_ | with_reducible refine w_enum ?_ | with_reducible refine w_T0 ?_ | with_reducible refine w_T1 ?_ | with_reducible refine w_add ?_ | with_reducible refine w_sub ?_ | ((with_reducible refine w_tru ?_ ?_); exact rfl)))
      refine cell_at fun z => ?_
      (repeat (first | ((with_reducible refine w_var ?_); refine ⟨_, rfl, ?_⟩) | with_reducible refine z_set ?_ | with_reducible refine z_setT ?_ | with_reducible refine z_par ?_ | with_reducible refine z_fld ?_ | with_reducible refine z_sub ?_ | with_reducible refine z_exp ?_ | with_reducible refine z_ret ?_ | with_reducible refine z_retN ?_ | with_reducible refine z_ite ?_ | with_reducible refine z_whl ?_ | with_reducible refine z_for ?_ | with_reducible refine z_pass ?_ | with_reducible refine z_brk ?_ | with_reducible refine z_cnt ?_ | with_reducible refine z_nil ?_ | with_reducible refine w_bin ?_ | with_reducible refine w_int ?_ | with_reducible refine w_str ?_ | with_reducible refine w_blc ?_ | with_reducible refine w_non ?_ | with_reducible refine w_bty ?_ | with_reducible refine w_neg ?_ | with_reducible refine w_cmp ?_ | with_reducible refine w_chn ?_ | with_reducible refine w_and ?_ | with_reducible refine w_or ?_ | with_reducible refine w_not ?_ | with_reducible refine w_ite ?_ | with_reducible refine w_fld ?_ | with_reducible refine w_ix ?_ | with_reducible refine w_sl ?_ | with_reducible refine w_no ?_ | with_reducible refine w_so ?_ | with_reducible refine w_nil ?_ | with_reducible refine w_cons ?_ | with_reducible refine w_tup ?_ | with_reducible refine w_lst ?_ | with_reducible refine w_cal ?_ | with_reducible refine w_mk ?_ | with_reducible refine w_mth ?_ | with_reducible refine w_bi ?_ | with_reducible refine w_bm ?_ | with_reducible refine w_lc ?_ | with_reducible refine w_iex ?_ | with_reducible refine w_rng1 ?_ | with_reducible refine w_rng2 ?_ | with_reducible refine w_enum ?_ | with_reducible refine w_T0 ?_ | with_reducible refine w_T1 ?_ | with_reducible refine w_add ?_ | with_reducible refine w_sub ?_ | ((with_reducible refine w_tru ?_ ?_); exact rfl)))
      refine w_mul (.inl (by omega)) ?_
      (repeat (first | ((with_reducible refine w_var ?_); refine ⟨_, rfl, ?_⟩) | with_reducible refine z_set ?_ | with_reducible refine z_setT ?_ | with_reducible refine z_par ?_ | with_reducible refine z_fld ?_ | with_reducible refine z_sub ?_ | with_reducible refine z_exp ?_ | with_reducible refine z_ret ?_ | with_reducible refine z_retN ?_ | with_reducible refine z_ite ?_ | with_reducible refine z_whl ?_ | with_reducible refine z_for ?_ | with_reducible refine z_pass ?_ | with_reducible refine z_brk ?_ | with_reducible refine z_cnt ?_ | with_reducible refine z_nil ?_ | with_reducible refine w_bin ?_ | with_reducible refine w_int ?_ | with_reducible refine w_str ?_ | with_reducible refine w_blc ?_ | with_reducible refine w_non ?_ | with_reducible refine w_bty ?_ | with_reducible refine w_neg ?_ | with_reducible refine w_cmp ?_ | with_reducible refine w_chn ?_ | with_reducible refine w_and ?_ | with_reducible refine w_or ?_ | with_reducible refine w_not ?_ | with_reducible refine w_ite ?_ | with_reducible refine w_fld ?_ | with_reducible refine w_ix ?_ | with_reducible refine w_sl ?_ | with_reducible refine w_no ?_ | with_reducible refine w_so ?_ | with_reducible refine w_nil ?_ | with_reducible refine w_cons ?_ | with_reducible refine w_tup ?_ | with_reducible refine w_lst ?_ | with_reducible refine w_cal ?_ | with_reducible refine w_mk ?_ | with_reducible refine w_mth ?_ | with_reducible refine w_bi ?_ | with_reducible refine w_bm ?_ | with_reducible refine w_lc ?_ | with_reducible refine w_iex ?_ | with_reducible refine w_rng1 ?_ | with_reducible refine w_rng2 ?_ | with_reducible refine w_enum ?_ | with_reducible refine w_T0 ?_ | with_reducible refine w_T1 ?_ | with_reducible refine w_add ?_ | with_reducible refine w_sub ?_ | ((with_reducible refine w_tru ?_ ?_); exact rfl)))
      refine ⟨sz (by simp), ?_⟩
      try simp only [List.set_cons_succ, List.set_cons_zero]
      (repeat (first | ((with_reducible refine w_var ?_); refine ⟨_, rfl, ?_⟩) | with_reducible refine z_set ?_ | with_reducible refine z_setT ?_ | with_reducible refine z_par ?_ | with_reducible refine z_fld ?_ | with_reducible refine z_sub ?_ | with_reducible refine z_exp ?_ | with_reducible refine z_ret ?_ | with_reducible refine z_retN ?_ | with_reducible refine z_ite ?_ | with_reducible refine z_whl ?_ | with_reducible refine z_for ?_ | with_reducible refine z_pass ?_ | with_reducible refine z_brk ?_ | with_reducible refine z_cnt ?_ | with_reducible refine z_nil ?_ | with_reducible refine w_bin ?_ | with_reducible refine w_int ?_ | with_reducible refine w_str ?_ | with_reducible refine w_blc ?_ | with_reducible refine w_non ?_ | with_reducible refine w_bty ?_ | with_reducible refine w_neg ?_ | with_reducible refine w_cmp ?_ | with_reducible refine w_chn ?_ | with_reducible refine w_and ?_ | with_reducible refine w_or ?_ | with_reducible refine w_not ?_ | with_reducible refine w_ite ?_ | with_reducible refine w_fld ?_ | with_reducible refine w_ix ?_ | with_reducible refine w_sl ?_ | with_reducible refine w_no ?_ | with_reducible refine w_so ?_ | with_reducible refine w_nil ?_ | with_reducible refine w_cons ?_ | with_reducible refine w_tup ?_ | with_reducible refine w_lst ?_ | with_reducible refine w_cal ?_ | with_reducible refine w_mk ?_ | with_reducible refine w_mth ?_ | with_reducible refine w_bi ?_ | with_reducible refine w_bm ?_ | with_reducible refine w_lc ?_ | with_reducible refine w_iex ?_ | with_reducible refine w_rng1 ?_ | with_reducible refine w_rng2 ?_ | with_reducible refine w_enum ?_ | with_reducible refine w_T0 ?_ | with_reducible refine w_T1 ?_ | with_reducible refine w_add ?_ | with_reducible refine w_sub ?_ | ((with_reducible refine w_tru ?_ ?_); exact rfl)))
      refine right ⟨_, get_push, .inl ⟨_, rfl⟩⟩ fun S2 g2 => ?_
      refine ⟨true, rfl, true, rfl, false, rfl, fun h => (by cases h), fun _ => ?_⟩
      (repeat (first | ((with_reducible refine w_var ?_); refine ⟨_, rfl, ?_⟩) | with_reducible refine z_set ?_ | with_reducible refine z_setT ?_ | with_reducible refine z_par ?_ | with_reducible refine z_fld ?_ | with_reducible refine z_sub ?_ | with_reducible refine z_exp ?_ | with_reducible refine z_ret ?_ | with_reducible refine z_retN ?_ | with_reducible refine z_ite ?_ | with_reducible refine z_whl ?_ | with_reducible refine z_for ?_ | with_reducible refine z_pass ?_ | with_reducible refine z_brk ?_ | with_reducible refine z_cnt ?_ | with_reducible refine z_nil ?_ | with_reducible refine w_bin ?_ | with_reducible refine w_int ?_ | with_reducible refine w_str ?_ | with_reducible refine w_blc ?_ | with_reducible refine w_non ?_ | with_reducible refine w_bty ?_ | with_reducible refine w_neg ?_ | with_reducible refine w_cmp ?_ | with_reducible refine w_chn ?_ | with_reducible refine w_and ?_ | with_reducible refine w_or ?_ | with_reducible refine w_not ?_ | with_reducible refine w_ite ?_ | with_reducible refine w_fld ?_ | with_reducible refine w_ix ?_ | with_reducible refine w_sl ?_ | with_reducible refine w_no ?_ | with_reducible refine w_so ?_ | with_reducible refine w_nil ?_ | with_reducible refine w_cons ?_ | with_reducible refine w_tup ?_ | with_reducible refine w_lst ?_ | with_reducible refine w_cal ?_ | with_reducible refine w_mk ?_ | with_reducible refine w_mth ?_ | with_reducible refine w_bi ?_ | with_reducible refine w_bm ?_ | with_reducible refine w_lc ?_ | with_reducible refine w_iex ?_ | with_reducible refine w_rng1 ?_ | with_reducible refine w_rng2 ?_ | with_reducible refine w_enum ?_ | with_reducible refine w_T0 ?_ | with_reducible refine w_T1 ?_ | with_reducible refine w_add ?_ | with_reducible refine w_sub ?_ | ((with_reducible refine w_tru ?_ ?_); exact rfl)))
      refine right g2 fun S3 g3 => ?_
      refine ⟨true, rfl, true, rfl, false, rfl, ?_⟩
      refine ⟨fun h => (by cases h), fun _ => z_nil ?_⟩
      dsimp only
      exact z_nil ⟨_, _, rfl⟩
    · rintro σ' S' ⟨v1, v2, rfl⟩
      dsimp only
      unfold t_law_3
      exact z_ret (w_blc rfl)
  obtain ⟨a, S', e, rfl⟩ := W_ex this
  exact ⟨S', e⟩

end K25

set_option Elab.async false
set_option linter.all false
set_option maxRecDepth 100000
set_option maxHeartbeats 0
open PySem PySem.W PySem.Calls PyProof.Rows
theorem PySem.Challenge.cw_flowboxes_k25_floats_height_by_height_holds : PySem.Challenge.rw_flowboxes_k25_floats_height_by_height.Holds := by
  w_on; o_law
  refine HandSHeadRun.head_any (r := OpenLaw.row PySem.Challenge.rw_flowboxes_k25_floats_height_by_height) (q := view (OpenLaw.row PySem.Challenge.rw_flowboxes_k25_floats_height_by_height).prog [15]) (H := K25.hk) (ob := K25.ob) (M := 30000) (loose := K25.loose) (d := HandSHeadRun.topDef (OpenLaw.row PySem.Challenge.rw_flowboxes_k25_floats_height_by_height).prog 15) (kwd := []) K25.ob_eq
    (by kernel_rfl) (fun s => by kernel_rfl) K25.run (by kernel_rfl) (by kernel_rfl) (by kernel_rfl) (by rfl) (by first | assumption | decide +kernel) (by decide +kernel) ⟨rfl, rfl, rfl, rfl, rfl, by decide +kernel⟩ ?hw ?hc
  case hw => w_witness2
  case hc =>
    refine DI.walk_ofEw (l := PySem.Challenge.rw_flowboxes_k25_floats_height_by_height) (n := 63) (k := 2 * K25.dep + 2) (x := "script") (CX := fun w => L2.CX (PySem.Challenge.rw_flowboxes_k25_floats_height_by_height).prog w) rfl (by decide) (by kernel_rfl) ⟨rfl, by decide, by decide⟩ ?F (fun w H s e s' z => ?_)
    · intro w mg fa h Y G hmg0
      have hmg : mg ("law" : PySem.Str) = some (.ref fa) := by
        have e : (HandSHeadRun.topDef (OpenLaw.row PySem.Challenge.rw_flowboxes_k25_floats_height_by_height).prog 15).name = ("law" : PySem.Str) := by kernel_rfl
        rw [← e]
        exact hmg0
      exact DI.law_F (P := K25.P0) (pn := K25.pn) (fs := K25.fs) (d := K25.dep) (j := 16) (f := K25.d_law) Y G hmg (by decide +kernel) rfl K25.o_all K25.kbs_ok rfl (by decide +kernel) rfl (fun _ _ _ _ _ _ _ h => by cases h) K25.lawful
    · obtain ⟨_, _, _, _, _, _, _, _, _, _, _, _, e⟩ := z
      exact e
