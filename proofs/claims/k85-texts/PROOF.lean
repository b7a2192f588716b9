import PyProof.Rows.All
import Wide.All
import OpenK.AllK
import Wide.FinOn
import HandS.ForMost
import HandS.Flow
import HandS.Exc
import HandS.TryOnly
import HandS.ExcOwn
import HandS.WordsExc
import HandS.IsInst
import HandS.TupAny
import HandS.HeadWalk
import HandS.TupLe
import PyProof.StrOps2
import HandS.More
import HandS.TupMul
import HandS.Defaults
import KE.GoesMore
import HandS.Conv
import HandS.Style
import HandS.CallLocal
import HandS.ExcInit
import HandS.ExcField
import HandS.ClsMeth
import HandS.HeadEnd
import HandS.Head0
import HandS.Head1
import HandS.Head2
import HandS.HeadHook1
import HandS.HeadHook2
import HandS.HeadHook3
import HandS.HeadHook4
import Wide.Once
import PySem.Challenge.RW_flowboxes_k85_texts_of_trees
set_option Elab.async false
set_option linter.all false
set_option maxRecDepth 100000
set_option maxHeartbeats 4000000
/-! Data of a program by value, the store of its changing things, and how the layer's heap bears both. -/
namespace DI
open L2 PySem PySem.Spec PyProof.Rows

/-- values: tuples by value, changing things by their number in the store, defs and classes by their number in the program -/
inductive D where
  | non | bl (b : Bool) | int (i : Int) | str (x : Str) | ty (n : String)
  | tup (xs : List D) | rl (xs : List D) | loc (n : Nat) | fn (j : Nat) | cl (j : Nat)
  | rd (kvs : List (Str × D))
inductive Cell where
  | lst (xs : List D) | dk (kvs : List (Key × D)) | dt (kvs : List (List Key × D)) | ins (c : Nat) (fs : List (Str × D))
  | fk (kvs : List (Key × D))
abbrev Sto := List Cell
/-- where the program's defs and classes stand -/
structure Ad where
  K : PySem.W.Frag
  w : World
  fn : Nat → Addr
  cl : Nat → Addr

def RoL (K : PySem.W.Frag) (H : Hp) (a : Addr) (xs : List V) : Prop := (∃ o, H a = some (.frz o (.lst xs))) ∨ ∀ H' : Hp, SqL K H' a xs
theorem RoL.sq {K : PySem.W.Frag} {H : Hp} {a : Addr} {xs : List V} (h : RoL K H a xs) : SqL K H a xs := by
  rcases h with ⟨o, h⟩ | h
  · exact .inl (.inr ⟨o, h⟩)
  · exact h H
theorem RoL.of_only {K : PySem.W.Frag} {H : Hp} {a : Addr} {xs : List V} (o : Only H) (h : SqL K H a xs) : RoL K H a xs := by
  rcases h with (h | ⟨o', h⟩) | h
  · rcases o a with z | ⟨ob, ys, z⟩
    · rw [z] at h; cases h
    · rw [z] at h; cases h
  · exact .inl ⟨o', h⟩
  · exact .inr fun H' => .inr h

/-- the key of an entry, if it is a text -/
def keyS (e : DictEntry) : Option Str := match e.key with | .str x _ => some x | _ => none
mutual
inductive RepD (A : Ad) (m : List Addr) (H : Hp) : D → V → Prop
  | non : RepD A m H .non .non
  | bl (b : Bool) : RepD A m H (.bl b) (.bl b)
  | int (i : Int) : RepD A m H (.int i) (.int i)
  | str (x : Str) : RepD A m H (.str x) (.str x)
  | ty (n : String) : RepD A m H (.ty n) (.ty n)
  | tup {xs : List D} {a : Addr} {vs : List V} : SqT A.K H a vs → RepL A m H xs vs → RepD A m H (.tup xs) (.ref a)
  | rl {xs : List D} {a : Addr} {vs : List V} : RoL A.K H a vs → RepL A m H xs vs → RepD A m H (.rl xs) (.ref a)
  | loc {i : Nat} {a : Addr} : m[i]? = some a → RepD A m H (.loc i) (.ref a)
  | fn (j : Nat) : RepD A m H (.fn j) (.ref (A.fn j))
  | cl (j : Nat) : RepD A m H (.cl j) (.ref (A.cl j))
  | rd {kvs : List (Str × D)} {a : Addr} : (∃ es n, KDict A.K A.w a es n ∧ es.toList.map keyS = kvs.map fun p => some p.1) → (∀ x : Str, kvs.lookup x = none → PySem.W.nsIn A.K a x = some none) → RepR A m H a kvs → RepD A m H (.rd kvs) (.ref a)
inductive RepR (A : Ad) (m : List Addr) (H : Hp) : Addr → List (Str × D) → Prop
  | nil {a : Addr} : RepR A m H a []
  | cons {a : Addr} {k : Str} {d : D} {r : List (Str × D)} {v : V} {u : Value} : PySem.W.nsIn A.K a k = some (some u) → RelV v u → RepD A m H d v → RepR A m H a r → RepR A m H a ((k, d) :: r)
inductive RepL (A : Ad) (m : List Addr) (H : Hp) : List D → List V → Prop
  | nil : RepL A m H [] []
  | cons {d : D} {ds : List D} {v : V} {vs : List V} : RepD A m H d v → RepL A m H ds vs → RepL A m H (d :: ds) (v :: vs)
end
abbrev RepK {κ : Type} (A : Ad) (m : List Addr) (H : Hp) : List (κ × D) → List (κ × V) → Prop := Paired fun p q => p.1 = q.1 ∧ RepD A m H p.2 q.2

/-- what stays of a heap -/
structure Ext (A : Ad) (m : List Addr) (H : Hp) (m' : List Addr) (H' : Hp) : Prop where
  loc : ∀ (i : Nat) (a : Addr), m[i]? = some a → m'[i]? = some a
  tup : ∀ a xs, SqT A.K H a xs → SqT A.K H' a xs
  rol : ∀ a xs, RoL A.K H a xs → RoL A.K H' a xs
  frz : ∀ a od u, H a = some (.frz od u) → H' a = some (.frz od u)

inductive RepC (A : Ad) (m : List Addr) (H : Hp) (a : Addr) : Cell → Prop
  | lst {xs : List D} {vs : List V} : H a = some (.lst vs) → RepL A m H xs vs → RepC A m H a (.lst xs)
  | dk {kvs : List (Key × D)} {ws : List (Key × V)} : H a = some (.dK ws) → RepK A m H kvs ws → RepC A m H a (.dk kvs)
  | dt {kvs : List (List Key × D)} {ws : List (List Key × V)} : H a = some (.dT ws) → RepK A m H kvs ws → RepC A m H a (.dt kvs)
  | ins {c : Nat} {fs : List (Str × D)} {dx : Addr} {ws : List (Str × V)} : H a = some (.ins (A.cl c) dx ws) → RepK A m H fs ws → RepC A m H a (.ins c fs)
  | fk {kvs : List (Key × D)} {od : Obj} {ws : List (Key × V)} : H a = some (.frz od (.dK ws)) → RepK A m H kvs ws → RepC A m H a (.fk kvs)

structure Rep (A : Ad) (m : List Addr) (S : Sto) (H : Hp) : Prop where
  cell : ∀ (i : Nat) (c : Cell), S[i]? = some c → ∃ a, m[i]? = some a ∧ RepC A m H a c
  len : m.length = S.length
  nd : m.Nodup

section
variable {A : Ad} {m m' m'' : List Addr} {H H' H'' : Hp} {S S' : Sto} {d : D} {v : V} {ds ds' : List D} {vs vs' : List V}
theorem Ext.refl : Ext A m H m H := ⟨fun _ _ h => h, fun _ _ h => h, fun _ _ h => h, fun _ _ _ h => h⟩
theorem Ext.trans (a : Ext A m H m' H') (b : Ext A m' H' m'' H'') : Ext A m H m'' H'' := ⟨fun i x h => b.loc i x (a.loc i x h), fun x xs h => b.tup x xs (a.tup x xs h), fun x xs h => b.rol x xs (a.rol x xs h), fun x od u h => b.frz x od u (a.frz x od u h)⟩
mutual
theorem RepD.mono (e : Ext A m H m' H') : ∀ {d : D} {v : V}, RepD A m H d v → RepD A m' H' d v
  | _, _, .non => .non
  | _, _, .bl b => .bl b
  | _, _, .int i => .int i
  | _, _, .str x => .str x
  | _, _, .ty n => .ty n
  | _, _, .tup h l => .tup (e.tup _ _ h) (RepL.mono e l)
  | _, _, .rl h l => .rl (e.rol _ _ h) (RepL.mono e l)
  | _, _, .loc h => .loc (e.loc _ _ h)
  | _, _, .fn j => .fn j
  | _, _, .cl j => .cl j
  | _, _, .rd h g r => .rd h g (RepR.mono e r)
theorem RepR.mono (e : Ext A m H m' H') : ∀ {a : Addr} {kvs : List (Str × D)}, RepR A m H a kvs → RepR A m' H' a kvs
  | _, _, .nil => .nil
  | _, _, .cons h g r t => .cons h g (RepD.mono e r) (RepR.mono e t)
theorem RepL.mono (e : Ext A m H m' H') : ∀ {ds : List D} {vs : List V}, RepL A m H ds vs → RepL A m' H' ds vs
  | _, _, .nil => .nil
  | _, _, .cons a b => .cons (RepD.mono e a) (RepL.mono e b)
end
theorem RepK.mono {κ : Type} (e : Ext A m H m' H') : ∀ {kvs : List (κ × D)} {ws : List (κ × V)}, RepK A m H kvs ws → RepK A m' H' kvs ws
  | _, _, .nil => .nil
  | _, _, .cons a b => .cons ⟨a.1, a.2.mono e⟩ (RepK.mono e b)
theorem RepL.length : ∀ {ds : List D} {vs : List V}, RepL A m H ds vs → vs.length = ds.length
  | _, _, .nil => rfl
  | _, _, .cons _ b => by rw [List.length_cons, List.length_cons, RepL.length b]
theorem RepL.get : ∀ {ds : List D} {vs : List V} {i : Nat} {d : D}, RepL A m H ds vs → ds[i]? = some d → ∃ v, vs[i]? = some v ∧ RepD A m H d v
  | _, _, _, _, .nil, h => by simp at h
  | _, _, 0, _, .cons a _, h => by simp at h; subst h; exact ⟨_, rfl, a⟩
  | _, _, i + 1, d, .cons _ b, h => by
    obtain ⟨v, h1, h2⟩ := RepL.get (i := i) (d := d) b (by simpa using h)
    exact ⟨v, by simpa using h1, h2⟩
theorem RepL.app : ∀ {ds : List D} {vs : List V}, RepL A m H ds vs → RepL A m H ds' vs' → RepL A m H (ds ++ ds') (vs ++ vs')
  | _, _, .nil, r => r
  | _, _, .cons a b, r => .cons a (RepL.app b r)
theorem RepL.set (r : RepD A m H d v) : ∀ {ds : List D} {vs : List V} (i : Nat), RepL A m H ds vs → RepL A m H (ds.set i d) (vs.set i v)
  | _, _, _, .nil => .nil
  | _, _, 0, .cons _ b => .cons r b
  | _, _, i + 1, .cons a b => .cons a (RepL.set r i b)
theorem RepL.take : ∀ {ds : List D} {vs : List V} (n : Nat), RepL A m H ds vs → RepL A m H (ds.take n) (vs.take n)
  | _, _, 0, _ => .nil
  | _, _, _ + 1, .nil => .nil
  | _, _, n + 1, .cons a b => .cons a (RepL.take n b)
theorem RepL.drop : ∀ {ds : List D} {vs : List V} (n : Nat), RepL A m H ds vs → RepL A m H (ds.drop n) (vs.drop n)
  | _, _, 0, r => r
  | _, _, _ + 1, .nil => .nil
  | _, _, n + 1, .cons _ b => RepL.drop n b
theorem RepL.rev : ∀ {ds : List D} {vs : List V}, RepL A m H ds vs → RepL A m H ds.reverse vs.reverse
  | _, _, .nil => .nil
  | _, _, .cons a b => by rw [List.reverse_cons, List.reverse_cons]; exact (RepL.rev b).app (.cons a .nil)
theorem RepL.dropLast : ∀ {ds : List D} {vs : List V}, RepL A m H ds vs → RepL A m H ds.dropLast vs.dropLast
  | _, _, .nil => .nil
  | _, _, .cons _ .nil => .nil
  | _, _, .cons a (.cons b c) => .cons a (RepL.dropLast (.cons b c))
theorem RepL.ints : ∀ (ns : List Int), RepL A m H (ns.map D.int) (ns.map V.int)
  | [] => .nil
  | n :: ns => .cons (.int n) (RepL.ints ns)
theorem RepL.toInts : ∀ {ns : List Int} {vs : List V}, RepL A m H (ns.map D.int) vs → vs = ns.map V.int
  | [], _, .nil => rfl
  | _ :: _, _, .cons (.int _) b => by rw [List.map_cons, RepL.toInts b]

theorem RepC.there {a : Addr} {c : Cell} (r : RepC A m H a c) : ∃ o, H a = some o := by
  cases r <;> exact ⟨_, by assumption⟩
/-- an object's address as it was, and what stays -/
theorem RepC.mono {a : Addr} {c : Cell} (r : RepC A m H a c) (e : Ext A m H m' H') (h : H' a = H a) : RepC A m' H' a c := by
  cases r with
  | lst x l => exact .lst (h.trans x) (l.mono e)
  | dk x l => exact .dk (h.trans x) (RepK.mono e l)
  | dt x l => exact .dt (h.trans x) (RepK.mono e l)
  | ins x l => exact .ins (h.trans x) (RepK.mono e l)
  | fk x l => exact .fk (h.trans x) (RepK.mono e l)
theorem Rep.there (R : Rep A m S H) {a : Addr} (h : a ∈ m) : ∃ o, H a = some o := by
  obtain ⟨i, hi, rfl⟩ := List.getElem_of_mem h
  have : i < S.length := by rw [← R.len]; exact hi
  obtain ⟨a, h1, h2⟩ := R.cell i _ (List.getElem?_eq_getElem this)
  rw [List.getElem?_eq_getElem hi] at h1
  cases h1
  exact h2.there
theorem Rep.fresh (R : Rep A m S H) {p : Addr} (h : H p = none) : p ∉ m := fun hm => by
  obtain ⟨o, e⟩ := R.there hm
  rw [h] at e; cases e
theorem sqT_upd {K : PySem.W.Frag} {p a : Addr} {o : HO} {xs : List V} (hp : ∀ ys, H p ≠ some (.tup ys)) (hf : ∀ ob u, H p ≠ some (.frz ob u)) (h : SqT K H a xs) : SqT K (upd H p o) a xs := by
  rcases h with (h | ⟨ob, h⟩) | h
  · refine .inl (.inl ?_)
    rw [upd_ne (fun e => hp xs (by rw [← e]; exact h))]; exact h
  · refine .inl (.inr ⟨ob, ?_⟩)
    rw [upd_ne (fun e => hf ob _ (by rw [← e]; exact h))]; exact h
  · exact .inr h
theorem roL_upd {K : PySem.W.Frag} {p a : Addr} {o : HO} {xs : List V} (hf : ∀ ob u, H p ≠ some (.frz ob u)) (h : RoL K H a xs) : RoL K (upd H p o) a xs := by
  rcases h with ⟨ob, h⟩ | h
  · refine .inl ⟨ob, ?_⟩
    rw [upd_ne (fun e => hf ob _ (by rw [← e]; exact h))]; exact h
  · exact .inr h
/-- a new object, not in the store -/
theorem Ext.new {p : Addr} {o : HO} (h : H p = none) : Ext A m H m (upd H p o) :=
  ⟨fun _ _ h => h, fun _ _ => sqT_upd (fun _ e => nomatch h.symm.trans e) (fun _ _ e => nomatch h.symm.trans e), fun _ _ => roL_upd (fun _ _ e => nomatch h.symm.trans e), fun b od u q => by
    rw [upd_ne (fun e => by rw [e, h] at q; cases q)]; exact q⟩
theorem Ext.more {r : List Addr} (e : Ext A m H m' H') : Ext A m H (m' ++ r) H' :=
  ⟨fun i a h => by have := e.loc i a h; rw [List.getElem?_append_left (List.getElem?_eq_some_iff.mp this).1]; exact this, e.tup, e.rol, e.frz⟩
theorem Rep.new (R : Rep A m S H) {p : Addr} {o : HO} (h : H p = none) : Rep A m S (upd H p o) := by
  refine ⟨fun i c hc => ?_, R.len, R.nd⟩
  obtain ⟨a, h1, h2⟩ := R.cell i c hc
  refine ⟨a, h1, h2.mono (Ext.new h) (upd_ne fun e => ?_)⟩
  obtain ⟨u, hu⟩ := h2.there
  rw [e, h] at hu
  cases hu
/-- a new cell -/
theorem Rep.alloc (R : Rep A m S H) {p : Addr} {o : HO} {c : Cell} (h : H p = none) (new : RepC A (m ++ [p]) (upd H p o) p c) : Rep A (m ++ [p]) (S ++ [c]) (upd H p o) := by
  refine ⟨fun i c' hc => ?_, by rw [List.length_append, List.length_append, R.len] <;> rfl, ?_⟩
  · by_cases hi : i < S.length
    · rw [List.getElem?_append_left hi] at hc
      obtain ⟨a, h1, h2⟩ := R.cell i c' hc
      refine ⟨a, (Ext.refl (A := A) (H := H)).more.loc i a h1, h2.mono (Ext.new h).more (upd_ne fun e => ?_)⟩
      obtain ⟨u, hu⟩ := h2.there
      rw [e, h] at hu; cases hu
    · rw [List.getElem?_append_right (by omega)] at hc
      have e : i - S.length = 0 := by
        cases q : i - S.length with
        | zero => rfl
        | succ n => rw [q] at hc; simp at hc
      have ei : i = S.length := by omega
      subst ei
      rw [e] at hc
      cases hc
      exact ⟨p, by rw [← R.len, List.getElem?_append_right (Nat.le_refl _), Nat.sub_self] <;> rfl, new⟩
  · rw [List.nodup_append]
    refine ⟨R.nd, List.nodup_cons.mpr ⟨by simp, List.nodup_nil⟩, fun a ha b hb e => ?_⟩
    rw [List.mem_singleton] at hb
    subst hb; subst e
    exact R.fresh h ha
/-- a cell is written -/
theorem Ext.write {p : Addr} {o u : HO} (h : H p = some u) (nt : ∀ ys, u ≠ .tup ys) (nf : ∀ ob w, u ≠ .frz ob w) : Ext A m H m (upd H p o) :=
  ⟨fun _ _ h => h, fun _ _ => sqT_upd (fun ys e => nt ys (Option.some.inj (h.symm.trans e))) fun ob w e => nf ob w (Option.some.inj (h.symm.trans e)),
    fun _ _ => roL_upd fun ob w e => nf ob w (Option.some.inj (h.symm.trans e)), fun b od w q => by
      rw [upd_ne (fun e => by rw [e, h] at q; exact nf od w (Option.some.inj q))]; exact q⟩
theorem Rep.write (R : Rep A m S H) {i : Nat} {p : Addr} {o : HO} {c : Cell} (hi : m[i]? = some p) (e : Ext A m H m (upd H p o)) (new : RepC A m (upd H p o) p c) : Rep A m (S.set i c) (upd H p o) := by
  refine ⟨fun j c' hc => ?_, by rw [List.length_set]; exact R.len, R.nd⟩
  by_cases hj : i = j
  · subst hj
    have hl : i < S.length := by rw [← R.len]; exact (List.getElem?_eq_some_iff.mp hi).1
    rw [List.getElem?_set_self hl] at hc
    cases hc
    exact ⟨p, hi, new⟩
  · rw [List.getElem?_set_ne hj] at hc
    obtain ⟨a, h1, h2⟩ := R.cell j c' hc
    refine ⟨a, h1, h2.mono e (upd_ne fun z => hj ?_)⟩
    subst z
    have h3 := (List.getElem?_eq_some_iff.mp hi)
    have h4 := (List.getElem?_eq_some_iff.mp h1)
    exact nd_ix R.nd hi h1
end
end DI

set_option Elab.async false
set_option linter.all false
set_option maxRecDepth 100000
set_option maxHeartbeats 4000000
/-! A small language of programs, what its texts do to data and store, and when a text of the model is one of it. -/
namespace DI
open L2 PySem PySem.Spec PyProof.Rows

/-! ### values -/
def cutL {α : Type} (xs : List α) (lo hi : Option Int) : List α := (xs.drop (HT.sIx xs.length 0 lo)).take (HT.sIx xs.length xs.length hi - HT.sIx xs.length 0 lo)
/-- the pm-th of a list, in pm's order -/
def pmL {α : Type} (pm : List Nat) (xs : List α) : List α := pm.filterMap fun i => xs[i]?
/-- a text, k times -/
def repS (z : Str) (k : Nat) : Str := ⟨(List.replicate k z.cps).foldl (· ++ ·) #[]⟩
def opSem (o : Operator) (x y : D) (S : Sto) : Option (D × Sto) :=
  match o, x, y with
  | .Add, .int i, .int j => some (.int (i + j), S)
  | .Add, .str i, .str j => if i.length + j.length ≤ sizeLine then some (.str (i ++ j), S) else none
  | .Add, .tup xs, .tup ys => if xs.length + ys.length ≤ sizeLine then some (.tup (xs ++ ys), S) else none
  | .Add, .loc a, .loc b => match S[a]?, S[b]? with
    | some (.lst xs), some (.lst ys) => if xs.length + ys.length ≤ sizeLine then some (.loc S.length, S ++ [.lst (xs ++ ys)]) else none
    | _, _ => none
  | .Sub, .int i, .int j => some (.int (i - j), S)
  | .Mult, .int i, .int j => if (-(2 ^ 64) < i ∧ i < 2 ^ 64) ∨ (-(2 ^ 64) < j ∧ j < 2 ^ 64) then some (.int (i * j), S) else none
  | .Mult, .loc a, .int k => match S[a]? with
    | some (.lst xs) => if -(2 ^ 63) ≤ k ∧ k < 2 ^ 63 ∧ xs.length * k.toNat ≤ sizeLine then some (.loc S.length, S ++ [.lst (List.replicate k.toNat xs).flatten]) else none
    | _ => none
  | .Mult, .str z, .int k => if 0 ≤ k ∧ k ≤ 1000 ∧ 1 ≤ z.length ∧ z.length ≤ 1000 then some (.str (repS z k.toNat), S) else none
  | .Mult, .tup xs, .int k => if xs ≠ [] ∧ 2 ≤ k ∧ k ≤ 1000 ∧ xs.length ≤ 1000 then some (.tup (List.replicate k.toNat xs).flatten, S) else none
  | .FloorDiv, .int i, .int j => if 0 < j ∧ j < 1073741824 then some (.int (i / j), S) else none
  | .Mod, .int i, .int j => if 0 < j then some (.int (i % j), S) else none
  | .Pow, .int i, .int j => if 0 ≤ j ∧ j ≤ 1000000 ∧ i.natAbs < 2 ^ 64 then some (.int (i ^ j.toNat), S) else none
  | _, _, _ => none
/-- as data of the library, lists down to a depth -/
def toP (S : Sto) : Nat → D → Option PyData
  | 0, _ => none
  | _ + 1, .non => some .none
  | _ + 1, .bl b => some (.bool b)
  | _ + 1, .int i => some (.int i)
  | _ + 1, .str x => some (.str x)
  | n + 1, .tup xs => (xs.mapM (toP S n)).map PyData.tuple
  | n + 1, .rl xs => (xs.mapM (toP S n)).map PyData.list
  | n + 1, .loc a => match S[a]? with
    | some (.lst xs) => (xs.mapM (toP S n)).map PyData.list
    | _ => none
  | _ + 1, _ => none
def keyP : Key → PyData
  | .inl i => .int i
  | .inr x => .str x
/-- the same, dicts too -/
def toR (S : Sto) : Nat → D → Option PyData
  | 0, _ => none
  | _ + 1, .non => some .none
  | _ + 1, .bl b => some (.bool b)
  | _ + 1, .int i => some (.int i)
  | _ + 1, .str x => some (.str x)
  | n + 1, .tup xs => (xs.mapM (toR S n)).map PyData.tuple
  | n + 1, .rl xs => (xs.mapM (toR S n)).map PyData.list
  | n + 1, .loc a => match S[a]? with
    | some (.lst xs) => (xs.mapM (toR S n)).map PyData.list
    | some (.dk kvs) => ((kvs.map (·.2)).mapM (toR S n)).map fun ps => PyData.dict ((kvs.map fun w => keyP w.1).zip ps)
    | _ => none
  | _ + 1, _ => none
def eqSem (x y : D) (S : Sto) : Option Bool :=
  match toP S 32 x, toP S 32 y with
  | some p, some q => if SeqAt.shaped p = true ∧ SeqAt.shaped q = true then some (PyData.eqv p q) else (match x, y with | .str a, .str b => some (a == b) | _, _ => none)
  | _, _ => none
def flatD : D → Bool
  | .non => true | .bl _ => true | .int _ => true | .str _ => true | _ => false
def eqF : D → D → Bool
  | .non, .non => true
  | .bl a, .bl b => a == b
  | .bl a, .int b => (if a then 1 else 0) == b
  | .int a, .bl b => a == (if b then 1 else 0)
  | .int a, .int b => a == b
  | .str a, .str b => a == b
  | _, _ => false
def keyD : D → Option Key
  | .int i => some (.inl i)
  | .str x => some (.inr x)
  | _ => none
def keysD : List D → Option (List Key)
  | [] => some []
  | d :: r => match keyD d, keysD r with
    | some k, some ks => some (k :: ks)
    | _, _ => none
def lookK {κ : Type} [DecidableEq κ] (kvs : List (κ × D)) (k : κ) : Option D := (kvs.find? fun kv => decide (kv.1 = k)).map (·.2)
def putD {κ : Type} [DecidableEq κ] (kvs : List (κ × D)) (k : κ) (d : D) : List (κ × D) :=
  if (kvs.any fun kv => decide (kv.1 = k)) = true then kvs.map (fun kv => if kv.1 = k then (kv.1, d) else kv) else kvs ++ [(k, d)]
/-- what a dict holds under a key: none is «no key of it» -/
def dictAt (c : Cell) (k : D) : Option (Option D) :=
  match c, k with
  | .dk kvs, .int i => some (lookK kvs (.inl i))
  | .dk kvs, .str x => some (lookK kvs (.inr x))
  | .fk kvs, .int i => some (lookK kvs (.inl i))
  | .fk kvs, .str x => some (lookK kvs (.inr x))
  | _, _ => none
def isDk (c : Cell) : Bool := match c with | .dk _ => true | .fk _ => true | _ => false
def dropD {κ : Type} [DecidableEq κ] (kvs : List (κ × D)) (k : κ) : List (κ × D) := kvs.filter fun kv => decide (kv.1 ≠ k)
def mergeD (kvs more : List (Key × D)) : List (Key × D) := more.foldl (fun acc kv => putD acc kv.1 kv.2) kvs
/-- a text's signs -/
def charsD (z : Str) : List D := z.cps.toList.map fun c => D.str ⟨#[c]⟩
/-- x in y, of data of any depth -/
def inDeep (x y : D) (S : Sto) : Option Bool :=
  match toP S 32 x, toP S 32 y with
  | some d, some (.tuple ds) => if SeqAt.shaped d = true ∧ SeqAt.shaped (.tuple ds) = true ∧ PyData.depth d ≤ 60 then some (ds.any fun z => PyData.eqv z d) else none
  | some d, some (.list ds) => if SeqAt.shaped d = true ∧ SeqAt.shaped (.list ds) = true ∧ PyData.depth d ≤ 60 then some (ds.any fun z => PyData.eqv z d) else none
  | _, _ => none
def inSem (x y : D) (S : Sto) : Option Bool :=
  match y with
  | .tup xs => if flatD x = true ∧ xs.all flatD = true then some (xs.any fun z => eqF z x) else inDeep x (.tup xs) S
  | .rl xs => if flatD x = true ∧ xs.all flatD = true then some (xs.any fun z => eqF z x) else inDeep x (.rl xs) S
  | .loc a => match S[a]? with
    | some (.lst xs) => if flatD x = true ∧ xs.all flatD = true then some (xs.any fun z => eqF z x) else inDeep x (.loc a) S
    | some c => (dictAt c x).map (·.isSome)
    | none => none
  | .rd kvs => match x with
    | .str z => some (kvs.lookup z).isSome
    | _ => none
  | _ => none
/-- whole numbers -/
def intsD : List D → Option (List Int)
  | [] => some []
  | .int i :: r => (intsD r).map (i :: ·)
  | _ :: _ => none
/-- ns > ms by the first pair that differs -/
def gtI (ns ms : List Int) : Bool := Ob.lexAt (fun j => decide (ns.getD j 0 = ms.getD j 0)) (fun j => decide (ms.getD j 0 < ns.getD j 0)) (decide (ms.length < ns.length)) 0 (min ns.length ms.length)
def cmpSem (o : CmpOp) (x y : D) (S : Sto) : Option Bool :=
  match o with
  | .Eq => match x, y with
    | .tup xs, .tup [] => some xs.isEmpty
    | x, .loc i => (match eqSem x (.loc i) S with | some b => some b | none => (match S[i]? with
      | some (.dk _) => if flatD x = true then some false else none
      | some (.fk _) => if flatD x = true then some false else none
      | _ => none))
    | _, _ => eqSem x y S
  | .NotEq => (eqSem x y S).map (!·)
  | .Lt => match x, y with | .int i, .int j => some (decide (i < j)) | .str i, .str j => some (decide (i.cps.toList < j.cps.toList)) | _, _ => none
  | .LtE => match x, y with | .int i, .int j => some (decide (i ≤ j)) | .str i, .str j => some (!decide (j.cps.toList < i.cps.toList)) | _, _ => none
  | .Gt => match x, y with | .int i, .int j => some (decide (j < i)) | .str i, .str j => some (decide (j.cps.toList < i.cps.toList)) | .tup xs, .tup ys => (match intsD xs, intsD ys with | some ns, some ms => some (gtI ns ms) | _, _ => none) | _, _ => none
  | .GtE => match x, y with | .int i, .int j => some (decide (j ≤ i)) | .str i, .str j => some (!decide (i.cps.toList < j.cps.toList)) | _, _ => none
  | .Is => match y with | .non => some (match x with | .non => true | _ => false) | _ => none
  | .IsNot => match y with | .non => some (match x with | .non => false | _ => true) | _ => none
  | .In => inSem x y S
  | .NotIn => (inSem x y S).map (!·)
def truSem (x : D) (S : Sto) : Option Bool :=
  match x with
  | .non => some false
  | .bl b => some b
  | .int i => some (i != 0)
  | .str y => if y.length ≤ sizeLine then some ((y.length : Int) != 0) else none
  | .tup xs => some (!xs.isEmpty)
  | .rl xs => some (!xs.isEmpty)
  | .loc a => match S[a]? with
    | some (.lst xs) => some (!xs.isEmpty)
    | some (.dk kvs) => some (!kvs.isEmpty)
    | _ => none
  | _ => none
def itemSem (x y : D) (S : Sto) : Option D :=
  match x, y with
  | .tup xs, .int i => atI xs i
  | .rl xs, .int i => atI xs i
  | .rd kvs, .str z => kvs.lookup z
  | .str z, .int i => if z.length ≤ sizeLine then (atI z.cps.toList i).map fun c => .str ⟨#[c]⟩ else none
  | .loc a, y => match S[a]?, y with
    | some (.lst xs), .int i => atI xs i
    | some (.lst _), _ => none
    | some c, k => (dictAt c k).bind id
    | none, _ => none
  | _, _ => none
def sliceSem (x : D) (lo hi : Option Int) (S : Sto) : Option (D × Sto) :=
  match x with
  | .tup xs => some (.tup (cutL xs lo hi), S)
  | .rl xs => some (.loc S.length, S ++ [.lst (cutL xs lo hi)])
  | .loc a => match S[a]? with
    | some (.lst xs) => some (.loc S.length, S ++ [.lst (cutL xs lo hi)])
    | _ => none
  | _ => none
/-- a list's or tuple's items -/
def seqD (x : D) (S : Sto) : Option (List D) :=
  match x with
  | .tup xs => some xs
  | .rl xs => some xs
  | .loc a => match S[a]? with | some (.lst xs) => some xs | _ => none
  | _ => none
def listD (x : D) (S : Sto) : Option (List D) :=
  match x with
  | .rl xs => some xs
  | .loc a => match S[a]? with | some (.lst xs) => some xs | _ => none
  | _ => none
def strsD : List D → Option (List Str)
  | [] => some []
  | .str i :: r => (strsD r).map (i :: ·)
  | _ :: _ => none
def blsD : List D → Option (List Bool)
  | [] => some []
  | .bl i :: r => (blsD r).map (i :: ·)
  | _ :: _ => none
def maxL : List Int → Option Int
  | [] => none
  | i :: r => some (r.foldl max i)
def minL : List Int → Option Int
  | [] => none
  | i :: r => some (r.foldl min i)
def tyName (x : D) (S : Sto) : Option String :=
  match x with
  | .non => some "NoneType" | .bl _ => some "bool" | .int _ => some "int" | .str _ => some "str" | .tup _ => some "tuple" | .rl _ => some "list" | .rd _ => some "dict"
  | .loc a => match S[a]? with | some (.lst _) => some "list" | some (.dk _) => some "dict" | some (.dt _) => some "dict" | some (.fk _) => some "dict" | _ => none
  | _ => none
/-- built-ins, by their names -/
inductive BI where
  | len | int_ | str_ | abs_ | max1 | max2 | min1 | min2 | sum_ | all_ | any_ | list_ | tuple_ | isi | dict_ | ord_ | repr_
  deriving DecidableEq
def BI.name : BI → Str
  | .len => "len" | .int_ => "int" | .str_ => "str" | .abs_ => "abs" | .max1 => "max" | .max2 => "max" | .min1 => "min" | .min2 => "min" | .sum_ => "sum" | .all_ => "all" | .any_ => "any"
  | .list_ => "list" | .tuple_ => "tuple" | .isi => "isinstance" | .dict_ => "dict" | .ord_ => "ord" | .repr_ => "repr"
def biSem (b : BI) (ds : List D) (S : Sto) : Option (D × Sto) :=
  match b, ds with
  | .len, [.str x] => if x.length ≤ sizeLine then some (.int x.length, S) else none
  | .len, [.loc a] => match S[a]? with
    | some (.lst xs) => some (.int xs.length, S)
    | some (.dk kvs) => some (.int kvs.length, S)
    | _ => none
  | .len, [.tup xs] => some (.int xs.length, S)
  | .len, [.rl xs] => some (.int xs.length, S)
  | .int_, [.int i] => some (.int i, S)
  | .int_, [.bl b] => some (.int (if b then 1 else 0), S)
  | .str_, [.int i] => if i.natAbs.log2 < 1920 then some (.str (toString i), S) else none
  | .abs_, [.int i] => some (.int (if i < 0 then -i else i), S)
  | .max2, [.int i, .int j] => some (.int (max i j), S)
  | .min2, [.int i, .int j] => some (.int (min i j), S)
  | .max1, [x] => ((listD x S).bind fun xs => (intsD xs).bind maxL).map fun i => (.int i, S)
  | .min1, [x] => ((listD x S).bind fun xs => (intsD xs).bind minL).map fun i => (.int i, S)
  | .sum_, [x] => ((listD x S).bind intsD).map fun ns => (.int ns.sum, S)
  | .all_, [x] => ((listD x S).bind blsD).map fun bs => (.bl (bs.all id), S)
  | .any_, [x] => ((listD x S).bind blsD).map fun bs => (.bl (bs.any id), S)
  | .list_, [x] => (seqD x S).map fun xs => (.loc S.length, S ++ [.lst xs])
  | .tuple_, [x] => (seqD x S).map fun xs => (.tup xs, S)
  | .dict_, [.loc a] => match S[a]? with
    | some (.dk kvs) => some (.loc S.length, S ++ [.dk kvs])
    | some (.fk kvs) => some (.loc S.length, S ++ [.dk kvs])
    | _ => none
  | .ord_, [.str z] => if z.length = 1 then some (.int (z.cps.getD 0 0 : Nat), S) else none
  | .repr_, [x] => match x with
    | .tup _ | .rl _ | .loc _ => (toR S 32 x).bind fun d => if d.showable = true ∧ d.depth ≤ 60 ∧ d.shown.length ≤ sizeLine then some (.str d.shown, S) else none
    | _ => none
  | .isi, [x, .ty n] => (tyName x S).bind fun t => (kitB t n).map fun b => (.bl b, S)
  | _, _ => none
/-- methods of built-in types -/
inductive BM where
  | append | extend | pop | reverse
  deriving DecidableEq
def BM.name : BM → Str
  | .append => "append" | .extend => "extend" | .pop => "pop" | .reverse => "reverse"
def bmSem (b : BM) (x : D) (ds : List D) (S : Sto) : Option (D × Sto) :=
  match x with
  | .loc a => match S[a]? with
    | some (.lst xs) => match b, ds with
      | .append, [d] => if xs.length < sizeLine then some (.non, S.set a (.lst (xs ++ [d]))) else none
      | .extend, [.loc c] => match S[c]? with
        | some (.lst ys) => if xs.length + ys.length ≤ sizeLine then some (.non, S.set a (.lst (xs ++ ys))) else none
        | _ => none
      | .pop, [] => xs[xs.length - 1]?.map fun d => (d, S.set a (.lst xs.dropLast))
      | .reverse, [] => some (.non, S.set a (.lst xs.reverse))
      | _, _ => none
    | _ => none
  | _ => none
/-- o[i] = d -/
def setSem (x y d : D) (S : Sto) : Option Sto :=
  match x with
  | .loc a => match S[a]?, y with
    | some (.lst xs), .int i => (ixN xs.length i).map fun j => S.set a (.lst (xs.set j d))
    | some (.dk kvs), .int i => if kvs.length < sizeLine then some (S.set a (.dk (putD kvs (.inl i) d))) else none
    | some (.dk kvs), .str z => if kvs.length < sizeLine then some (S.set a (.dk (putD kvs (.inr z) d))) else none
    | _, _ => none
  | _ => none
def putA (f : Str) (d : D) : List (Str × D) → List (Str × D)
  | [] => [(f, d)]
  | (g, x) :: r => if g = f then (g, d) :: r else (g, x) :: putA f d r
/-- o.f -/
def fldSem (x : D) (c : Nat) (f : Str) (S : Sto) : Option D :=
  match x with
  | .loc a => match S[a]? with
    | some (.ins c' fs) => if c' = c then fs.lookup f else none
    | _ => none
  | _ => none
/-- o.f = d -/
def putSem (x : D) (c : Nat) (f : Str) (d : D) (S : Sto) : Option Sto :=
  match x with
  | .loc a => match S[a]? with
    | some (.ins c' fs) => if c' = c ∧ fs.length < 1000 then some (S.set a (.ins c (putA f d fs))) else none
    | _ => none
  | _ => none
/-! ### the language -/
inductive Lit where
  | non | bl (b : Bool) | int (i : Int) | str (x : Str)
  deriving DecidableEq
def Lit.d : Lit → D
  | .non => .non | .bl b => .bl b | .int i => .int i | .str x => .str x
inductive Tg where
  | nm (i : Nat) | tp (is : List Nat)
  deriving DecidableEq
mutual
inductive Ex where
  | cst (l : Lit) | var (i : Nat) | glo (x : Str) | bty (n : String)
  | bin (o : Operator) (a b : Ex) | neg (a : Ex) | cmp (o : CmpOp) (a b : Ex) | chn (o o' : CmpOp) (a b c : Ex)
  | and_ (a b : Ex) | or_ (a b : Ex) | not_ (a : Ex) | ite (c a b : Ex)
  | fld (c : Nat) (o : Ex) (f : Str) | ix (o i : Ex) | sl (o : Ex) (lo hi : Ox)
  | tup (es : Exs) | lst (es : Exs) | dct0 (t : Bool)
  | cal (j : Nat) (es : Exs) | mk (c j : Nat) (es : Exs) | mth (c j : Nat) (o : Ex) (m : Str) (es : Exs) | bi (b : BI) (es : Exs) | bm (b : BM) (o : Ex) (es : Exs)
  | lc (own : List (Str × Nat)) (tg : Tg) (it : Ir) (ifs : Exs) (elt : Ex)
  | lrg (a b : Ex)
  | dctK (ks : List Str) (es : Exs) | calV (js : List Nat) (i : Nat) (es : Exs) | dget1 (o k : Ex) | dget2 (o k d : Ex) | dpop2 (o k d : Ex) | rev (e : Ex) | join (o e : Ex)
  | calK (j n : Nat) (ks : List Str) (pm : List Nat) (es kes : Exs) | mthK (c j : Nat) (o : Ex) (m : Str) (n : Nat) (ks : List Str) (pm : List Nat) (es kes : Exs)
  | dct1 (k e : Ex)
inductive Exs where
  | nil | cons (e : Ex) (es : Exs)
inductive Ox where
  | no | so (e : Ex)
inductive Ir where
  | ex (e : Ex) | rng1 (e : Ex) | rng2 (a b : Ex) | enum (e : Ex)
end
mutual
inductive Sm where
  | set (i : Nat) (e : Ex) | setT (is : List Nat) (e : Ex) | par (i j : Nat) (a b : Ex)
  | fld (c : Nat) (o : Ex) (f : Str) (e : Ex) | sub (o i e : Ex) | aug (i : Nat) (o : Operator) (e : Ex)
  | exp (e : Ex) | ret (e : Ex) | retN | ite (c : Ex) (a b : Sms) | whl (c : Ex) (b : Sms) | for_ (tg : Tg) (it : Ir) (b : Sms) | pass | brk | cnt
  | rai (c : Nat) (x : Str)
  | raiF (c : Nat) (x f : Str) (e : Ex) | raiF0 (c : Nat) (x f : Str) | try1 (b : Sms) (c : Nat) (x : Str) (i : Nat) (f : Str) (lit : Str) | forK (i v : Nat) (b : Sms) | sub2 (o1 i1 o2 i2 a b : Ex) | par3 (i j l : Nat) (a b c : Ex) | sub3 (o1 i1 o2 i2 o3 i3 a b c : Ex)
inductive Sms where
  | nil | cons (s : Sm) (ss : Sms)
end
/-! ### what a text does -/
inductive Out (α : Type) where
  | ok (a : α) (S : Sto) | err (c : Nat) (fs : Option (List (Str × D))) (S : Sto) | bad
def Out.bind {α β : Type} (x : Out α) (f : α → Sto → Out β) : Out β := match x with | .ok a S => f a S | .err c fs S => .err c fs S | .bad => .bad
def Out.of {α : Type} : Option (α × Sto) → Out α | some (a, S) => .ok a S | none => .bad
def Out.at {α : Type} (S : Sto) : Option α → Out α | some a => .ok a S | none => .bad
abbrev Sl := List (Option D)
inductive Walk where
  | vs (xs : List D) | li (a : Nat) | rng (lo : Int) (n : Nat) | en (w : Walk)
def wgo : Walk → Nat → Sto → Option (Option D)
  | .vs xs, i, _ => some xs[i]?
  | .li a, i, S => match S[a]? with | some (.lst xs) => some xs[i]? | _ => none
  | .rng lo n, i, _ => some (if i < n then some (.int (lo + i)) else none)
  | .en w, i, S => (wgo w i S).map fun o => o.map fun d => .tup [.int i, d]
def wlen : Walk → Sto → Nat
  | .vs xs, _ => xs.length
  | .li a, S => match S[a]? with | some (.lst xs) => xs.length | _ => 0
  | .rng _ n, _ => n
  | .en w, S => wlen w S
def wipeD (σ : Sl) : List Nat → Sl
  | [] => σ
  | v :: vs => (wipeD σ vs).set v none
def setTs : List Nat → List D → Sl → Option Sl
  | [], [], σ => some σ
  | i :: is, d :: ds, σ => setTs is ds (σ.set i (some d))
  | _, _, _ => none
def setTg : Tg → D → Sl → Option Sl
  | .nm i, d, σ => some (σ.set i (some d))
  | .tp is, .tup ds, σ => setTs is ds σ
  | .tp _, _, _ => none
/-- a comprehension's loop: k turns at most from turn i on -/
def lcLoop (w : Walk) (tg : Tg) (σ : Sl) (n : Nat) (test : Sl → Sto → Out Bool) (elt : Sl → Sto → Out D) : Nat → Nat → Sto → Out Unit
  | 0, i, S => match wgo w i S with | some none => .ok () S | _ => .bad
  | k + 1, i, S => match wgo w i S with
    | some none => .ok () S
    | none => .bad
    | some (some d) => match setTg tg d σ with
      | none => .bad
      | some σ' => match test σ' S with
        | .ok false S1 => lcLoop w tg σ n test elt k (i + 1) S1
        | .ok true S1 => match elt σ' S1 with
          | .ok v S2 => match S2[n]? with
            | some (.lst acc) => if acc.length < sizeLine then lcLoop w tg σ n test elt k (i + 1) (S2.set n (.lst (acc ++ [v]))) else .bad
            | _ => .bad
          | _ => .bad
        | _ => .bad
structure Pg where
  glo : Str → Option D
section
variable (P : Pg) (C : Nat → List D → Sto → Out D)
def walkOf (x : D) (S : Sto) : Option Walk :=
  match x with
  | .tup xs => some (.vs xs)
  | .rl xs => some (.vs xs)
  | .str z => some (.vs (charsD z))
  | .rd kvs => some (.vs ((kvs.map (·.1)).map D.str))
  | .loc a => match S[a]? with | some (.lst _) => some (.li a) | _ => none
  | _ => none
def walkL (x : D) (S : Sto) : Option Walk :=
  match x with
  | .tup xs => some (.vs xs)
  | .rl xs => some (.vs xs)
  | .loc a => match S[a]? with | some (.lst _) => some (.li a) | _ => none
  | _ => none
def rngOk (lo hi : Int) : Bool := decide (-(2 ^ 62) ≤ lo ∧ lo < 2 ^ 62 ∧ -(2 ^ 62) ≤ hi ∧ hi < 2 ^ 62)
def lrgOk (lo hi : Int) : Bool := decide (-(2 ^ 62) ≤ lo ∧ lo < 2 ^ 62 ∧ -(2 ^ 62) ≤ hi ∧ hi < 2 ^ 62 ∧ (hi - lo).toNat ≤ 2 ^ 24)
/-- the ints lo .. hi - 1 -/
def lrgD (lo hi : Int) : List D := (List.range (hi - lo).toNat).map fun i => D.int (lo + (i : Nat))
def cutOf (o : D) (S : Sto) : Out (Option Int) := match o with | .int i => .ok (some i) S | _ => .bad
def fin (b : Bool) (o : Out D) : Out D := if b = true then o.bind fun d S => .at S ((truSem d S).map D.bl) else o
def tstO (o : Out D) : Out Bool := o.bind fun d S => match d with | .bl t => .ok t S | _ => .bad
mutual
/-- b: as a test (whose answer is a bl), or as a value -/
def de : Ex → Bool → Sl → Sto → Out D
  | .cst l, b, _, S => fin b (.ok l.d S)
  | .var i, b, σ, S => fin b (match σ[i]? with | some (some d) => .ok d S | _ => .bad)
  | .glo x, b, _, S => fin b (match P.glo x with | some d => .ok d S | none => .bad)
  | .bty n, b, _, S => fin b (.ok (.ty n) S)
  | .bin o a c, b, σ, S => fin b ((de a false σ S).bind fun x S => (de c false σ S).bind fun y S => .of (opSem o x y S))
  | .neg a, b, σ, S => fin b ((de a false σ S).bind fun x S => match x with | .int i => .ok (.int (-i)) S | _ => .bad)
  | .cmp o a c, _, σ, S => (de a false σ S).bind fun x S => (de c false σ S).bind fun y S => .at S ((cmpSem o x y S).map D.bl)
  | .chn o o' a c e, _, σ, S => (de a false σ S).bind fun x S => (de c false σ S).bind fun y S => match cmpSem o x y S with
    | some true => (de e false σ S).bind fun z S => .at S ((cmpSem o' y z S).map D.bl)
    | some false => .ok (.bl false) S
    | none => .bad
  | .and_ a c, b, σ, S => (de a b σ S).bind fun x S => match truSem x S with | some true => de c b σ S | some false => .ok x S | none => .bad
  | .or_ a c, b, σ, S => (de a b σ S).bind fun x S => match truSem x S with | some true => .ok x S | some false => de c b σ S | none => .bad
  | .not_ a, b, σ, S => (de a b σ S).bind fun x S => .at S ((truSem x S).map fun b => D.bl (!b))
  | .ite t a c, b, σ, S => (tstO (de t true σ S)).bind fun t S => if t = true then de a b σ S else de c b σ S
  | .fld c o f, b, σ, S => fin b ((de o false σ S).bind fun x S => .at S (fldSem x c f S))
  | .ix o i, b, σ, S => fin b ((de o false σ S).bind fun x S => (de i false σ S).bind fun y S => .at S (itemSem x y S))
  | .sl o lo hi, b, σ, S => fin b ((de o false σ S).bind fun x S => (deO lo σ S).bind fun l S => (deO hi σ S).bind fun h S => .of (sliceSem x l h S))
  | .tup es, b, σ, S => fin b ((des es σ S).bind fun ds S => if ds.length ≤ sizeLine then .ok (.tup ds) S else .bad)
  | .lst es, b, σ, S => fin b ((des es σ S).bind fun ds S => if ds.length ≤ sizeLine then .ok (.loc S.length) (S ++ [.lst ds]) else .bad)
  | .dct0 t, b, _, S => fin b (.ok (.loc S.length) (S ++ [if t = true then .dt [] else .dk []]))
  | .cal j es, b, σ, S => fin b ((des es σ S).bind fun ds S => C j ds S)
  | .mk c j es, b, σ, S => fin b ((des es σ S).bind fun ds S => (C j (.loc S.length :: ds) (S ++ [.ins c []])).bind fun r S' => match r with | .non => .ok (.loc S.length) S' | _ => .bad)
  | .mth c j o m es, b, σ, S => fin b ((de o false σ S).bind fun x S => match x with
    | .loc a => match S[a]? with
      | some (.ins c' fs) => if c' = c ∧ fs.lookup m = none then (des es σ S).bind fun ds S => C j (x :: ds) S else .bad
      | _ => .bad
    | _ => .bad)
  | .bi f es, b, σ, S => fin b ((des es σ S).bind fun ds S => .of (biSem f ds S))
  | .bm f o es, b, σ, S => fin b ((de o false σ S).bind fun x S => match x with
    | .loc a => match S[a]? with
      | some (.lst _) => (des es σ S).bind fun ds S => .of (bmSem f x ds S)
      | _ => .bad
    | _ => .bad)
  | .lc own tg it ifs elt, b, σ, S => fin b ((deI it σ S).bind fun w S =>
      (lcLoop w tg (wipeD σ (own.map (·.2))) S.length (fun σ S => deT ifs σ S) (fun σ S => de elt false σ S) (wlen w S) 0 (S ++ [.lst []])).bind fun _ S' => .ok (.loc S.length) S')
  | .lrg a c, b, σ, S => fin b ((de a false σ S).bind fun x S => (de c false σ S).bind fun y S => match x, y with
    | .int i, .int j => if lrgOk i j = true then .ok (.loc S.length) (S ++ [.lst (lrgD i j)]) else .bad
    | _, _ => .bad)
  | .dctK ks es, b, σ, S => fin b ((des es σ (S ++ [.dk []])).bind fun ds S2 => match S2[S.length]? with
    | some (.dk []) => if ds.length = ks.length ∧ ks.length ≤ 15 then .ok (.loc S.length) (S2.set S.length (.dk (mergeD [] ((ks.map Sum.inr).zip ds)))) else .bad
    | _ => .bad)
  | .calV js i es, b, σ, S => fin b (match σ[i]? with
    | some (some (.fn j)) => if j ∈ js then (des es σ S).bind fun ds S => C j ds S else .bad
    | _ => .bad)
  | .dget1 o k, b, σ, S => fin b ((de o false σ S).bind fun x S => match x with
    | .loc a => match S[a]? with
      | some c => if isDk c = true then (de k false σ S).bind fun y S => match S[a]? with
          | some c => .at S ((dictAt c y).map fun o => o.getD .non)
          | none => .bad
        else .bad
      | none => .bad
    | _ => .bad)
  | .dget2 o k d, b, σ, S => fin b ((de o false σ S).bind fun x S => match x with
    | .loc a => match S[a]? with
      | some c => if isDk c = true then (de k false σ S).bind fun y S => (de d false σ S).bind fun z S => match S[a]? with
          | some c => .at S ((dictAt c y).map fun o => o.getD z)
          | none => .bad
        else .bad
      | none => .bad
    | _ => .bad)
  | .dpop2 o k d, b, σ, S => fin b ((de o false σ S).bind fun x S => match x with
    | .loc a => match S[a]? with
      | some c => if isDk c = true then (de k false σ S).bind fun y S => (de d false σ S).bind fun z S => match S[a]?, keyD y with
          | some (.dk kvs), some key => match lookK kvs key with
            | some v => .ok v (S.set a (.dk (dropD kvs key)))
            | none => .ok z S
          | _, _ => .bad
        else .bad
      | none => .bad
    | _ => .bad)
  | .rev e, b, σ, S => fin b ((de e false σ S).bind fun x S => match listD x S with
    | some xs => .ok (.loc S.length) (S ++ [.lst xs.reverse])
    | none => .bad)
  | .join o e, b, σ, S => fin b ((de o false σ S).bind fun x S => match x with
    | .str z => (de e false σ S).bind fun y S => match (seqD y S).bind strsD with
      | some ys => if (ys.map (·.length)).sum + ys.length * z.length ≤ 16777216 then .ok (.str (Txt.join z ys)) S else .bad
      | none => .bad
    | _ => .bad)
  | .calK j n ks pm es kes, b, σ, S => fin b ((des es σ S).bind fun ds S => (des kes σ S).bind fun zs S => if ds.length = n ∧ zs.length = ks.length then C j (pmL pm (ds ++ zs)) S else .bad)
  | .mthK c j o m n ks pm es kes, b, σ, S => fin b ((de o false σ S).bind fun x S => match x with
    | .loc a => match S[a]? with
      | some (.ins c' fs) => if c' = c ∧ fs.lookup m = none then (des es σ S).bind fun ds S => (des kes σ S).bind fun zs S => if ds.length + 1 = n ∧ zs.length = ks.length then C j (pmL pm (x :: ds ++ zs)) S else .bad else .bad
      | _ => .bad
    | _ => .bad)
  | .dct1 k e, b, σ, S => fin b ((de k false σ (S ++ [.dk []])).bind fun x S1 => (de e false σ S1).bind fun y S2 => match S2[S.length]?, keyD x with
    | some (.dk []), some key => .ok (.loc S.length) (S2.set S.length (.dk [(key, y)]))
    | _, _ => .bad)
def des : Exs → Sl → Sto → Out (List D)
  | .nil, _, S => .ok [] S
  | .cons e es, σ, S => (de e false σ S).bind fun d S => (des es σ S).bind fun ds S => .ok (d :: ds) S
/-- the tests of a comprehension: none or one -/
def deT : Exs → Sl → Sto → Out Bool
  | .nil, _, S => .ok true S
  | .cons e .nil, σ, S => tstO (de e true σ S)
  | .cons _ (.cons _ _), _, _ => .bad
def deO : Ox → Sl → Sto → Out (Option Int)
  | .no, _, S => .ok none S
  | .so e, σ, S => (de e false σ S).bind fun d S => cutOf d S
def deI : Ir → Sl → Sto → Out Walk
  | .ex e, σ, S => (de e false σ S).bind fun x S => .at S (walkOf x S)
  | .rng1 e, σ, S => (de e false σ S).bind fun x S => match x with | .int j => if rngOk 0 j = true then .ok (.rng 0 j.toNat) S else .bad | _ => .bad
  | .rng2 a c, σ, S => (de a false σ S).bind fun x S => (de c false σ S).bind fun y S => match x, y with
    | .int i, .int j => if rngOk i j = true then .ok (.rng i (j - i).toNat) S else .bad
    | _, _ => .bad
  | .enum e, σ, S => (de e false σ S).bind fun x S => match walkL x S with | some w => .ok (.en w) S | none => .bad
end
/-! ### statements -/
inductive OutS where
  | nx (σ : Sl) (S : Sto) | rt (d : D) (S : Sto) | bk (σ : Sl) (S : Sto) | ct (σ : Sl) (S : Sto) | err (c : Nat) (fs : Option (List (Str × D))) (σ : Sl) (S : Sto) | bad
def Out.thn {α : Type} (x : Out α) (σ : Sl) (f : α → Sto → OutS) : OutS := match x with | .ok a S => f a S | .err c fs S => .err c fs σ S | .bad => .bad
def OutS.nxt (x : OutS) (f : Sl → Sto → OutS) : OutS := match x with | .nx σ S => f σ S | x => x
/-- a while, n tests at most -/
def whlN (t : Sl → Sto → Out Bool) (b : Sl → Sto → OutS) : Nat → Sl → Sto → OutS
  | 0, _, _ => .bad
  | n + 1, σ, S => (t σ S).thn σ fun k S1 => if k = true then match b σ S1 with
      | .nx σ' S' => whlN t b n σ' S'
      | .ct σ' S' => whlN t b n σ' S'
      | .bk σ' S' => .nx σ' S'
      | x => x
    else .nx σ S1
open Classical in
noncomputable def whl (t : Sl → Sto → Out Bool) (b : Sl → Sto → OutS) (σ : Sl) (S : Sto) : OutS :=
  if h : ∃ n, whlN t b n σ S ≠ .bad then whlN t b (choose h) σ S else .bad
def forN (w : Walk) (tg : Tg) (b : Sl → Sto → OutS) : Nat → Nat → Sl → Sto → OutS
  | 0, i, σ, S => match wgo w i S with | some none => .nx σ S | _ => .bad
  | k + 1, i, σ, S => match wgo w i S with
    | some none => .nx σ S
    | none => .bad
    | some (some d) => match setTg tg d σ with
      | none => .bad
      | some σ' => match b σ' S with
        | .nx σ' S' => forN w tg b k (i + 1) σ' S'
        | .ct σ' S' => forN w tg b k (i + 1) σ' S'
        | .bk σ' S' => .nx σ' S'
        | x => x
def keyD' : Key → D
  | .inl i => .int i
  | .inr x => .str x
/-- behind the walk over a dict -/
def unfk (a : Nat) (kvs : List (Key × D)) (o : OutS) : OutS :=
  match o with
  | .nx σ S => match S[a]? with | some (.fk _) => .nx σ (S.set a (.dk kvs)) | _ => .bad
  | .rt d S => match S[a]? with | some (.fk _) => .rt d (S.set a (.dk kvs)) | _ => .bad
  | _ => .bad
mutual
noncomputable def dS : Sm → Sl → Sto → OutS
  | .set i e, σ, S => (de P C e false σ S).thn σ fun d S => .nx (σ.set i (some d)) S
  | .setT is e, σ, S => (de P C e false σ S).thn σ fun d S => match setTg (.tp is) d σ with | some σ' => .nx σ' S | none => .bad
  | .par i j a b, σ, S => (de P C a false σ S).thn σ fun x S => (de P C b false σ S).thn σ fun y S => .nx ((σ.set i (some x)).set j (some y)) S
  | .fld c o f e, σ, S => (de P C e false σ S).thn σ fun d S => (de P C o false σ S).thn σ fun x S => match putSem x c f d S with | some S' => .nx σ S' | none => .bad
  | .sub o i e, σ, S => (de P C e false σ S).thn σ fun d S => (de P C o false σ S).thn σ fun x S => (de P C i false σ S).thn σ fun y S => match setSem x y d S with | some S' => .nx σ S' | none => .bad
  | .aug i o e, σ, S => match σ[i]? with
    | some (some x) => (de P C e false σ S).thn σ fun y S => match x, y, o with
      | .int a, .int b, .Add => .nx (σ.set i (some (.int (a + b)))) S
      | .int a, .int b, .Sub => .nx (σ.set i (some (.int (a - b)))) S
      | _, _, _ => .bad
    | _ => .bad
  | .exp e, σ, S => (de P C e false σ S).thn σ fun _ S => .nx σ S
  | .ret e, σ, S => (de P C e false σ S).thn σ fun d S => .rt d S
  | .retN, _, S => .rt .non S
  | .ite c a b, σ, S => (tstO (de P C c true σ S)).thn σ fun t S => if t = true then dSs a σ S else dSs b σ S
  | .whl c b, σ, S => whl (fun σ S => tstO (de P C c true σ S)) (fun σ S => dSs b σ S) σ S
  | .for_ tg it b, σ, S => (deI P C it σ S).thn σ fun w S => forN w tg (fun σ S => dSs b σ S) (wlen w S) 0 σ S
  | .pass, σ, S => .nx σ S
  | .brk, σ, S => .bk σ S
  | .cnt, σ, S => .ct σ S
  | .rai c _, σ, S => .err c none σ S
  | .raiF c _ f e, σ, S => (de P C e false σ S).thn σ fun d S => .err c (some [(f, d)]) σ S
  | .raiF0 c _ f, σ, S => .err c (some [(f, .non)]) σ S
  | .try1 b c _ _ f lit, σ, S => match dSs b σ S with
    | .err c' fs _ S' => if c' = c then (match fs with
      | some l => match l.lookup f with
        | some d => .rt (.tup [.str lit, d]) S'
        | none => .bad
      | none => .bad) else .bad
    | x => x
  | .forK i v b, σ, S => match σ[v]? with
    | some (some (.loc a)) => match S[a]? with
      | some (.dk kvs) => unfk a kvs (forN (.vs (kvs.map fun kv => keyD' kv.1)) (.nm i) (fun σ S => dSs b σ S) kvs.length 0 σ (S.set a (.fk kvs)))
      | _ => .bad
    | _ => .bad
  | .sub2 o1 i1 o2 i2 e1 e2, σ, S => (de P C e1 false σ S).thn σ fun d1 S => (de P C e2 false σ S).thn σ fun d2 S => (de P C o1 false σ S).thn σ fun x1 S => (de P C i1 false σ S).thn σ fun y1 S => match setSem x1 y1 d1 S with
    | some S => (de P C o2 false σ S).thn σ fun x2 S => (de P C i2 false σ S).thn σ fun y2 S => match setSem x2 y2 d2 S with | some S => .nx σ S | none => .bad
    | none => .bad
  | .par3 i j l a b c, σ, S => (de P C a false σ S).thn σ fun x S => (de P C b false σ S).thn σ fun y S => (de P C c false σ S).thn σ fun z S => .nx (((σ.set i (some x)).set j (some y)).set l (some z)) S
  | .sub3 o1 i1 o2 i2 o3 i3 e1 e2 e3, σ, S => (de P C e1 false σ S).thn σ fun d1 S => (de P C e2 false σ S).thn σ fun d2 S => (de P C e3 false σ S).thn σ fun d3 S => (de P C o1 false σ S).thn σ fun x1 S => (de P C i1 false σ S).thn σ fun y1 S => match setSem x1 y1 d1 S with
    | some S => (de P C o2 false σ S).thn σ fun x2 S => (de P C i2 false σ S).thn σ fun y2 S => match setSem x2 y2 d2 S with
      | some S => (de P C o3 false σ S).thn σ fun x3 S => (de P C i3 false σ S).thn σ fun y3 S => match setSem x3 y3 d3 S with | some S => .nx σ S | none => .bad
      | none => .bad
    | none => .bad
noncomputable def dSs : Sms → Sl → Sto → OutS
  | .nil, σ, S => .nx σ S
  | .cons s ss, σ, S => (dS s σ S).nxt fun σ S => dSs ss σ S
end
end
end DI

set_option Elab.async false
set_option linter.all false
set_option maxRecDepth 100000
set_option maxHeartbeats 4000000
/-! == of a plain value and a dict: never equal. -/
namespace DI
open PySem PySem.Calls PySem.SeqAt MeetsSeq
open AutoSeq1 (wpAny_loadPart')
/-- what a dict's own == says of a plain value -/
theorem dict_no {l : Addr} {x : Value} {cls : Value} {dd : Option Addr} {es : Array DictEntry} {ep : Nat} {sl : Array (Option Value)} (hx : x = .none ∨ (∃ b, x = .bool b) ∨ (∃ i t, x = .int i t) ∨ ∃ z t, x = .str z t) :
    Meets (Builtin.«dict.__eq__» ⟨[.ref l, x], []⟩) (fun _ R s => s.heap.get? l = some { cls := .type "dict", dict := dd, data := .dict es ep, slots := sl } ∧ R (.ok (.ret .notImplemented)) s) := by
  refine .of_wp fun prog w A R s h => ?_
  obtain ⟨hp, g, d, tk, os⟩ := s
  obtain ⟨hl, h⟩ := h
  have f1 := F.sub_NoneType_dict
  have f2 := F.sub_bool_dict
  have f3 := F.sub_int_dict
  have f4 := F.sub_str_dict
  rcases hx with rfl | ⟨b, rfl⟩ | ⟨i, t, rfl⟩ | ⟨z, t, rfl⟩
  · wp_walk using wpAny_loadPart' hl; exact ⟨_, rfl, h⟩
  · wp_walk using wpAny_loadPart' hl; exact ⟨_, rfl, h⟩
  · wp_walk using wpAny_loadPart' hl; exact ⟨_, rfl, h⟩
  · wp_walk using wpAny_loadPart' hl; exact ⟨_, rfl, h⟩
theorem int_no {l : Addr} {x : Value} {dd : Option Addr} {es : Array DictEntry} {ep : Nat} {sl : Array (Option Value)} (hx : (∃ b, x = .bool b) ∨ (∃ i t, x = .int i t)) :
    Meets (Builtin.«int.__eq__» ⟨[x, .ref l], []⟩) (fun _ R s => s.heap.get? l = some { cls := .type "dict", dict := dd, data := .dict es ep, slots := sl } ∧ R (.ok (.ret .notImplemented)) s) := by
  refine .of_wp fun prog w A R s h => ?_
  obtain ⟨hp, g, d, tk, os⟩ := s
  obtain ⟨hl, h⟩ := h
  rcases hx with ⟨b, rfl⟩ | ⟨i, t, rfl⟩
  · wp_walk using wpAny_loadPart' hl, wpAny_load hl; exact ⟨_, rfl, h⟩
  · wp_walk using wpAny_loadPart' hl, wpAny_load hl; exact ⟨_, rfl, h⟩
theorem str_no {l : Addr} {z : Str} {t : Tok} {dd : Option Addr} {es : Array DictEntry} {ep : Nat} {sl : Array (Option Value)} :
    Meets (Builtin.«str.__eq__» ⟨[.str z t, .ref l], []⟩) (fun _ R s => s.heap.get? l = some { cls := .type "dict", dict := dd, data := .dict es ep, slots := sl } ∧ R (.ok (.ret .notImplemented)) s) := by
  refine .of_wp fun prog w A R s h => ?_
  obtain ⟨hp, g, d, tk, os⟩ := s
  obtain ⟨hl, h⟩ := h
  wp_walk using wpAny_loadPart' hl, wpAny_load hl; exact ⟨_, rfl, h⟩
section
variable {A : Around} {s : Shared}
theorem rc_dict {l : Addr} {x : Value} {o : Obj} {es : Array DictEntry} {ep : Nat} (ho : s.heap.get? l = some o) (hc : o.cls = .type "dict") (hd : o.data = .dict es ep) (hu : A.units < cLine)
    (hx : x = .none ∨ (∃ b, x = .bool b) ∨ (∃ i t, x = .int i t) ∨ ∃ z t, x = .str z t) : RcAt A s x (.ref l) false := fun prog w E Q h => by
  obtain ⟨cls, dd, data, sl⟩ := o
  simp only at hc hd
  subst hc hd
  have hdn := dict_no (l := l) (x := x) (cls := .none) (dd := dd) (es := es) (ep := ep) (sl := sl) hx
  rcases hx with rfl | ⟨b, rfl⟩ | ⟨i, t, rfl⟩ | ⟨z, t, rfl⟩
  · exact rc_eq_decline_or (k := false) rfl ⟨_, ho, rfl⟩ (by decide) F.sub_dict_NoneType F.slot_NoneType_eq F.slot_dict_eq_refl
      (fun _ hq => call_gives F.slot_NoneType_eq rfl F.entry_NoneType_eq (F.args_NoneType_eq_2 _ _) (NoneType___eq___none_ref_0 l) hq)
      (fun _ hq => call_meets F.slot_dict_eq_refl ⟨_, ho, rfl⟩ F.entry_dict_eq (F.args_dict_eq_2 _ _) hdn ⟨ho, hq⟩)
      (fun _ hq => wpAny_of_eq (rfl : isSame .none (.ref l) = pure false) hq) (.inr hu) h
  · exact rc_eq_decline_or (k := false) rfl ⟨_, ho, rfl⟩ (by decide) F.sub_dict_bool F.slot_bool_eq F.slot_dict_eq_refl
      (fun _ hq => call_meets F.slot_bool_eq rfl F.entry_int_eq (F.args_int_eq_2 _ _) (int_no (l := l) (.inl ⟨b, rfl⟩)) ⟨ho, hq⟩)
      (fun _ hq => call_meets F.slot_dict_eq_refl ⟨_, ho, rfl⟩ F.entry_dict_eq (F.args_dict_eq_2 _ _) hdn ⟨ho, hq⟩)
      (fun _ hq => wpAny_of_eq (rfl : isSame (.bool b) (.ref l) = pure false) hq) (.inr hu) h
  · exact rc_eq_decline_or (k := false) (typeIs_int s i t) ⟨_, ho, rfl⟩ (by decide) F.sub_dict_int F.slot_int_eq F.slot_dict_eq_refl
      (fun _ hq => call_meets F.slot_int_eq (typeIs_int s i t) F.entry_int_eq (F.args_int_eq_2 _ _) (int_no (l := l) (.inr ⟨i, t, rfl⟩)) ⟨ho, hq⟩)
      (fun _ hq => call_meets F.slot_dict_eq_refl ⟨_, ho, rfl⟩ F.entry_dict_eq (F.args_dict_eq_2 _ _) hdn ⟨ho, hq⟩)
      (fun _ hq => wpAny_of_eq (rfl : isSame (.int i t) (.ref l) = pure false) hq) (.inr hu) h
  · exact rc_eq_decline_or (k := false) (typeIs_str s z t) ⟨_, ho, rfl⟩ (by decide) F.sub_dict_str F.slot_str_eq F.slot_dict_eq_refl
      (fun _ hq => call_meets F.slot_str_eq (typeIs_str s z t) F.entry_str_eq (F.args_str_eq_2 _ _) (str_no (l := l)) ⟨ho, hq⟩)
      (fun _ hq => call_meets F.slot_dict_eq_refl ⟨_, ho, rfl⟩ F.entry_dict_eq (F.args_dict_eq_2 _ _) hdn ⟨ho, hq⟩)
      (fun _ hq => wpAny_of_eq (rfl : isSame (.str z t) (.ref l) = pure false) hq) (.inr hu) h
end
open L2 PyProof.Rows
variable {X : Cx}
/-- a plain value == a dict -/
theorem op_eqFD (hu : X.A.units < cLine) : OpR X (compareOp .Eq) (fun x y H Q => flatV x = true ∧ (∃ a kvs, y = .ref a ∧ Rd H a (.dK kvs)) ∧ Q (.bl false) H) := by
  intro pins s σ H x y v u Q I rx ry h
  obtain ⟨hf, ⟨a, kvs, rfl, rd⟩, q⟩ := h
  obtain rfl : u = Value.ref a := ry
  have hx : v = .none ∨ (∃ b, v = .bool b) ∨ (∃ i t, v = .int i t) ∨ ∃ z t, v = .str z t := by
    cases x <;> first | cases hf | skip
    · cases rx; exact .inl rfl
    · cases rx; exact .inr (.inl ⟨_, rfl⟩)
    · obtain ⟨t, rfl⟩ := rx; exact .inr (.inr (.inl ⟨_, _, rfl⟩))
    · obtain ⟨t, rfl⟩ := rx; exact .inr (.inr (.inr ⟨_, _, rfl⟩))
  obtain ⟨_, _, vs, _, o, es, ep, ho, he, hd, _⟩ := dk_rd I.hok rd
  exact rc_dict ho he.1 hd hu hx X.prog X.w X.xe (EP X pins σ Q) ⟨.bl false, H, I, rfl, q⟩
end DI

set_option Elab.async false
set_option linter.all false
set_option maxRecDepth 100000
set_option maxHeartbeats 4000000
/-! Each operation of the model upon values that the heap bears: it gives what the language says. -/
namespace DI
open L2 PySem PySem.Spec PyProof.Rows

/-- what is wanted of a step that gives a value and a store -/
def PO (A : Ad) (m : List Addr) (H : Hp) (r : Option (D × Sto)) (Q : VK) : Prop :=
  match r with
  | some (d, S') => ∀ m' H' v, Ext A m H m' H' → Rep A m' S' H' → RepD A m' H' d v → Q v H'
  | none => False
def PB (r : Option Bool) (Q : Bool → Prop) : Prop := match r with | some b => Q b | none => False
def PD (A : Ad) (m : List Addr) (H : Hp) (r : Option D) (Q : VK) : Prop := match r with | some d => ∀ v, RepD A m H d v → Q v H | none => False
def rOp (A : Ad) (o : Operator) : R2 := fun x y H Q => ∃ m S dx dy, Rep A m S H ∧ RepD A m H dx x ∧ RepD A m H dy y ∧ PO A m H (opSem o dx dy S) Q
def rCmp (A : Ad) (o : CmpOp) : R2 := fun x y H Q => ∃ m S dx dy, Rep A m S H ∧ RepD A m H dx x ∧ RepD A m H dy y ∧ PB (cmpSem o dx dy S) fun b => Q (.bl b) H
def rItem (A : Ad) : R2 := fun x y H Q => ∃ m S dx dy, Rep A m S H ∧ RepD A m H dx x ∧ RepD A m H dy y ∧ PD A m H (itemSem dx dy S) Q
def rSlice (A : Ad) : V → Option Int → Option Int → Hp → VK → Prop := fun x lo hi H Q => ∃ m S dx, Rep A m S H ∧ RepD A m H dx x ∧ PO A m H (sliceSem dx lo hi S) Q
def rBi (A : Ad) (b : BI) : List V → Hp → VK → Prop := fun vs H Q => ∃ m S ds, Rep A m S H ∧ RepL A m H ds vs ∧ PO A m H (biSem b ds S) Q
def rBm (A : Ad) (b : BM) : V → List V → Hp → VK → Prop := fun x vs H Q => ∃ m S dx ds, Rep A m S H ∧ RepD A m H dx x ∧ RepL A m H ds vs ∧ PO A m H (bmSem b dx ds S) Q
def rSetI (A : Ad) : TSet := fun x y v H Q => ∃ m S dx dy d, Rep A m S H ∧ RepD A m H dx x ∧ RepD A m H dy y ∧ RepD A m H d v ∧
  match setSem dx dy d S with | some S' => ∀ m' H', Ext A m H m' H' → Rep A m' S' H' → Q H' | none => False

section
variable {X : Cx} {A : Ad} {m : List Addr} {S : Sto} {H : Hp} {p : Addr} {ds : List D} {vs : List V}
theorem newLst (R : Rep A m S H) (L : RepL A m H ds vs) (hp : H p = none) :
    Rep A (m ++ [p]) (S ++ [.lst ds]) (upd H p (.lst vs)) ∧ Ext A m H (m ++ [p]) (upd H p (.lst vs)) ∧ RepD A (m ++ [p]) (upd H p (.lst vs)) (.loc S.length) (.ref p) :=
  ⟨R.alloc hp (.lst upd_same (L.mono (Ext.new hp).more)), (Ext.new hp).more, .loc (by rw [← R.len, List.getElem?_append_right (Nat.le_refl _), Nat.sub_self] <;> rfl)⟩
theorem newDk {kvs : List (Key × D)} {ws : List (Key × V)} (R : Rep A m S H) (L : RepK A m H kvs ws) (hp : H p = none) :
    Rep A (m ++ [p]) (S ++ [.dk kvs]) (upd H p (.dK ws)) ∧ Ext A m H (m ++ [p]) (upd H p (.dK ws)) ∧ RepD A (m ++ [p]) (upd H p (.dK ws)) (.loc S.length) (.ref p) := by
  have e : Ext A m H (m ++ [p]) (upd H p (.dK ws)) := (Ext.new hp).more
  refine ⟨R.alloc hp (.dk upd_same (RepK.mono e L)), e, .loc ?_⟩
  rw [← R.len, List.getElem?_append_right (Nat.le_refl _), Nat.sub_self] <;> rfl
theorem newTup (R : Rep A m S H) (L : RepL A m H ds vs) (hp : H p = none) :
    Rep A m S (upd H p (.tup vs)) ∧ Ext A m H m (upd H p (.tup vs)) ∧ RepD A m (upd H p (.tup vs)) (.tup ds) (.ref p) :=
  ⟨R.new hp, Ext.new hp, .tup (SqT.of upd_same) (L.mono (Ext.new hp))⟩
theorem Rep.lst (R : Rep A m S H) {i : Nat} {xs : List D} (h : S[i]? = some (.lst xs)) : ∃ a vs, m[i]? = some a ∧ H a = some (.lst vs) ∧ RepL A m H xs vs := by
  obtain ⟨a, h1, h2⟩ := R.cell i _ h
  cases h2 with
  | lst e l => exact ⟨a, _, h1, e, l⟩
theorem Rep.fk (R : Rep A m S H) {i : Nat} {xs : List (Key × D)} (h : S[i]? = some (.fk xs)) : ∃ a od ws, m[i]? = some a ∧ H a = some (.frz od (.dK ws)) ∧ RepK A m H xs ws := by
  obtain ⟨a, h1, h2⟩ := R.cell i _ h
  cases h2 with
  | fk e l => exact ⟨a, _, _, h1, e, l⟩
theorem Rep.dk (R : Rep A m S H) {i : Nat} {xs : List (Key × D)} (h : S[i]? = some (.dk xs)) : ∃ a ws, m[i]? = some a ∧ H a = some (.dK ws) ∧ RepK A m H xs ws := by
  obtain ⟨a, h1, h2⟩ := R.cell i _ h
  cases h2 with
  | dk e l => exact ⟨a, _, h1, e, l⟩
theorem Rep.dt (R : Rep A m S H) {i : Nat} {xs : List (List Key × D)} (h : S[i]? = some (.dt xs)) : ∃ a ws, m[i]? = some a ∧ H a = some (.dT ws) ∧ RepK A m H xs ws := by
  obtain ⟨a, h1, h2⟩ := R.cell i _ h
  cases h2 with
  | dt e l => exact ⟨a, _, h1, e, l⟩
theorem Rep.ins (R : Rep A m S H) {i c : Nat} {fs : List (Str × D)} (h : S[i]? = some (.ins c fs)) : ∃ a dx ws, m[i]? = some a ∧ H a = some (.ins (A.cl c) dx ws) ∧ RepK A m H fs ws := by
  obtain ⟨a, h1, h2⟩ := R.cell i _ h
  cases h2 with
  | ins e l => exact ⟨a, _, _, h1, e, l⟩
/-- a list cell is written -/
theorem Rep.setLst (R : Rep A m S H) {i : Nat} {a : Addr} {ws : List V} (h1 : m[i]? = some a) (h2 : H a = some (.lst ws)) (L : RepL A m H ds vs) :
    Rep A m (S.set i (.lst ds)) (upd H a (.lst vs)) ∧ Ext A m H m (upd H a (.lst vs)) := by
  have e : Ext A m H m (upd H a (.lst vs)) := Ext.write h2 (fun _ z => by cases z) fun _ _ z => by cases z
  exact ⟨R.write h1 e (.lst upd_same (L.mono e)), e⟩
theorem RepK.length {κ : Type} : ∀ {kvs : List (κ × D)} {ws : List (κ × V)}, RepK A m H kvs ws → ws.length = kvs.length
  | _, _, .nil => rfl
  | _, _, .cons _ b => by rw [List.length_cons, List.length_cons, RepK.length b]
theorem RepL.cut (L : RepL A m H ds vs) (lo hi : Option Int) : RepL A m H (cutL ds lo hi) (cutV vs lo hi) := by
  unfold cutL cutV
  rw [L.length]
  exact (L.drop _).take _
theorem RepL.flat (L : RepL A m H ds vs) : ∀ k : Nat, RepL A m H (List.replicate k ds).flatten (List.replicate k vs).flatten
  | 0 => .nil
  | k + 1 => by rw [List.replicate_succ, List.replicate_succ, List.flatten_cons, List.flatten_cons]; exact L.app (RepL.flat L k)
theorem RepL.nil_iff (L : RepL A m H ds vs) : vs = [] ↔ ds = [] := by cases L <;> simp

theorem size_fold : ∀ (n : Nat) (b acc : Array Nat), ((List.replicate n b).foldl (· ++ ·) acc).size = acc.size + n * b.size
  | 0, b, acc => by simp
  | n + 1, b, acc => by
    rw [List.replicate_succ, List.foldl_cons, size_fold n b (acc ++ b), Array.size_append, Nat.succ_mul]
    omega
theorem rep_len (z : Str) (n : Nat) : (repS z n).length = n * z.length := by
  show ((List.replicate n z.cps).foldl (· ++ ·) #[]).size = _
  rw [size_fold]
  show 0 + n * z.cps.size = n * z.cps.size
  omega
/-- a text times a number -/
theorem op_mulS : OpR X (binaryOp .Mult) (fun x y H Q => ∃ z k, x = .str z ∧ y = .int k ∧ 0 ≤ k ∧ k ≤ 1000 ∧ 1 ≤ z.length ∧ z.length ≤ 1000 ∧ Q (.str (repS z k.toNat)) H) := by
  intro pz t τ HH x y v u Q J rx ry h
  obtain ⟨z, k, rfl, rfl, h1, h2, h3, h4, q⟩ := h
  obtain ⟨tv, rfl⟩ := rx
  obtain ⟨tu, rfl⟩ := ry
  have hlen : z.length * k.toNat ≤ 1000000 := by
    have : z.length * k.toNat ≤ 1000 * 1000 := Nat.mul_le_mul h4 (by omega)
    omega
  refine PySem.P.mul_str ?_ (fun c1 _ => ?_) (fun _ _ => ?_) ?_
  · rw [decide_eq_false (by omega), decide_eq_false (by omega)] <;> rfl
  · have g : (1000 : Int) ≤ (2 ^ 63 - 1) / k := by
      rw [Int.le_ediv_iff_mul_le (by omega)]
      omega
    omega
  · show decide (z.length * k.toNat > sizeLine) = false
    rw [sizeLine_eq]
    exact decide_eq_false (by omega)
  · by_cases c1 : k < 1
    · have hk : k = 0 := by omega
      subst hk
      rw [if_pos c1]
      exact ⟨by decide, .str (repS z 0), HH, J.tok _, ⟨_, rfl⟩, q⟩
    · rw [if_neg c1]
      by_cases c3 : k = 1
      · subst c3
        rw [if_pos (by simp)]
        have e : repS z (1 : Int).toNat = z := by
          show (⟨#[] ++ z.cps⟩ : Str) = z
          rw [Array.empty_append]
        rw [e] at q
        exact ⟨.str z, HH, J, ⟨_, rfl⟩, q⟩
      · have c2 : (k == 1 || z.length == 0) = false := by
          rw [Bool.or_eq_false_iff, beq_eq_false_iff_ne, beq_eq_false_iff_ne]
          omega
        rw [if_neg (by rw [c2]; decide)]
        refine ⟨?_, .str (repS z k.toNat), HH, J.tok _, ⟨_, rfl⟩, q⟩
        show (repS z k.toNat).length ≤ sizeLine
        rw [rep_len, sizeLine_eq, Nat.mul_comm]
        omega
theorem op_ok (hK : A.K = X.K) (o : Operator) : OpR X (binaryOp o) (rOp A o) := by
  intro pins s σ H x y v u Q I rx ry h
  obtain ⟨m, S, dx, dy, R, r1, r2, p⟩ := h
  cases o <;> (try exact (show False from p).elim) <;> cases dx <;> (try exact (show False from p).elim) <;> cases dy <;> (try exact (show False from p).elim)
  · cases r1; cases r2
    exact op_add pins s σ H _ _ v u Q I rx ry ⟨_, _, rfl, rfl, p m H _ Ext.refl R (.int _)⟩
  · cases r1; cases r2
    rename_i i j
    unfold opSem at p
    dsimp only at p
    split at p
    · exact op_add_str pins s σ H _ _ v u Q I rx ry ⟨_, _, rfl, rfl, by assumption, p m H _ Ext.refl R (.str _)⟩
    · exact p.elim
  · rename_i xs ys
    cases r1 with
    | tup t1 l1 =>
    cases r2 with
    | tup t2 l2 =>
    unfold opSem at p
    dsimp only at p
    split at p
    · refine op_catA pins s σ H _ _ v u Q I rx ry ⟨_, _, _, _, rfl, rfl, hK ▸ t1, hK ▸ t2, by rw [l1.length, l2.length]; assumption, fun e => ?_, fun _ e => ?_, fun _ _ q hq => ?_⟩
      · have e' := l1.nil_iff.mp e
        subst e'
        exact p m H _ Ext.refl R (.tup t2 l2)
      · have e' := l2.nil_iff.mp e
        subst e'
        refine p m H _ Ext.refl R ?_
        rw [List.append_nil]
        exact .tup t1 l1
      · obtain ⟨a, b, c⟩ := newTup R (l1.app l2) hq
        exact p m _ _ b a c
    · exact p.elim
  · rename_i a b
    cases r1 with
    | loc e1 =>
    cases r2 with
    | loc e2 =>
    unfold opSem at p
    dsimp only at p
    split at p
    · rename_i xs ys h1 h2
      split at p
      · obtain ⟨a1, v1, m1, g1, l1⟩ := R.lst h1
        obtain ⟨a2, v2, m2, g2, l2⟩ := R.lst h2
        rw [e1] at m1; cases m1
        rw [e2] at m2; cases m2
        refine op_cat pins s σ H _ _ v u Q I rx ry ⟨_, _, _, _, rfl, rfl, g1, g2, by rw [l1.length, l2.length]; assumption, fun q hq => ?_⟩
        obtain ⟨a, b, c⟩ := newLst R (l1.app l2) hq
        exact p _ _ _ b a c
      · exact p.elim
    · exact p.elim
  · cases r1; cases r2
    exact op_sub pins s σ H _ _ v u Q I rx ry ⟨_, _, rfl, rfl, p m H _ Ext.refl R (.int _)⟩
  · cases r1; cases r2
    unfold opSem at p
    dsimp only at p
    split at p
    · exact op_mul pins s σ H _ _ v u Q I rx ry ⟨_, _, rfl, rfl, by assumption, p m H _ Ext.refl R (.int _)⟩
    · exact p.elim
  · cases r1; cases r2
    rename_i z k
    unfold opSem at p
    dsimp only at p
    split at p
    · rename_i hz
      exact op_mulS pins s σ H _ _ v u Q I rx ry ⟨_, _, rfl, rfl, hz.1, hz.2.1, hz.2.2.1, hz.2.2.2, p m H _ Ext.refl R (.str _)⟩
    · exact p.elim
  · rename_i a k
    cases r1 with
    | tup t1 l1 =>
    cases r2
    unfold opSem at p
    dsimp only at p
    split at p
    · rename_i hz
      have hne : ∀ {vs : List V}, RepL A m H a vs → vs ≠ [] := by
        intro vs l e
        subst e
        cases l
        exact hz.1 rfl
      refine op_repT pins s σ H _ _ v u Q I rx ry ⟨_, _, _, rfl, rfl, hK ▸ t1, hne l1, hz.2.1, hz.2.2.1, by rw [l1.length]; exact hz.2.2.2, fun q hq => ?_⟩
      obtain ⟨a, b, c⟩ := newTup R (l1.flat k.toNat) hq
      exact p _ _ _ b a c
    · exact p.elim
  · rename_i a k
    cases r1 with
    | loc e1 =>
    cases r2
    unfold opSem at p
    dsimp only at p
    split at p
    · rename_i xs h1
      split at p
      · rename_i hz
        obtain ⟨a1, v1, m1, g1, l1⟩ := R.lst h1
        rw [e1] at m1; cases m1
        refine op_rep pins s σ H _ _ v u Q I rx ry ⟨_, _, _, rfl, rfl, g1, hz.1, hz.2.1, by rw [l1.length]; exact hz.2.2, fun q hq => ?_⟩
        obtain ⟨a, b, c⟩ := newLst R (l1.flat k.toNat) hq
        exact p _ _ _ b a c
      · exact p.elim
    · exact p.elim
  · cases r1; cases r2
    unfold opSem at p
    dsimp only at p
    split at p
    · exact op_mod pins s σ H _ _ v u Q I rx ry ⟨_, _, rfl, rfl, by assumption, p m H _ Ext.refl R (.int _)⟩
    · exact p.elim
  · cases r1; cases r2
    unfold opSem at p
    dsimp only at p
    split at p
    · exact op_pow pins s σ H _ _ v u Q I rx ry ⟨_, _, rfl, rfl, by assumption, p m H _ Ext.refl R (.int _)⟩
    · exact p.elim
  · cases r1; cases r2
    unfold opSem at p
    dsimp only at p
    split at p
    · exact op_fdiv pins s σ H _ _ v u Q I rx ry ⟨_, _, rfl, rfl, by assumption, p m H _ Ext.refl R (.int _)⟩
    · exact p.elim

/-! comparisons -/
mutual
theorem dp_of (R : Rep A m S H) : ∀ (n : Nat) (d : D) (v : V) (q : PyData), toP S n d = some q → RepD A m H d v → Dp A.K H v q
  | 0, d, v, q, h, r => by simp [toP] at h
  | n + 1, d, v, q, h, r => by
    cases r with
    | non => simp only [toP] at h; cases h; exact .non
    | bl b => simp only [toP] at h; cases h; exact .bl b
    | int b => simp only [toP] at h; cases h; exact .int b
    | str b => simp only [toP] at h; cases h; exact .str b
    | ty b => simp only [toP] at h; cases h
    | fn b => simp only [toP] at h; cases h
    | cl b => simp only [toP] at h; cases h
    | rd _ _ _ => simp only [toP] at h; cases h
    | tup t l =>
      simp only [toP, Option.map_eq_some_iff] at h
      obtain ⟨ps, h1, rfl⟩ := h
      exact .tup t (dpAll_of R n _ _ _ h1 l)
    | rl t l =>
      simp only [toP, Option.map_eq_some_iff] at h
      obtain ⟨ps, h1, rfl⟩ := h
      exact .lst t.sq (dpAll_of R n _ _ _ h1 l)
    | loc e =>
      simp only [toP] at h
      split at h
      · rename_i xs hx
        simp only [Option.map_eq_some_iff] at h
        obtain ⟨ps, h1, rfl⟩ := h
        obtain ⟨a1, v1, m1, g1, l1⟩ := R.lst hx
        rw [e] at m1; cases m1
        exact .lst (SqL.of g1) (dpAll_of R n _ _ _ h1 l1)
      · cases h
theorem dpAll_of (R : Rep A m S H) : ∀ (n : Nat) (ds : List D) (vs : List V) (qs : List PyData), ds.mapM (toP S n) = some qs → RepL A m H ds vs → DpAll A.K H vs qs
  | n, [], _, qs, h, .nil => by simp at h; subst h; exact .nil
  | n, d :: ds, _, qs, h, .cons a b => by
    rw [List.mapM_cons] at h
    cases h1 : toP S n d with
    | none => rw [h1] at h; simp at h
    | some q =>
      rw [h1] at h
      cases h2 : ds.mapM (toP S n) with
      | none => rw [h2] at h; simp at h
      | some qs' =>
        rw [h2] at h
        simp at h
        subst h
        exact .cons (dp_of R n d _ q h1 a) (dpAll_of R n ds _ qs' h2 b)
end
theorem flat_of {d : D} {v : V} (r : RepD A m H d v) (f : flatD d = true) : flatV v = true := by cases r <;> first | rfl | cases f
theorem eqF_of {d e : D} {v w : V} (r : RepD A m H d v) (r' : RepD A m H e w) (f : flatD d = true) (f' : flatD e = true) : eqV v w = eqF d e := by
  cases r <;> cases r' <;> first | rfl | exact nomatch f | exact nomatch f'
theorem flats_of : ∀ {ds : List D} {vs : List V}, RepL A m H ds vs → ds.all flatD = true → vs.all flatV = true
  | _, _, .nil, _ => rfl
  | _, _, .cons a b, f => by
    rw [List.all_cons, Bool.and_eq_true] at f
    rw [List.all_cons, flat_of a f.1, flats_of b f.2] <;> rfl
theorem inV_of {d : D} {v : V} (r : RepD A m H d v) (fd : flatD d = true) : ∀ {ds : List D} {vs : List V}, RepL A m H ds vs → ds.all flatD = true → inV v vs = ds.any fun z => eqF z d
  | _, _, .nil, _ => rfl
  | _, _, .cons a b, f => by
    rw [List.all_cons, Bool.and_eq_true] at f
    have ih := inV_of r fd b f.2
    unfold inV at ih ⊢
    rw [List.any_cons, List.any_cons, ih, eqF_of a r f.1 fd]
theorem PB.any {b : Bool} {r : Option Bool} {Q : Bool → Prop} (h : PB r Q) (e : r = some b) : Q b := by subst e; exact h
theorem kV_of {d : D} {k : Key} {v : V} (h : keyD d = some k) (r : RepD A m H d v) : v = kV k := by
  cases r <;> simp only [keyD] at h <;> cases h <;> rfl
theorem kVs_of : ∀ {ds : List D} {ks : List Key} {vs : List V}, keysD ds = some ks → RepL A m H ds vs → vs = ks.map kV
  | _, _, _, h, .nil => by simp only [keysD] at h; cases h; rfl
  | d :: ds, _, _, h, .cons a b => by
    simp only [keysD] at h
    split at h
    · rename_i k ks h1 h2
      cases h
      rw [List.map_cons, kV_of h1 a, kVs_of h2 b]
    · cases h
theorem RepK.look {κ : Type} [DecidableEq κ] : ∀ {kvs : List (κ × D)} {ws : List (κ × V)} {k : κ}, RepK A m H kvs ws → (∃ d v, lookK kvs k = some d ∧ valV ws k = some v ∧ RepD A m H d v) ∨ (lookK kvs k = none ∧ valV ws k = none)
  | _, _, _, .nil => .inr ⟨rfl, rfl⟩
  | p :: kvs, q :: ws, k, .cons a b => by
    by_cases e : p.1 = k
    · refine .inl ⟨p.2, q.2, ?_, valV_pos (a.1 ▸ e), a.2⟩
      unfold lookK
      rw [List.find?_cons_of_pos (by simpa using e)] <;> rfl
    · have e1 : lookK (p :: kvs) k = lookK kvs k := by
        unfold lookK
        rw [List.find?_cons_of_neg (by simpa using e)]
      rw [e1, valV_neg (fun z => e (a.1.trans z))]
      exact RepK.look b
theorem RepK.put {κ : Type} [DecidableEq κ] {kvs : List (κ × D)} {ws : List (κ × V)} {k : κ} {d : D} {v : V} (r : RepK A m H kvs ws) (rv : RepD A m H d v) : RepK A m H (putD kvs k d) (putK ws k v) := by
  have hany : ∀ {kvs : List (κ × D)} {ws : List (κ × V)}, RepK A m H kvs ws → (kvs.any fun kv => decide (kv.1 = k)) = ws.any fun kv => decide (kv.1 = k) := by
    intro kvs ws r
    induction r with
    | nil => rfl
    | cons a b ih => rw [List.any_cons, List.any_cons, ih, a.1]
  have hmap : ∀ {kvs : List (κ × D)} {ws : List (κ × V)}, RepK A m H kvs ws → RepK A m H (kvs.map fun kv => if kv.1 = k then (kv.1, d) else kv) (ws.map fun kv => if kv.1 = k then (kv.1, v) else kv) := by
    intro kvs ws r
    induction r with
    | nil => exact .nil
    | cons a b ih =>
      rename_i p q _ _
      refine .cons ?_ ih
      show (if p.1 = k then (p.1, d) else p).1 = (if q.1 = k then (q.1, v) else q).1 ∧ RepD A m H (if p.1 = k then (p.1, d) else p).2 (if q.1 = k then (q.1, v) else q).2
      by_cases e : p.1 = k
      · rw [if_pos e, if_pos (a.1 ▸ e)]; exact ⟨a.1, rv⟩
      · rw [if_neg e, if_neg (fun z => e (a.1.trans z))]; exact a
  have happ : ∀ {kvs : List (κ × D)} {ws : List (κ × V)}, RepK A m H kvs ws → RepK A m H (kvs ++ [(k, d)]) (ws ++ [(k, v)]) := by
    intro kvs ws r
    induction r with
    | nil => exact .cons ⟨rfl, rv⟩ .nil
    | cons a b ih => exact .cons a ih
  unfold putD putK
  rw [hany r]
  split
  · exact hmap r
  · exact happ r
/-- an object's attributes: by their first pair of the name -/
theorem RepK.lookup : ∀ {fs : List (Str × D)} {ws : List (Str × V)} {f : Str}, RepK A m H fs ws → (∃ d v, fs.lookup f = some d ∧ ws.lookup f = some v ∧ RepD A m H d v) ∨ (fs.lookup f = none ∧ ws.lookup f = none)
  | _, _, _, .nil => .inr ⟨rfl, rfl⟩
  | p :: fs, q :: ws, f, .cons a b => by
    obtain ⟨p1, p2⟩ := p
    obtain ⟨q1, q2⟩ := q
    obtain ⟨rfl, a2⟩ := a
    rw [List.lookup_cons, List.lookup_cons]
    cases e : (f == p1) with
    | true => exact .inl ⟨p2, q2, rfl, rfl, a2⟩
    | false => exact RepK.lookup b
theorem RepK.putA {f : Str} {d : D} {v : V} (rv : RepD A m H d v) : ∀ {fs : List (Str × D)} {ws : List (Str × V)}, RepK A m H fs ws → RepK A m H (putA f d fs) (putF f v ws)
  | _, _, .nil => .cons ⟨rfl, rv⟩ .nil
  | p :: fs, q :: ws, .cons a b => by
    obtain ⟨p1, p2⟩ := p
    obtain ⟨q1, q2⟩ := q
    obtain ⟨rfl, a2⟩ := a
    unfold DI.putA putF
    by_cases e : p1 = f
    · rw [if_pos e, if_pos e]; exact .cons ⟨rfl, rv⟩ b
    · rw [if_neg e, if_neg e]; exact .cons ⟨rfl, a2⟩ (RepK.putA rv b)
/-- a dict's look-up -/
theorem dget_of (R : Rep A m S H) {a : Nat} {c : Cell} {p : Addr} {k : D} {y : V} {o : Option D} (hc : S[a]? = some c) (hp : m[a]? = some p) (hk : dictAt c k = some o) (r : RepD A m H k y) :
    ∃ w, DGet H p y w ∧ ((∃ d v, o = some d ∧ w = some v ∧ RepD A m H d v) ∨ (o = none ∧ w = none)) := by
  cases c with
  | lst xs => cases k <;> cases hk
  | ins c fs => cases k <;> cases hk
  | dk kvs =>
    obtain ⟨a1, ws, m1, g1, l1⟩ := R.dk hc
    rw [hp] at m1; cases m1
    cases r with
    | int i =>
      simp only [dictAt] at hk; cases hk
      refine ⟨_, DGet.k (k := .inl i) g1, ?_⟩
      rcases l1.look (k := (Sum.inl i : Key)) with ⟨d, v, h1, h2, h3⟩ | ⟨h1, h2⟩
      · exact .inl ⟨d, v, h1, h2, h3⟩
      · exact .inr ⟨h1, h2⟩
    | str i =>
      simp only [dictAt] at hk; cases hk
      refine ⟨_, DGet.k (k := .inr i) g1, ?_⟩
      rcases l1.look (k := (Sum.inr i : Key)) with ⟨d, v, h1, h2, h3⟩ | ⟨h1, h2⟩
      · exact .inl ⟨d, v, h1, h2, h3⟩
      · exact .inr ⟨h1, h2⟩
    | _ => cases hk
  | dt kvs => cases k <;> cases hk
  | fk kvs =>
    obtain ⟨a1, m1, rc⟩ := R.cell _ _ hc
    rw [hp] at m1; cases m1
    cases rc with
    | @fk _ od ws g1 l1 =>
    cases r with
    | int i =>
      simp only [dictAt] at hk; cases hk
      refine ⟨_, .inl ⟨ws, .inl i, .inr ⟨od, g1⟩, rfl, rfl⟩, ?_⟩
      rcases l1.look (k := (Sum.inl i : Key)) with ⟨d, v, h1, h2, h3⟩ | ⟨h1, h2⟩
      · exact .inl ⟨d, v, h1, h2, h3⟩
      · exact .inr ⟨h1, h2⟩
    | str i =>
      simp only [dictAt] at hk; cases hk
      refine ⟨_, .inl ⟨ws, .inr i, .inr ⟨od, g1⟩, rfl, rfl⟩, ?_⟩
      rcases l1.look (k := (Sum.inr i : Key)) with ⟨d, v, h1, h2, h3⟩ | ⟨h1, h2⟩
      · exact .inl ⟨d, v, h1, h2, h3⟩
      · exact .inr ⟨h1, h2⟩
    | _ => cases hk
theorem RepR.get {a : Addr} : ∀ {kvs : List (Str × D)} {z : Str} {d : D}, RepR A m H a kvs → kvs.lookup z = some d → ∃ v u, PySem.W.nsIn A.K a z = some (some u) ∧ RelV v u ∧ RepD A m H d v
  | (k, d') :: r, z, d, .cons h g rd t, e => by
    rw [List.lookup_cons] at e
    cases c : (z == k) with
    | true =>
      rw [c] at e
      cases e
      have : z = k := by simpa using c
      subst this
      exact ⟨_, _, h, g, rd⟩
    | false =>
      rw [c] at e
      exact RepR.get t e
/-- a tuple against the empty one -/
theorem op_eq_t0 (hu : X.A.units < cLine) : OpR X (compareOp .Eq) (fun x y H Q => ∃ a b xs, x = .ref a ∧ y = .ref b ∧ SqT X.K H a xs ∧ SqT X.K H b [] ∧ Q (.bl xs.isEmpty) H) := by
  intro pins s σ H x y v u Q I rx ry h
  obtain ⟨a, b, xs, rfl, rfl, h1, h2, q⟩ := h
  obtain rfl : v = Value.ref a := rx
  obtain rfl : u = Value.ref b := ry
  obtain ⟨i1, r1, p1, _⟩ := I.tuple h1
  obtain ⟨i2, r2, p2, _⟩ := I.tuple h2
  cases r2
  have p1' : s.heap.IsTuple a i1.toArray := by obtain ⟨o, e1, e2, n, e3⟩ := p1; exact ⟨o, e1, e2, n, e3⟩
  have p2' : s.heap.IsTuple b #[] := by obtain ⟨o, e1, e2, n, e3⟩ := p2; exact ⟨o, e1, e2, n, e3⟩
  refine SeqAt.RcAt.tuples (e := fun _ => true) p1' p2' hu (fun j h1 h2 => absurd h2 (by simp)) X.prog X.w X.xe _ ⟨.bl xs.isEmpty, H, I, ?_, q⟩
  have e : ((List.range (min i1.toArray.size (#[] : Array Value).size)).all (fun _ => true) && i1.toArray.size == (#[] : Array Value).size) = xs.isEmpty := by
    cases r1 <;> simp
  rw [e]
  rfl
/-! the rules -/
theorem ints_vals : ∀ {ds : List D} {vs : List V} {ns : List Int}, intsD ds = some ns → RepL A m H ds vs → vs = ns.map V.int
  | _, _, _, h, .nil => by simp only [intsD] at h; cases h; rfl
  | d :: ds, _, _, h, .cons a b => by
    cases a <;> first | (cases h; done) | skip
    simp only [intsD, Option.map_eq_some_iff] at h
    obtain ⟨ns, h1, rfl⟩ := h
    rw [List.map_cons, ints_vals h1 b]
/-- > of tuples of whole numbers -/
theorem op_gtT2 (hu : X.A.units < cLine) : OpR X (compareOp .Gt) (fun x y H Q => ∃ (a b : Addr) (ns ms : List Int), x = .ref a ∧ y = .ref b ∧ SqT X.K H a (ns.map V.int) ∧ SqT X.K H b (ms.map V.int) ∧ Q (.bl (gtI ns ms)) H) := by
  intro pz t τ HH x y v u Q J rx ry h
  obtain ⟨a, b, ns, ms, rfl, rfl, ha, hb, q⟩ := h
  obtain rfl : v = Value.ref a := rx
  obtain rfl : u = Value.ref b := ry
  obtain ⟨its, r1, p1, _⟩ := J.tuple ha
  obtain ⟨its2, r2, p2, _⟩ := J.tuple hb
  have n1 : IntsAre its ns := Vals.ints r1
  have n2 : IntsAre its2 ms := Vals.ints r2
  have s1 : its.toArray.size = ns.length := by rw [List.size_toArray]; exact n1.length
  have s2 : its2.toArray.size = ms.length := by rw [List.size_toArray]; exact n2.length
  have w1 : ∀ j (g : j < its.toArray.size), ∃ o, its.toArray[j] = .int (ns.getD j 0) o := fun j g => PyProof.Rows.IntsAre.int_at n1 _ _ (by simp at g; simp [g])
  have w2 : ∀ j (g : j < its2.toArray.size), ∃ o, its2.toArray[j] = .int (ms.getD j 0) o := fun j g => PyProof.Rows.IntsAre.int_at n2 _ _ (by simp at g; simp [g])
  have G := Ob.RcOp.tuples_gt (A := X.A) (s := t) (e := fun j => decide (ns.getD j 0 = ms.getD j 0)) (r := fun j => decide (ms.getD j 0 < ns.getD j 0)) p1 p2 hu (fun j g1 g2 => by
    obtain ⟨o, eo⟩ := w1 j g1
    obtain ⟨o', eo'⟩ := w2 j g2
    rw [eo, eo']
    have e3 : decide (ns.getD j 0 = ms.getD j 0) = (ns.getD j 0 == ms.getD j 0) := by
      rw [Bool.eq_iff_iff, decide_eq_true_eq, beq_iff_eq]
    rw [e3]
    exact SeqAt.EqAt.int_int _ _ _ _) fun j g1 g2 _ => by
    obtain ⟨o, eo⟩ := w1 j g1
    obtain ⟨o', eo'⟩ := w2 j g2
    rw [eo, eo']
    exact Ob.RcOp.gt_int _ _ _ _
  rw [s1, s2] at G
  exact (show wpAny (model X.prog X.w) X.A (compareOp .Gt (.ref a) (.ref b)) (EP X pz τ Q) X.xe t from G X.prog X.w X.xe (EP X pz τ Q) ⟨.bl _, HH, J, rfl, q⟩)
/-- x in a tuple or a list, of data of any depth -/
theorem op_inX (hu : X.A.units + 64 < cLine) (neg : Bool) : OpR X (compareOp (if neg = true then .NotIn else .In)) (fun x y H Q => ∃ d e ds, Dp X.K H x d ∧ Dp X.K H y e ∧ (e = .tuple ds ∨ e = .list ds) ∧ SeqAt.shaped d = true ∧ (SeqAt.shaped e = true ∧ PyData.depth d ≤ 60) ∧ Q (.bl (if neg = true then !ds.any fun z => PyData.eqv z d else ds.any fun z => PyData.eqv z d)) H) := by
  intro pins s σ H x y v u Q I rx ry h
  obtain ⟨d, e, ds, hd, he, hc, sd, ⟨se, hdd⟩, q⟩ := h
  obtain ⟨as, r1⟩ := Dp.reads I d x v hd rx
  obtain ⟨bs, r2⟩ := Dp.reads I e y u he ry
  have roomT : True → X.A.units + 1 + min (PyData.depthAll ds) d.depth < cLine := fun _ => by omega
  rcases hc with rfl | rfl
  · cases neg
    · exact SeqAt.in_tuple_reads r2 r1 (SeqAt.canLay_of_shaped se) (SeqAt.canLay_of_shaped sd) (roomT trivial) ⟨.bl _, H, I, rfl, q⟩
    · exact SeqAt.notIn_tuple_reads r2 r1 (SeqAt.canLay_of_shaped se) (SeqAt.canLay_of_shaped sd) (roomT trivial) ⟨.bl _, H, I, rfl, q⟩
  · cases neg
    · exact SeqAt.in_list_reads r2 r1 (SeqAt.canLay_of_shaped se) (SeqAt.canLay_of_shaped sd) (roomT trivial) ⟨.bl _, H, I, rfl, q⟩
    · exact SeqAt.notIn_list_reads r2 r1 (SeqAt.canLay_of_shaped se) (SeqAt.canLay_of_shaped sd) (roomT trivial) ⟨.bl _, H, I, rfl, q⟩
theorem cmp_ok (hK : A.K = X.K) (hW : A.w = X.w) (hu : X.A.units + 64 < cLine) (o : CmpOp) : OpR X (compareOp o) (rCmp A o) := by
  intro pins s σ H x y v u Q I rx ry h
  obtain ⟨m, S, dx, dy, R, r1, r2, p⟩ := h
  have hu1 : X.A.units + 1 < cLine := by omega
  have eqs : ∀ (k : Bool → Bool) (q : PB ((eqSem dx dy S).map k) fun b => Q (.bl b) H), (∃ d e, Dp X.K H x d ∧ Dp X.K H y e ∧ SeqAt.shaped d = true ∧ SeqAt.shaped e = true ∧ Q (.bl (k (PyData.eqv d e))) H) ∨ ∃ a b : Str, x = .str a ∧ y = .str b ∧ Q (.bl (k (a == b))) H := by
    intro k q
    unfold eqSem at q
    split at q
    · rename_i d e h1 h2
      split at q
      · rename_i hs
        exact .inl ⟨d, e, hK ▸ dp_of R _ _ _ _ h1 r1, hK ▸ dp_of R _ _ _ _ h2 r2, hs.1, hs.2, q⟩
      · split at q
        · cases r1
          cases r2
          exact .inr ⟨_, _, rfl, rfl, q⟩
        · exact q.elim
    · exact q.elim
  have ins : ∀ (k : Bool → Bool) (q : PB ((inSem dx dy S).map k) fun b => Q (.bl b) H),
      (∃ a xs, y = .ref a ∧ (SqL X.K H a xs ∨ SqT X.K H a xs) ∧ flatV x = true ∧ xs.all flatV = true ∧ Q (.bl (k (inV x xs))) H) ∨ (∃ a w, y = .ref a ∧ DGet H a x w ∧ Q (.bl (k w.isSome)) H) ∨ (∃ a es n z r, KDict X.K X.w a es n ∧ x = .str z ∧ y = .ref a ∧ PySem.W.nsIn X.K a z = some r ∧ Q (.bl (k r.isSome)) H) ∨
        ∃ d e ds, Dp X.K H x d ∧ Dp X.K H y e ∧ (e = .tuple ds ∨ e = .list ds) ∧ SeqAt.shaped d = true ∧ (SeqAt.shaped e = true ∧ PyData.depth d ≤ 60) ∧ Q (.bl (k (ds.any fun z => PyData.eqv z d))) H := by
    intro k q
    have deep : PB ((inDeep dx dy S).map k) (fun b => Q (.bl b) H) → ∃ d e ds, Dp X.K H x d ∧ Dp X.K H y e ∧ (e = .tuple ds ∨ e = .list ds) ∧ SeqAt.shaped d = true ∧ (SeqAt.shaped e = true ∧ PyData.depth d ≤ 60) ∧ Q (.bl (k (ds.any fun z => PyData.eqv z d))) H := by
      intro q
      unfold inDeep at q
      split at q
      · rename_i d ds h1 h2
        split at q
        · rename_i hs
          exact ⟨d, _, ds, hK ▸ dp_of R _ _ _ _ h1 r1, hK ▸ dp_of R _ _ _ _ h2 r2, .inl rfl, hs.1, hs.2, q⟩
        · exact q.elim
      · rename_i d ds h1 h2
        split at q
        · rename_i hs
          exact ⟨d, _, ds, hK ▸ dp_of R _ _ _ _ h1 r1, hK ▸ dp_of R _ _ _ _ h2 r2, .inr rfl, hs.1, hs.2, q⟩
        · exact q.elim
      · exact q.elim
    cases r2 with
    | tup t l =>
      simp only [inSem] at q
      split at q
      · rename_i hf
        refine .inl ⟨_, _, rfl, .inr (hK ▸ t), flat_of r1 hf.1, flats_of l hf.2, ?_⟩
        rw [inV_of r1 hf.1 l hf.2]; exact q
      · exact .inr (.inr (.inr (deep q)))
    | rl t l =>
      simp only [inSem] at q
      split at q
      · rename_i hf
        refine .inl ⟨_, _, rfl, .inl (hK ▸ t.sq), flat_of r1 hf.1, flats_of l hf.2, ?_⟩
        rw [inV_of r1 hf.1 l hf.2]; exact q
      · exact .inr (.inr (.inr (deep q)))
    | loc e =>
      simp only [inSem] at q
      split at q
      · rename_i xs hx
        obtain ⟨a1, v1, m1, g1, l1⟩ := R.lst hx
        rw [e] at m1; cases m1
        split at q
        · rename_i hf
          refine .inl ⟨_, _, rfl, .inl (SqL.of g1), flat_of r1 hf.1, flats_of l1 hf.2, ?_⟩
          rw [inV_of r1 hf.1 l1 hf.2]; exact q
        · exact .inr (.inr (.inr (deep q)))
      · rename_i c hc hx
        cases hd : dictAt c dx with
        | none => rw [hd] at q; exact q.elim
        | some o =>
          rw [hd] at q
          obtain ⟨w, g, hw⟩ := dget_of R hx e hd r1
          refine .inr (.inl ⟨_, w, rfl, g, ?_⟩)
          rcases hw with ⟨d, z, rfl, rfl, _⟩ | ⟨rfl, rfl⟩
          · exact q
          · exact q
      · exact q.elim
    | rd hd hn hr =>
      obtain ⟨es, n, hd, hkk⟩ := hd
      rw [hK, hW] at hd
      cases r1 <;> simp only [inSem] at q <;> (try exact (show False from q).elim)
      rename_i kvs a z
      cases e : kvs.lookup z with
      | none =>
        rw [e] at q
        refine .inr (.inr (.inl ⟨a, es, n, z, none, hd, rfl, rfl, hK ▸ hn z e, q⟩))
      | some d =>
        rw [e] at q
        obtain ⟨w', u', g1, _, _⟩ := hr.get e
        refine .inr (.inr (.inl ⟨a, es, n, z, some u', hd, rfl, rfl, hK ▸ g1, q⟩))
    | _ => exact (show False from q).elim
  cases o with
  | Eq =>
    by_cases c : ∃ xs, dx = .tup xs ∧ dy = .tup []
    · obtain ⟨xs, rfl, rfl⟩ := c
      cases r1 with
      | tup t1 l1 =>
      cases r2 with
      | tup t2 l2 =>
      cases l2
      refine op_eq_t0 (by omega) pins s σ H _ _ v u Q I rx ry ⟨_, _, _, rfl, rfl, hK ▸ t1, hK ▸ t2, ?_⟩
      have e : ∀ {vs : List V}, RepL A m H xs vs → vs.isEmpty = xs.isEmpty := by
        intro vs l; cases l <;> rfl
      rw [e l1]
      exact p
    · have eqE : PB (eqSem dx dy S) (fun b => Q (.bl b) H) → wpAny (model X.prog X.w) X.A (compareOp .Eq v u) (EP X pins σ Q) X.xe s := fun p => by
        rcases eqs id (by rw [Option.map_id]; exact p) with ⟨d, e, h1, h2, h3, h4, h5⟩ | ⟨a, b, rfl, rfl, h5⟩
        · exact op_eqD hu pins s σ H _ _ v u Q I rx ry ⟨d, e, h1, h2, h3, h4, h5⟩
        · refine op_eq pins s σ H _ _ v u Q I rx ry ⟨rfl, ?_⟩
          have e : decide (V.str a = V.str b) = (a == b) := by rw [Bool.eq_iff_iff]; simp
          rw [e]; exact h5
      by_cases c2 : ∃ i, dy = .loc i
      · obtain ⟨i, rfl⟩ := c2
        have p : PB (match eqSem dx (.loc i) S with | some b => some b | none => (match S[i]? with
          | some (.dk _) => if flatD dx = true then some false else none
          | some (.fk _) => if flatD dx = true then some false else none
          | _ => none)) (fun b => Q (.bl b) H) := by
          have e : cmpSem .Eq dx (.loc i) S = (match eqSem dx (.loc i) S with | some b => some b | none => (match S[i]? with
            | some (.dk _) => if flatD dx = true then some false else none
            | some (.fk _) => if flatD dx = true then some false else none
            | _ => none)) := by cases dx <;> rfl
          rw [e] at p
          exact p
        cases hq : eqSem dx (.loc i) S with
        | some b =>
          rw [hq] at p
          exact eqE (by rw [hq]; exact p)
        | none =>
          rw [hq] at p
          dsimp only at p
          cases r2 with
          | loc em =>
          split at p
          · rename_i kvs hx
            obtain ⟨a1, ws, m1, g1, l1⟩ := R.dk hx
            rw [em] at m1; cases m1
            split at p
            · rename_i hf
              exact op_eqFD (by omega) pins s σ H _ _ v u Q I rx ry ⟨flat_of r1 hf, ⟨_, ws, rfl, .inl g1⟩, p⟩
            · exact p.elim
          · rename_i kvs hx
            obtain ⟨a1, od, ws, m1, g1, l1⟩ := R.fk hx
            rw [em] at m1; cases m1
            split at p
            · rename_i hf
              exact op_eqFD (by omega) pins s σ H _ _ v u Q I rx ry ⟨flat_of r1 hf, ⟨_, ws, rfl, .inr ⟨od, g1⟩⟩, p⟩
            · exact p.elim
          · exact p.elim
      · have e : cmpSem .Eq dx dy S = eqSem dx dy S := by
          cases dy <;> first | exact absurd ⟨_, rfl⟩ c2 | (cases dx <;> first | rfl | (rename_i xs ys; cases xs <;> first | rfl | exact absurd ⟨_, rfl, rfl⟩ c) | (rename_i ys xs; cases xs <;> first | rfl | exact absurd ⟨_, rfl, rfl⟩ c))
        rw [e] at p
        exact eqE p
  | NotEq =>
    rcases eqs (!·) p with ⟨d, e, h1, h2, h3, h4, h5⟩ | ⟨a, b, rfl, rfl, h5⟩
    · exact op_neD hu pins s σ H _ _ v u Q I rx ry ⟨d, e, h1, h2, h3, h4, h5⟩
    · refine op_ne pins s σ H _ _ v u Q I rx ry ⟨rfl, ?_⟩
      have e : decide (V.str a = V.str b) = (a == b) := by rw [Bool.eq_iff_iff]; simp
      rw [e]; exact h5
  | In =>
    rcases ins id (by rw [Option.map_id]; exact p) with ⟨a, xs, rfl, h1, h2, h3, h4⟩ | ⟨a, w, rfl, g, h4⟩ | ⟨a, es, n, z, r, kd, rfl, rfl, e, h4⟩ | hdeep
    · exact op_in_seq pins s σ H _ _ v u Q I rx ry ⟨a, xs, rfl, h1, h2, h3, h4⟩
    · obtain rfl : u = Value.ref a := ry
      exact d_in hu1 I g rx fun s' I' => ⟨.bl w.isSome, H, I', rfl, h4⟩
    · exact op_in_kd kd pins s σ H _ _ v u Q I rx ry ⟨z, r, rfl, rfl, e, h4⟩
    · exact op_inX hu false pins s σ H _ _ v u Q I rx ry hdeep
  | NotIn =>
    rcases ins (!·) p with ⟨a, xs, rfl, h1, h2, h3, h4⟩ | ⟨a, w, rfl, g, h4⟩ | ⟨a, es, n, z, r, kd, rfl, rfl, e, h4⟩ | hdeep
    · exact op_notIn_seq pins s σ H _ _ v u Q I rx ry ⟨a, xs, rfl, h1, h2, h3, h4⟩
    · obtain rfl : u = Value.ref a := ry
      exact d_notIn hu1 I g rx fun s' I' => ⟨.bl (!w.isSome), H, I', rfl, h4⟩
    · exact op_notIn_kd kd pins s σ H _ _ v u Q I rx ry ⟨z, r, rfl, rfl, e, h4⟩
    · exact op_inX hu true pins s σ H _ _ v u Q I rx ry hdeep
  | Lt => cases r1 <;> (try exact (show False from p).elim) <;> cases r2 <;> first | exact (show False from p).elim | exact op_lt pins s σ H _ _ v u Q I rx ry ⟨_, _, rfl, rfl, p⟩ | exact op_lt_str pins s σ H _ _ v u Q I rx ry ⟨_, _, rfl, rfl, p⟩
  | LtE => cases r1 <;> (try exact (show False from p).elim) <;> cases r2 <;> first | exact (show False from p).elim | exact op_le pins s σ H _ _ v u Q I rx ry ⟨_, _, rfl, rfl, p⟩ | exact op_le_str pins s σ H _ _ v u Q I rx ry ⟨_, _, rfl, rfl, p⟩
  | Gt =>
    by_cases ht : ∃ xs ys, dx = .tup xs ∧ dy = .tup ys
    · obtain ⟨xs, ys, rfl, rfl⟩ := ht
      cases r1 with
      | tup t1 l1 =>
      cases r2 with
      | tup t2 l2 =>
      have p' : PB (match intsD xs, intsD ys with | some ns, some ms => some (gtI ns ms) | _, _ => none) (fun b => Q (.bl b) H) := p
      split at p'
      · rename_i ns ms e1 e2
        rw [ints_vals e1 l1] at t1
        rw [ints_vals e2 l2] at t2
        exact op_gtT2 (by omega) pins s σ H _ _ v u Q I rx ry ⟨_, _, ns, ms, rfl, rfl, hK ▸ t1, hK ▸ t2, p'⟩
      · exact p'.elim
    · cases r1 <;> (try exact (show False from p).elim) <;> cases r2 <;> first | exact (show False from p).elim | exact op_gt pins s σ H _ _ v u Q I rx ry ⟨_, _, rfl, rfl, p⟩ | exact op_gt_str pins s σ H _ _ v u Q I rx ry ⟨_, _, rfl, rfl, p⟩ | exact absurd ⟨_, _, rfl, rfl⟩ ht
  | GtE => cases r1 <;> (try exact (show False from p).elim) <;> cases r2 <;> first | exact (show False from p).elim | exact op_ge pins s σ H _ _ v u Q I rx ry ⟨_, _, rfl, rfl, p⟩ | exact op_ge_str pins s σ H _ _ v u Q I rx ry ⟨_, _, rfl, rfl, p⟩
  | Is =>
    cases r2 <;> (try exact (show False from p).elim)
    refine op_isN pins s σ H _ _ v u Q I rx ry ⟨rfl, ?_⟩
    cases r1 <;> exact p
  | IsNot =>
    cases r2 <;> (try exact (show False from p).elim)
    refine op_notN pins s σ H _ _ v u Q I rx ry ⟨rfl, ?_⟩
    cases r1 <;> exact p
theorem tru_of (hK : A.K = X.K) (R : Rep A m S H) {d : D} {v : V} (r : RepD A m H d v) {b : Bool} (h : truSem d S = some b) : TruV X.K v H b := by
  cases r with
  | non => simp only [truSem] at h; cases h; rfl
  | bl k => simp only [truSem] at h; cases h; rfl
  | int k => simp only [truSem] at h; cases h; rfl
  | str k =>
    simp only [truSem] at h
    split at h
    · cases h; exact ⟨by assumption, rfl⟩
    · cases h
  | ty n => cases h
  | fn n => cases h
  | cl n => cases h
  | rd _ _ _ => cases h
  | tup t l =>
    simp only [truSem] at h; cases h
    refine .inr (.inl ⟨_, hK ▸ t, ?_⟩)
    cases l <;> rfl
  | rl t l =>
    simp only [truSem] at h; cases h
    refine .inl ⟨_, hK ▸ t.sq, ?_⟩
    cases l <;> rfl
  | loc e =>
    simp only [truSem] at h
    split at h
    · rename_i xs hx
      obtain ⟨a1, v1, m1, g1, l1⟩ := R.lst hx
      rw [e] at m1; cases m1
      cases h
      refine .inl ⟨_, SqL.of g1, ?_⟩
      cases l1 <;> rfl
    · rename_i xs hx
      obtain ⟨a1, v1, m1, g1, l1⟩ := R.dk hx
      rw [e] at m1; cases m1
      cases h
      refine .inr (.inr ⟨_, g1, ?_⟩)
      cases l1 <;> rfl
    · cases h
theorem atI_rep {ds : List D} {vs : List V} {i : Int} {d : D} (l : RepL A m H ds vs) (h : atI ds i = some d) : ∃ v, atI vs i = some v ∧ RepD A m H d v := by
  unfold atI at h ⊢
  rw [l.length]
  cases e : ixN ds.length i with
  | none => rw [e] at h; cases h
  | some j =>
    rw [e] at h
    exact l.get h
theorem ix_dict (hu : X.A.units + 1 < cLine) : IxR X (fun x y H Q => ∃ a v, x = .ref a ∧ DGet H a y (some v) ∧ Q v H) := by
  intro value slice pins s σ H x y v u Q I rx ry h hs
  obtain ⟨a, z, rfl, g, q⟩ := h
  obtain rfl : v = Value.ref a := rx
  exact tail_any (dict_typeIs I g) PySem.F.slot_dict_getitem.lookup (d_getItem hu I g ry fun w' s' I' r' => ⟨z, H, I', r', q⟩) hs
theorem ix_ok (hK : A.K = X.K) (hW : A.w = X.w) (hu : X.A.units + 64 < cLine) : IxR X (rItem A) := by
  have hu1 : X.A.units + 1 < cLine := by omega
  intro value slice pins s σ H x y v u Q I rx ry h hs
  obtain ⟨m, S, dx, dy, R, r1, r2, p⟩ := h
  have fin : ∀ {r : Option D} {d : D} {z : V}, PD A m H r Q → r = some d → RepD A m H d z → Q z H := fun p e r => by subst e; exact p _ r
  cases r1 <;> (try exact (show False from p).elim)
  · rename_i z
    cases r2 <;> (try exact (show False from p).elim)
    rename_i i
    by_cases hz : z.length ≤ sizeLine
    · have e' : itemSem (.str z) (.int i) S = (atI z.cps.toList i).map fun c => D.str ⟨#[c]⟩ := if_pos hz
      rw [e'] at p
      cases e : atI z.cps.toList i with
      | none => rw [e] at p; exact p.elim
      | some c =>
        rw [e] at p
        exact ix_str value slice pins s σ H _ _ v u Q I rx ry ⟨_, _, c, rfl, rfl, hz, e, p _ (.str _)⟩ hs
    · have e' : itemSem (.str z) (.int i) S = none := if_neg hz
      rw [e'] at p; exact p.elim
  · rename_i xs a vs t l
    cases r2 <;> (try exact (show False from p).elim)
    rename_i i
    cases e : atI xs i with
    | none =>
      have e' : itemSem (.tup xs) (.int i) S = none := e
      rw [e'] at p; exact p.elim
    | some d =>
      obtain ⟨z, h1, h2⟩ := atI_rep l e
      exact ix_tup value slice pins s σ H _ _ v u Q I rx ry ⟨_, _, _, z, rfl, rfl, hK ▸ t, h1, fin p e h2⟩ hs
  · rename_i xs a vs t l
    cases r2 <;> (try exact (show False from p).elim)
    rename_i i
    cases e : atI xs i with
    | none =>
      have e' : itemSem (.rl xs) (.int i) S = none := e
      rw [e'] at p; exact p.elim
    | some d =>
      obtain ⟨z, h1, h2⟩ := atI_rep l e
      exact ix_list value slice pins s σ H _ _ v u Q I rx ry ⟨_, _, _, z, rfl, rfl, hK ▸ t.sq, h1, fin p e h2⟩ hs
  · rename_i i a e
    generalize h1 : itemSem (D.loc i) _ S = o at p
    cases o with
    | none => exact p.elim
    | some d =>
      have p' : ∀ z, RepD A m H d z → Q z H := fun z r => fin p rfl r
      simp only [itemSem] at h1
      split at h1
      · rename_i xs j hx
        obtain ⟨a1, v1, m1, g1, l1⟩ := R.lst hx
        rw [e] at m1; cases m1
        cases r2
        obtain ⟨z, h2, h3⟩ := atI_rep l1 h1
        exact ix_list value slice pins s σ H _ _ v u Q I rx ry ⟨_, _, _, z, rfl, rfl, SqL.of g1, h2, p' z h3⟩ hs
      · cases h1
      · rename_i c hc hx hx2
        obtain ⟨o, hd, ho⟩ := Option.bind_eq_some_iff.mp h1
        obtain ⟨w, g, hw⟩ := dget_of R (by assumption) e hd r2
        rcases hw with ⟨d', z, hz, rfl, hr⟩ | ⟨hz, _⟩
        · subst hz
          cases ho
          exact ix_dict hu1 value slice pins s σ H _ _ v u Q I rx ry ⟨_, z, rfl, g, p' z hr⟩ hs
        · subst hz
          cases ho
      · cases h1
  · rename_i kvs a hd hn hr
    cases r2 <;> (try exact (show False from p).elim)
    rename_i z
    obtain ⟨es, n, kd, hkk⟩ := hd
    cases e : kvs.lookup z with
    | none =>
      have e' : itemSem (.rd kvs) (.str z) S = none := e
      rw [e'] at p; exact p.elim
    | some d =>
      have e' : itemSem (.rd kvs) (.str z) S = some d := e
      rw [e'] at p
      obtain ⟨v', u', g1, g2, g3⟩ := hr.get e
      rw [hK, hW] at kd
      exact ix_kdict value slice pins s σ H _ _ v u Q I rx ry ⟨_, _, v', rfl, rfl, ⟨es, n, u', kd.at_, kd.lit, hK ▸ g1, g2⟩, p _ g3⟩ hs
theorem sl_ok (hK : A.K = X.K) : SlR X (rSlice A) := by
  intro pins s σ H x v vl vu lo hi sl Q I rx hs p1 p2 h
  obtain ⟨m, S, dx, R, r1, p⟩ := h
  cases r1 <;> (try exact (show False from p).elim)
  · rename_i xs a vs t l
    refine sl_tupA pins s σ H _ v vl vu lo hi sl Q I rx hs p1 p2 ⟨_, _, rfl, hK ▸ t, fun e => ?_, fun _ q hq => ?_⟩
    · have e2 : cutL xs lo hi = xs := by
        unfold cutL
        rw [← l.length, e.1, e.2, Nat.sub_zero, List.drop_zero, l.length, List.take_length]
      refine p m H _ Ext.refl R ?_
      rw [e2]
      exact .tup t l
    · obtain ⟨a, b, c⟩ := newTup R (l.cut lo hi) hq
      exact p m _ _ b a c
  · rename_i xs a vs t l
    refine sl_list pins s σ H _ v vl vu lo hi sl Q I rx hs p1 p2 ⟨_, _, rfl, hK ▸ t.sq, fun q hq => ?_⟩
    obtain ⟨a, b, c⟩ := newLst R (l.cut lo hi) hq
    exact p _ _ _ b a c
  · rename_i i a e
    unfold sliceSem at p
    dsimp only at p
    split at p
    · rename_i xs hx
      obtain ⟨a1, v1, m1, g1, l1⟩ := R.lst hx
      rw [e] at m1; cases m1
      refine sl_list pins s σ H _ v vl vu lo hi sl Q I rx hs p1 p2 ⟨_, _, rfl, SqL.of g1, fun q hq => ?_⟩
      obtain ⟨a, b, c⟩ := newLst R (l1.cut lo hi) hq
      exact p _ _ _ b a c
    · exact p.elim
end
end DI

set_option Elab.async false
set_option linter.all false
set_option maxRecDepth 100000
set_option maxHeartbeats 4000000
/-! repr of data at any depth, dicts too. -/
namespace DI
open L2 PySem PySem.Spec PyProof.Rows
mutual
inductive Dq (K : PySem.W.Frag) (H : Hp) : V → PyData → Prop
  | non : Dq K H .non .none
  | bl (b : Bool) : Dq K H (.bl b) (.bool b)
  | int (i : Int) : Dq K H (.int i) (.int i)
  | str (x : Str) : Dq K H (.str x) (.str x)
  | lst {q : Addr} {vs : List V} {ps : List PyData} : SqL K H q vs → Dqs K H vs ps → Dq K H (.ref q) (.list ps)
  | tup {q : Addr} {vs : List V} {ps : List PyData} : SqT K H q vs → Dqs K H vs ps → Dq K H (.ref q) (.tuple ps)
  | dct {q : Addr} {ws : List (Key × V)} {ps : List PyData} : H q = some (.dK ws) → Dqs K H (ws.map (·.2)) ps → Dq K H (.ref q) (.dict ((ws.map fun w => keyP w.1).zip ps))
inductive Dqs (K : PySem.W.Frag) (H : Hp) : List V → List PyData → Prop
  | nil : Dqs K H [] []
  | cons {v : V} {vs : List V} {p : PyData} {ps : List PyData} : Dq K H v p → Dqs K H vs ps → Dqs K H (v :: vs) (p :: ps)
end
theorem Dqs.len {K : PySem.W.Frag} {H : Hp} : ∀ {vs : List V} {ps : List PyData}, Dqs K H vs ps → ps.length = vs.length
  | _, _, .nil => rfl
  | _, _, .cons _ t => by rw [List.length_cons, List.length_cons, t.len]
section
variable {A : Ad} {m : List Addr} {S : Sto} {H : Hp}
theorem RepK.vals {κ : Type} : ∀ {kvs : List (κ × D)} {ws : List (κ × V)}, RepK A m H kvs ws → RepL A m H (kvs.map (·.2)) (ws.map (·.2)) ∧ kvs.map (·.1) = ws.map (·.1)
  | _, _, .nil => ⟨.nil, rfl⟩
  | _, _, .cons a b => ⟨.cons a.2 (RepK.vals b).1, by rw [List.map_cons, List.map_cons, a.1, (RepK.vals b).2]⟩
mutual
theorem dq_of (R : Rep A m S H) : ∀ (n : Nat) (d : D) (v : V) (q : PyData), toR S n d = some q → RepD A m H d v → Dq A.K H v q
  | 0, d, v, q, h, r => by simp [toR] at h
  | n + 1, d, v, q, h, r => by
    cases r with
    | non => simp only [toR] at h; cases h; exact .non
    | bl b => simp only [toR] at h; cases h; exact .bl b
    | int b => simp only [toR] at h; cases h; exact .int b
    | str b => simp only [toR] at h; cases h; exact .str b
    | ty b => simp only [toR] at h; cases h
    | fn b => simp only [toR] at h; cases h
    | cl b => simp only [toR] at h; cases h
    | rd _ _ _ => simp only [toR] at h; cases h
    | tup t l =>
      simp only [toR, Option.map_eq_some_iff] at h
      obtain ⟨ps, h1, rfl⟩ := h
      exact .tup t (dqs_of R n _ _ _ h1 l)
    | rl t l =>
      simp only [toR, Option.map_eq_some_iff] at h
      obtain ⟨ps, h1, rfl⟩ := h
      exact .lst t.sq (dqs_of R n _ _ _ h1 l)
    | loc e =>
      simp only [toR] at h
      split at h
      · rename_i xs hx
        simp only [Option.map_eq_some_iff] at h
        obtain ⟨ps, h1, rfl⟩ := h
        obtain ⟨a1, v1, m1, g1, l1⟩ := R.lst hx
        rw [e] at m1; cases m1
        exact .lst (SqL.of g1) (dqs_of R n _ _ _ h1 l1)
      · rename_i kvs hx
        simp only [Option.map_eq_some_iff] at h
        obtain ⟨ps, h1, rfl⟩ := h
        obtain ⟨a1, ws, m1, g1, l1⟩ := R.dk hx
        rw [e] at m1; cases m1
        obtain ⟨l2, l3⟩ := RepK.vals l1
        have e2 : (kvs.map fun w => keyP w.1) = ws.map fun w => keyP w.1 := by
          have := congrArg (List.map keyP) l3
          rw [List.map_map, List.map_map] at this
          exact this
        rw [e2]
        exact .dct g1 (dqs_of R n _ _ _ h1 l2)
      · cases h
theorem dqs_of (R : Rep A m S H) : ∀ (n : Nat) (ds : List D) (vs : List V) (qs : List PyData), ds.mapM (toR S n) = some qs → RepL A m H ds vs → Dqs A.K H vs qs
  | n, [], _, qs, h, .nil => by simp at h; subst h; exact .nil
  | n, d :: ds, _, qs, h, .cons a b => by
    rw [List.mapM_cons] at h
    cases h1 : toR S n d with
    | none => rw [h1] at h; cases h
    | some q =>
      rw [h1] at h
      cases h2 : ds.mapM (toR S n) with
      | none => rw [h2] at h; cases h
      | some qs' =>
        rw [h2] at h
        cases h
        exact .cons (dq_of R n d _ q h1 a) (dqs_of R n ds _ qs' h2 b)
end
end
section
variable {X : Cx} {pins : List (Addr × Obj)} {σ : L2.St} {H : Hp} {s : Shared}
theorem keys_reads {P : Program} {w : World} {h : Heap} : ∀ {es : List DictEntry} {kus : List (Key × Value)} {ws : List (Key × V)}, Pairs (mixKind P w) es kus → KV ws kus → ReadsAll h (es.map (·.key)) (ws.map fun w => keyP w.1) [] ∧ es.map (·.val) = kus.map (·.2) ∧ Vals (ws.map (·.2)) (kus.map (·.2))
  | _, _, _, .nil, .nil => ⟨.nil, rfl, .nil⟩
  | e :: es, (k, u) :: kus, (k', v) :: ws, .cons h1 h2 h3, .cons r rr => by
    obtain ⟨i1, i2, i3⟩ := keys_reads h3 rr
    obtain ⟨e1, e2⟩ := r
    dsimp only at e1 e2 h1 h2
    subst e1
    refine ⟨?_, by rw [List.map_cons, List.map_cons, h2, i2], .cons e2 i3⟩
    rcases keyIs_shape (show keyIs k' e.key = true from h1) with ⟨i, t, rfl, he⟩ | ⟨x, t, rfl, he⟩
    · rw [List.map_cons, he]
      exact ReadsAll.cons (as := []) (bs := []) (Reads.int i t) i1
    · rw [List.map_cons, he]
      exact ReadsAll.cons (as := []) (bs := []) (Reads.str x t) i1
mutual
theorem Dq.rds (I : Inv X pins σ H s) (hy : ∃ o, s.heap.get? sysModules = some o ∧ o.cls = .type "dict") : ∀ {v : V} {d : PyData}, Dq X.K H v d → ∀ {u : Value}, RelV v u → ∃ as, Reads s.heap u d as ∧ sysModules ∉ as
  | _, _, .non, u, r => by cases r; exact ⟨_, Reads.none, by simp⟩
  | _, _, .bl b, u, r => by cases r; exact ⟨_, Reads.bool b, by simp⟩
  | _, _, .int i, u, r => by obtain ⟨t, rfl⟩ := r; exact ⟨_, Reads.int i t, by simp⟩
  | _, _, .str x, u, r => by obtain ⟨t, rfl⟩ := r; exact ⟨_, Reads.str x t, by simp⟩
  | _, _, .lst hl hd, u, r => by
    cases r
    obtain ⟨its, rv, ⟨o, n, ho, hc, _, hdt⟩, _⟩ := I.list hl
    obtain ⟨as, hr, hn⟩ := Dqs.rds I hy hd rv
    refine ⟨_, Reads.list ho hc hdt hr, fun z => ?_⟩
    rcases List.mem_cons.mp z with z | z
    · obtain ⟨o', h1, h2⟩ := hy
      rw [z, ho] at h1
      cases h1
      rw [hc] at h2
      exact absurd h2 (by decide)
    · exact hn z
  | _, _, .tup hl hd, u, r => by
    cases r
    obtain ⟨its, rv, ⟨o, ho, hc, n, hdt⟩, _⟩ := I.tuple hl
    obtain ⟨as, hr, hn⟩ := Dqs.rds I hy hd rv
    exact ⟨_, Reads.tuple ho hc hdt hr, hn⟩
  | _, _, .dct (q := q) (ws := ws) (ps := ps) hh hd, u, r => by
    cases r
    obtain ⟨_, hne, vs, kv, o, es, ep, ho, hx, hdt, _, hp, _⟩ := dk_of I.hok hh
    obtain ⟨i1, i2, i3⟩ := keys_reads (h := s.heap) hp kv
    obtain ⟨bs, hr, hn⟩ := Dqs.rds I hy hd i3
    have hl : (ws.map fun w => keyP w.1).length = ps.length := by rw [hd.len, List.length_map, List.length_map]
    refine ⟨_, Reads.dict (as := []) (bs := bs) ho hx.1 hdt ?_ ?_, ?_⟩
    · rw [List.map_fst_zip (by omega)]; exact i1
    · rw [List.map_snd_zip (by omega), i2]; exact hr
    · intro z
      rcases List.mem_append.mp z with z | z
      · rw [List.mem_singleton] at z
        rw [← z] at hne
        exact absurd hne (by decide)
      · exact hn z
theorem Dqs.rds (I : Inv X pins σ H s) (hy : ∃ o, s.heap.get? sysModules = some o ∧ o.cls = .type "dict") : ∀ {vs : List V} {ds : List PyData}, Dqs X.K H vs ds → ∀ {us : List Value}, Vals vs us → ∃ as, ReadsAll s.heap us ds as ∧ sysModules ∉ as
  | _, _, .nil, us, r => by cases r; exact ⟨_, ReadsAll.nil, by simp⟩
  | _, _, .cons a b, us, r => by
    cases r with
    | cons r1 r2 =>
      obtain ⟨as, q1, n1⟩ := Dq.rds I hy a r1
      obtain ⟨bs, q2, n2⟩ := Dqs.rds I hy b r2
      exact ⟨_, ReadsAll.cons q1 q2, fun z => (List.mem_append.mp z).elim n1 n2⟩
end
/-- what the written part says of sys.modules: it is a dict -/
abbrev SysK (K : PySem.W.Frag) : Prop := ∃ o, K.lookup sysModules = some o ∧ o.cls = .type "dict"
/-- repr of lists, tuples, dicts, where no repr is under way -/
theorem call_repr (hy : SysK X.K) (gd : X.A.guards = some []) (hu : X.A.units + 64 < cLine) : CallR X (.builtin "repr") (fun xs H Q => ∃ a q, xs = [.ref a] ∧ Dq X.K H (.ref a) q ∧ q.showable = true ∧ q.depth ≤ 60 ∧ q.shown.length ≤ sizeLine ∧ Q (.str q.shown) H) := by
  intro pins s σ H xs us Q I r h
  obtain ⟨a, q, rfl, hd, h1, h3, h4, k⟩ := h
  cases r with
  | cons ra rr =>
    cases rr
    rename_i u
    obtain rfl : u = Value.ref a := ra
    obtain ⟨o, ho, hc⟩ := hy
    obtain ⟨as, rd, hn⟩ := Dq.rds I ⟨o, I.kIn _ _ ho, hc⟩ hd (u := .ref a) rfl
    exact repr_of_reads' rd h1 (fun _ => hn) gd (by omega) (fun _ _ e => e) (fun h' u tk hk => ⟨.str q.shown, H, I.kept hk, ⟨u, rfl⟩, k⟩) h4
end
end DI

set_option Elab.async false
set_option linter.all false
set_option maxRecDepth 100000
set_option maxHeartbeats 4000000
/-! Built-ins and methods of built-in types upon values that the heap bears. -/
namespace DI
open L2 PySem PySem.Spec PyProof.Rows
def BI.val : BI → Value
  | .len => .builtin "len" | .int_ => .type "int" | .str_ => .type "str" | .abs_ => .builtin "abs" | .max1 => .builtin "max" | .max2 => .builtin "max" | .min1 => .builtin "min" | .min2 => .builtin "min"
  | .sum_ => .builtin "sum" | .all_ => .builtin "all" | .any_ => .builtin "any" | .list_ => .type "list" | .tuple_ => .type "tuple" | .isi => .builtin "isinstance" | .dict_ => .type "dict" | .ord_ => .builtin "ord" | .repr_ => .builtin "repr"
theorem foldl_max_spec : ∀ (l : List Int) (a : Int), (l.foldl max a = a ∨ l.foldl max a ∈ l) ∧ a ≤ l.foldl max a ∧ ∀ y ∈ l, y ≤ l.foldl max a
  | [], a => ⟨.inl rfl, Int.le_refl _, fun _ h => nomatch h⟩
  | b :: l, a => by
    obtain ⟨h1, h2, h3⟩ := foldl_max_spec l (max a b)
    rw [List.foldl_cons]
    refine ⟨?_, by omega, fun y hy => ?_⟩
    · rcases h1 with h1 | h1
      · rw [h1]
        rcases Int.le_total a b with h | h
        · rw [Int.max_eq_right h]; exact .inr List.mem_cons_self
        · rw [Int.max_eq_left h]; exact .inl rfl
      · exact .inr (List.mem_cons_of_mem _ h1)
    · rcases List.mem_cons.mp hy with rfl | hy
      · omega
      · exact h3 y hy
theorem foldl_min_spec : ∀ (l : List Int) (a : Int), (l.foldl min a = a ∨ l.foldl min a ∈ l) ∧ l.foldl min a ≤ a ∧ ∀ y ∈ l, l.foldl min a ≤ y
  | [], a => ⟨.inl rfl, Int.le_refl _, fun _ h => nomatch h⟩
  | b :: l, a => by
    obtain ⟨h1, h2, h3⟩ := foldl_min_spec l (min a b)
    rw [List.foldl_cons]
    refine ⟨?_, by omega, fun y hy => ?_⟩
    · rcases h1 with h1 | h1
      · rw [h1]
        rcases Int.le_total a b with h | h
        · rw [Int.min_eq_left h]; exact .inl rfl
        · rw [Int.min_eq_right h]; exact .inr List.mem_cons_self
      · exact .inr (List.mem_cons_of_mem _ h1)
    · rcases List.mem_cons.mp hy with rfl | hy
      · omega
      · exact h3 y hy
theorem maxL_spec {l : List Int} {i : Int} (h : maxL l = some i) : i ∈ l ∧ (∀ y ∈ l, y ≤ i) ∧ 0 < l.length := by
  cases l with
  | nil => cases h
  | cons a r =>
    simp only [maxL, Option.some.injEq] at h
    subst h
    obtain ⟨h1, h2, h3⟩ := foldl_max_spec r a
    refine ⟨?_, fun y hy => ?_, Nat.succ_pos _⟩
    · rcases h1 with h1 | h1
      · rw [h1]; exact List.mem_cons_self
      · exact List.mem_cons_of_mem _ h1
    · rcases List.mem_cons.mp hy with rfl | hy
      · exact h2
      · exact h3 y hy
theorem minL_spec {l : List Int} {i : Int} (h : minL l = some i) : i ∈ l ∧ (∀ y ∈ l, i ≤ y) ∧ 0 < l.length := by
  cases l with
  | nil => cases h
  | cons a r =>
    simp only [minL, Option.some.injEq] at h
    subst h
    obtain ⟨h1, h2, h3⟩ := foldl_min_spec r a
    refine ⟨?_, fun y hy => ?_, Nat.succ_pos _⟩
    · rcases h1 with h1 | h1
      · rw [h1]; exact List.mem_cons_self
      · exact List.mem_cons_of_mem _ h1
    · rcases List.mem_cons.mp hy with rfl | hy
      · exact h2
      · exact h3 y hy
section
variable {X : Cx} {A : Ad} {m : List Addr} {S : Sto} {H : Hp} {p : Addr} {d : D} {v : V} {ds : List D} {vs : List V}
theorem list_of (R : Rep A m S H) (r : RepD A m H d v) (h : listD d S = some ds) : ∃ a vs, v = .ref a ∧ SqL A.K H a vs ∧ RepL A m H ds vs := by
  cases r <;> first | (cases h; done) | skip
  · rename_i t l
    simp only [listD] at h; cases h
    exact ⟨_, _, rfl, t.sq, l⟩
  · rename_i e
    simp only [listD] at h
    split at h
    · rename_i xs hx
      cases h
      obtain ⟨a1, v1, m1, g1, l1⟩ := R.lst hx
      rw [e] at m1; cases m1
      exact ⟨_, _, rfl, SqL.of g1, l1⟩
    · cases h
theorem seq_of (R : Rep A m S H) (r : RepD A m H d v) (h : seqD d S = some ds) : ∃ a vs, v = .ref a ∧ (SqL A.K H a vs ∨ SqT A.K H a vs) ∧ RepL A m H ds vs := by
  cases r <;> first | (cases h; done) | skip
  · rename_i t l
    simp only [seqD] at h; cases h
    exact ⟨_, _, rfl, .inr t, l⟩
  · rename_i t l
    simp only [seqD] at h; cases h
    exact ⟨_, _, rfl, .inl t.sq, l⟩
  · rename_i e
    simp only [seqD] at h
    split at h
    · rename_i xs hx
      cases h
      obtain ⟨a1, v1, m1, g1, l1⟩ := R.lst hx
      rw [e] at m1; cases m1
      exact ⟨_, _, rfl, .inl (SqL.of g1), l1⟩
    · cases h
theorem ints_of : ∀ {ds : List D} {vs : List V} {ns : List Int}, intsD ds = some ns → RepL A m H ds vs → vs = ns.map V.int
  | _, _, _, h, .nil => by simp only [intsD] at h; cases h; rfl
  | d :: ds, _, _, h, .cons a b => by
    cases a <;> first | (cases h; done) | skip
    simp only [intsD, Option.map_eq_some_iff] at h
    obtain ⟨ns, h1, rfl⟩ := h
    rw [List.map_cons, ints_of h1 b]
theorem bls_of : ∀ {ds : List D} {vs : List V} {ns : List Bool}, blsD ds = some ns → RepL A m H ds vs → vs = ns.map V.bl
  | _, _, _, h, .nil => by simp only [blsD] at h; cases h; rfl
  | d :: ds, _, _, h, .cons a b => by
    cases a <;> first | (cases h; done) | skip
    simp only [blsD, Option.map_eq_some_iff] at h
    obtain ⟨ns, h1, rfl⟩ := h
    rw [List.map_cons, bls_of h1 b]
theorem PO.at {r : Option (D × Sto)} {Q : VK} {d : D} {S' : Sto} (p : PO A m H r Q) (e : r = some (d, S')) : ∀ m' H' v, Ext A m H m' H' → Rep A m' S' H' → RepD A m' H' d v → Q v H' := by subst e; exact p
theorem RepL.one {vs : List V} (l : RepL A m H [d] vs) : ∃ v, vs = [v] ∧ RepD A m H d v := by cases l with | cons a b => cases b; exact ⟨_, rfl, a⟩
theorem RepL.two {e : D} {vs : List V} (l : RepL A m H [d, e] vs) : ∃ v w, vs = [v, w] ∧ RepD A m H d v ∧ RepD A m H e w := by
  cases l with | cons a b => obtain ⟨w, rfl, q⟩ := b.one; exact ⟨_, _, rfl, a, q⟩
theorem ty_of (R : Rep A m S H) (hK : A.K = X.K) (r : RepD A m H d v) {n : String} (h : tyName d S = some n) : TyX X.K H v (.type n) := by
  cases r with
  | non => cases h; exact .base .non
  | bl b => cases h; exact .base (.bl b)
  | int b => cases h; exact .base (.int b)
  | str b => cases h; exact .base (.str b)
  | ty b => cases h
  | fn b => cases h
  | cl b => cases h
  | tup t l =>
    cases h
    rcases t with (t | ⟨o, t⟩) | ⟨o, its, n, t, t2, _⟩
    · exact .base (.tup t)
    · exact .fTuple t
    · exact .kTuple (hK ▸ t) t2
  | rl t l =>
    cases h
    rcases t with ⟨o, t⟩ | t
    · exact .base (.frz t)
    · rcases t (fun _ => none) with (t | ⟨o, t⟩) | ⟨o, its, n, t, t2, _⟩
      · cases t
      · cases t
      · exact .kList (hK ▸ t) t2
  | loc e =>
    simp only [tyName] at h
    split at h <;> first | (cases h; done) | skip
    · rename_i hx
      cases h
      obtain ⟨a1, v1, m1, g1, l1⟩ := R.lst hx
      rw [e] at m1; cases m1
      exact .base (.lst g1)
    · rename_i hx
      cases h
      obtain ⟨a1, v1, m1, g1, l1⟩ := R.dk hx
      rw [e] at m1; cases m1
      exact .base (.dK g1)
    · rename_i hx
      cases h
      obtain ⟨a1, v1, m1, g1, l1⟩ := R.dt hx
      rw [e] at m1; cases m1
      exact .base (.dT g1)
    · rename_i hx
      cases h
      obtain ⟨a1, m1, rc⟩ := R.cell _ _ hx
      rw [e] at m1; cases m1
      cases rc with
      | fk g1 l1 => exact .fDict g1
  | rd hd _ _ =>
    cases h
    obtain ⟨es, n, kd, hkk⟩ := hd
    exact .kDict (hK ▸ kd.at_) rfl
theorem bi_ok (hK : A.K = X.K) (hc : X.calm = true) (hy : SysK X.K) (gd : X.A.guards = some []) (hu : X.A.units + 64 < cLine) (b : BI) : CallR X b.val (rBi A b) := by
  intro pins s σ H xs us Q I rx h
  obtain ⟨m, S, ds, R, L, p⟩ := h
  cases b with
  | len =>
    cases L with
    | nil => exact p.elim
    | cons a b =>
    cases b with
    | cons _ _ => cases a <;> exact (show False from p).elim
    | nil =>
    cases a <;> (try exact (show False from p).elim)
    · unfold biSem at p
      dsimp only at p
      split at p
      · exact call_len pins s σ H _ us Q I rx ⟨_, _, rfl, ⟨by assumption, rfl⟩, p m H _ Ext.refl R (.int _)⟩
      · exact p.elim
    · rename_i t l
      exact call_len pins s σ H _ us Q I rx ⟨_, _, rfl, .inr ⟨_, hK ▸ t, rfl⟩, p m H _ Ext.refl R (by rw [l.length]; exact .int _)⟩
    · rename_i t l
      exact call_len pins s σ H _ us Q I rx ⟨_, _, rfl, .inl ⟨_, hK ▸ t.sq, rfl⟩, p m H _ Ext.refl R (by rw [l.length]; exact .int _)⟩
    · rename_i e
      unfold biSem at p
      dsimp only at p
      split at p
      · rename_i hx
        obtain ⟨a1, v1, m1, g1, l1⟩ := R.lst hx
        rw [e] at m1; cases m1
        exact call_len pins s σ H _ us Q I rx ⟨_, _, rfl, .inl ⟨_, SqL.of g1, rfl⟩, p m H _ Ext.refl R (by rw [l1.length]; exact .int _)⟩
      · rename_i hx
        obtain ⟨a1, v1, m1, g1, l1⟩ := R.dk hx
        rw [e] at m1; cases m1
        exact call_lenD pins s σ H _ us Q I rx ⟨_, _, rfl, g1, p m H _ Ext.refl R (by rw [l1.length]; exact .int _)⟩
      · exact p.elim
  | int_ =>
    cases L with
    | nil => exact p.elim
    | cons a b =>
    cases b with
    | cons _ _ => cases a <;> exact (show False from p).elim
    | nil =>
    cases a <;> (try exact (show False from p).elim)
    · exact call_int1 pins s σ H _ us Q I rx (.inr ⟨_, rfl, p m H _ Ext.refl R (.int _)⟩)
    · exact call_int1 pins s σ H _ us Q I rx (.inl ⟨_, rfl, p m H _ Ext.refl R (.int _)⟩)
  | str_ =>
    cases L with
    | nil => exact p.elim
    | cons a b =>
    cases b with
    | cons _ _ => cases a <;> exact (show False from p).elim
    | nil =>
    cases a <;> (try exact (show False from p).elim)
    unfold biSem at p
    dsimp only at p
    split at p
    · exact call_str_int pins s σ H _ us Q I rx ⟨_, rfl, by assumption, p m H _ Ext.refl R (.str _)⟩
    · exact p.elim
  | abs_ =>
    cases L with
    | nil => exact p.elim
    | cons a b =>
    cases b with
    | cons _ _ => cases a <;> exact (show False from p).elim
    | nil =>
    cases a <;> (try exact (show False from p).elim)
    exact call_abs pins s σ H _ us Q I rx ⟨_, rfl, p m H _ Ext.refl R (.int _)⟩
  | max2 =>
    cases L with
    | nil => exact p.elim
    | cons a b =>
    cases b with
    | nil => cases a <;> exact (show False from p).elim
    | cons b c =>
    cases c with
    | cons _ _ => cases a <;> (try exact (show False from p).elim) <;> cases b <;> exact (show False from p).elim
    | nil =>
    cases a <;> (try exact (show False from p).elim) <;> cases b <;> (try exact (show False from p).elim)
    rename_i i j
    refine call_max2 hc pins s σ H _ us Q I rx ⟨i, j, rfl, ?_⟩
    have e : (if j > i then j else i) = max i j := by split <;> omega
    rw [e]
    exact p m H _ Ext.refl R (.int _)
  | min2 =>
    cases L with
    | nil => exact p.elim
    | cons a b =>
    cases b with
    | nil => cases a <;> exact (show False from p).elim
    | cons b c =>
    cases c with
    | cons _ _ => cases a <;> (try exact (show False from p).elim) <;> cases b <;> exact (show False from p).elim
    | nil =>
    cases a <;> (try exact (show False from p).elim) <;> cases b <;> (try exact (show False from p).elim)
    rename_i i j
    refine call_min2 hc pins s σ H _ us Q I rx ⟨i, j, rfl, ?_⟩
    have e : (if j < i then j else i) = min i j := by split <;> omega
    rw [e]
    exact p m H _ Ext.refl R (.int _)
  | max1 =>
    cases L with
    | nil => exact p.elim
    | cons a b =>
    rename_i d ds v vs
    cases b with
    | cons _ _ => exact (show False from p).elim
    | nil =>
    cases e : (listD d S).bind fun xs => (intsD xs).bind maxL with
    | none =>
      have e' : biSem .max1 [d] S = none := by unfold biSem; dsimp only; rw [e]; rfl
      rw [e'] at p; exact p.elim
    | some i =>
      have e' : biSem .max1 [d] S = some (.int i, S) := by unfold biSem; dsimp only; rw [e]; rfl
      obtain ⟨xs, h1, h2⟩ := Option.bind_eq_some_iff.mp e
      obtain ⟨ns, h3, h4⟩ := Option.bind_eq_some_iff.mp h2
      obtain ⟨q, ws, rfl, hq, l⟩ := list_of R a h1
      have e2 := ints_of h3 l
      subst e2
      obtain ⟨g1, g2, g3⟩ := maxL_spec h4
      refine cr_max hc pins s σ H _ us Q I rx ⟨_, ns, rfl, hK ▸ hq, g3, fun k k1 k2 => ?_⟩
      have ek : k = i := Int.le_antisymm (g2 k k1) (k2 i g1)
      subst ek
      exact p.at e' m H _ Ext.refl R (.int _)
  | min1 =>
    cases L with
    | nil => exact p.elim
    | cons a b =>
    rename_i d ds v vs
    cases b with
    | cons _ _ => exact (show False from p).elim
    | nil =>
    cases e : (listD d S).bind fun xs => (intsD xs).bind minL with
    | none =>
      have e' : biSem .min1 [d] S = none := by unfold biSem; dsimp only; rw [e]; rfl
      rw [e'] at p; exact p.elim
    | some i =>
      have e' : biSem .min1 [d] S = some (.int i, S) := by unfold biSem; dsimp only; rw [e]; rfl
      obtain ⟨xs, h1, h2⟩ := Option.bind_eq_some_iff.mp e
      obtain ⟨ns, h3, h4⟩ := Option.bind_eq_some_iff.mp h2
      obtain ⟨q, ws, rfl, hq, l⟩ := list_of R a h1
      have e2 := ints_of h3 l
      subst e2
      obtain ⟨g1, g2, g3⟩ := minL_spec h4
      refine cr_min hc pins s σ H _ us Q I rx ⟨_, ns, rfl, hK ▸ hq, g3, fun k k1 k2 => ?_⟩
      have ek : k = i := Int.le_antisymm (k2 i g1) (g2 k k1)
      subst ek
      exact p.at e' m H _ Ext.refl R (.int _)
  | sum_ =>
    cases L with
    | nil => exact p.elim
    | cons a b =>
    rename_i d ds v vs
    cases b with
    | cons _ _ => exact (show False from p).elim
    | nil =>
    cases e : (listD d S).bind intsD with
    | none =>
      have e' : biSem .sum_ [d] S = none := by unfold biSem; dsimp only; rw [e]; rfl
      rw [e'] at p; exact p.elim
    | some ns =>
      have e' : biSem .sum_ [d] S = some (.int ns.sum, S) := by unfold biSem; dsimp only; rw [e]; rfl
      obtain ⟨xs, h1, h3⟩ := Option.bind_eq_some_iff.mp e
      obtain ⟨q, ws, rfl, hq, l⟩ := list_of R a h1
      have e2 := ints_of h3 l
      subst e2
      exact cr_sum hc pins s σ H _ us Q I rx ⟨_, ns, rfl, hK ▸ hq, p.at e' m H _ Ext.refl R (.int _)⟩
  | all_ =>
    cases L with
    | nil => exact p.elim
    | cons a b =>
    rename_i d ds v vs
    cases b with
    | cons _ _ => exact (show False from p).elim
    | nil =>
    cases e : (listD d S).bind blsD with
    | none =>
      have e' : biSem .all_ [d] S = none := by unfold biSem; dsimp only; rw [e]; rfl
      rw [e'] at p; exact p.elim
    | some ns =>
      have e' : biSem .all_ [d] S = some (.bl (ns.all id), S) := by unfold biSem; dsimp only; rw [e]; rfl
      obtain ⟨xs, h1, h3⟩ := Option.bind_eq_some_iff.mp e
      obtain ⟨q, ws, rfl, hq, l⟩ := list_of R a h1
      have e2 := bls_of h3 l
      subst e2
      exact cr_all hc pins s σ H _ us Q I rx ⟨_, ns, rfl, hK ▸ hq, p.at e' m H _ Ext.refl R (.bl _)⟩
  | any_ =>
    cases L with
    | nil => exact p.elim
    | cons a b =>
    rename_i d ds v vs
    cases b with
    | cons _ _ => exact (show False from p).elim
    | nil =>
    cases e : (listD d S).bind blsD with
    | none =>
      have e' : biSem .any_ [d] S = none := by unfold biSem; dsimp only; rw [e]; rfl
      rw [e'] at p; exact p.elim
    | some ns =>
      have e' : biSem .any_ [d] S = some (.bl (ns.any id), S) := by unfold biSem; dsimp only; rw [e]; rfl
      obtain ⟨xs, h1, h3⟩ := Option.bind_eq_some_iff.mp e
      obtain ⟨q, ws, rfl, hq, l⟩ := list_of R a h1
      have e2 := bls_of h3 l
      subst e2
      exact cr_any hc pins s σ H _ us Q I rx ⟨_, ns, rfl, hK ▸ hq, p.at e' m H _ Ext.refl R (.bl _)⟩
  | list_ =>
    cases L with
    | nil => exact p.elim
    | cons a b =>
    rename_i d ds v vs
    cases b with
    | cons _ _ => exact (show False from p).elim
    | nil =>
    cases e : seqD d S with
    | none =>
      have e' : biSem .list_ [d] S = none := by unfold biSem; dsimp only; rw [e]; rfl
      rw [e'] at p; exact p.elim
    | some xs =>
      have e' : biSem .list_ [d] S = some (.loc S.length, S ++ [.lst xs]) := by unfold biSem; dsimp only; rw [e]; rfl
      obtain ⟨q, ws, rfl, hq, l⟩ := seq_of R a e
      refine call_list_of pins s σ H _ us Q I rx ⟨_, ws, rfl, hK ▸ hq, fun z hz => ?_⟩
      obtain ⟨a, b, c⟩ := newLst R l hz
      exact p.at e' _ _ _ b a c
  | tuple_ =>
    cases L with
    | nil => exact p.elim
    | cons a b =>
    rename_i d ds v vs
    cases b with
    | cons _ _ => exact (show False from p).elim
    | nil =>
    cases e : seqD d S with
    | none =>
      have e' : biSem .tuple_ [d] S = none := by unfold biSem; dsimp only; rw [e]; rfl
      rw [e'] at p; exact p.elim
    | some xs =>
      have e' : biSem .tuple_ [d] S = some (.tup xs, S) := by unfold biSem; dsimp only; rw [e]; rfl
      obtain ⟨q, ws, rfl, hq, l⟩ := seq_of R a e
      refine call_tuple_of pins s σ H _ us Q I rx ⟨_, ws, rfl, ?_⟩
      rcases hq with hq | hq
      · refine .inl ⟨hK ▸ hq, fun z hz => ?_⟩
        obtain ⟨a, b, c⟩ := newTup R l hz
        exact p.at e' _ _ _ b a c
      · exact .inr ⟨hK ▸ hq, p.at e' m H _ Ext.refl R (.tup hq l)⟩
  | isi =>
    cases L with
    | nil => exact p.elim
    | cons a b =>
    rename_i d ds v vs
    cases b with
    | nil => exact (show False from p).elim
    | cons b c =>
    cases c with
    | cons _ _ => cases b <;> exact (show False from p).elim
    | nil =>
    cases b <;> (try exact (show False from p).elim)
    rename_i n
    cases e : (tyName d S).bind fun t => (kitB t n).map fun b => ((.bl b, S) : D × Sto) with
    | none =>
      have e' : biSem .isi [d, .ty n] S = none := by unfold biSem; dsimp only; rw [e]
      rw [e'] at p; exact p.elim
    | some r =>
      have e' : biSem .isi [d, .ty n] S = some r := by unfold biSem; dsimp only; rw [e]
      obtain ⟨t, h1, h2⟩ := Option.bind_eq_some_iff.mp e
      obtain ⟨k, h3, rfl⟩ := Option.map_eq_some_iff.mp h2
      exact call_isi pins s σ H _ us Q I rx ⟨_, _, _, _, k, rfl, .ty n, ty_of R hK a h1, kit_ty h3, p.at e' m H _ Ext.refl R (.bl _)⟩
  | dict_ =>
    cases L with
    | nil => exact p.elim
    | cons a b =>
    cases b with
    | cons _ _ => cases a <;> exact (show False from p).elim
    | nil =>
    cases a <;> (try exact (show False from p).elim)
    rename_i e
    unfold biSem at p
    dsimp only at p
    split at p
    · rename_i hx
      obtain ⟨a1, v1, m1, g1, l1⟩ := R.dk hx
      rw [e] at m1; cases m1
      refine call_dictD pins s σ H _ us Q I rx ⟨_, v1, rfl, .inl g1, fun q hq => ?_⟩
      obtain ⟨Rn, en, rn⟩ := newDk R l1 hq
      exact p _ _ _ en Rn rn
    · rename_i hx
      obtain ⟨a1, m1, rc⟩ := R.cell _ _ hx
      rw [e] at m1; cases m1
      cases rc with
      | fk g1 l1 =>
      refine call_dictD pins s σ H _ us Q I rx ⟨_, _, rfl, .inr ⟨_, g1⟩, fun q hq => ?_⟩
      obtain ⟨Rn, en, rn⟩ := newDk R l1 hq
      exact p _ _ _ en Rn rn
    · exact p.elim
  | ord_ =>
    cases L with
    | nil => exact p.elim
    | cons a b =>
    cases b with
    | cons _ _ => cases a <;> exact (show False from p).elim
    | nil =>
    cases a <;> (try exact (show False from p).elim)
    unfold biSem at p
    dsimp only at p
    split at p
    · exact call_ord pins s σ H _ us Q I rx ⟨_, rfl, by assumption, p m H _ Ext.refl R (.int _)⟩
    · exact p.elim
  | repr_ =>
    cases L with
    | nil => exact p.elim
    | cons a b =>
    rename_i d ds v vs
    cases b with
    | cons _ _ => exact (show False from p).elim
    | nil =>
    have go : ∀ (x : Addr), v = .ref x → PO A m H ((toR S 32 d).bind fun q => if q.showable = true ∧ q.depth ≤ 60 ∧ q.shown.length ≤ sizeLine then some (.str q.shown, S) else none) Q → wpAny (model X.prog X.w) X.A (call BI.repr_.val us) (EP X pins σ Q) X.xe s := by
      rintro x rfl p
      cases e : toR S 32 d with
      | none => rw [e] at p; exact p.elim
      | some q =>
        rw [e] at p
        by_cases c : q.showable = true ∧ q.depth ≤ 60 ∧ q.shown.length ≤ sizeLine
        · have e2 : (if q.showable = true ∧ q.depth ≤ 60 ∧ q.shown.length ≤ sizeLine then some (D.str q.shown, S) else none) = some (D.str q.shown, S) := if_pos c
          exact call_repr hy gd hu pins s σ H _ us Q I rx ⟨x, q, rfl, hK ▸ dq_of R _ _ _ _ e a, c.1, c.2.1, c.2.2, PO.at (r := (some q).bind _) p e2 m H _ Ext.refl R (.str _)⟩
        · have e2 : (if q.showable = true ∧ q.depth ≤ 60 ∧ q.shown.length ≤ sizeLine then some (D.str q.shown, S) else none) = none := if_neg c
          have p2 : PO A m H (if q.showable = true ∧ q.depth ≤ 60 ∧ q.shown.length ≤ sizeLine then some (D.str q.shown, S) else none) Q := p
          rw [e2] at p2
          exact p2.elim
    cases a with
    | tup t l => exact go _ rfl p
    | rl t l => exact go _ rfl p
    | loc e => exact go _ rfl p
    | _ => exact (show False from p).elim
def BM.id : BM → String
  | .append => "list.append" | .extend => "list.extend" | .pop => "list.pop" | .reverse => "list.reverse"
theorem bm_ok (b : BM) : MtR X b.id (rBm A b) := by
  intro pins s σ H x xs v us Q I rx rxs h
  obtain ⟨m, S, dx, ds, R, r1, L, p⟩ := h
  cases r1 <;> (try exact (show False from p).elim)
  rename_i i a e
  unfold bmSem at p
  dsimp only at p
  split at p
  · rename_i ys hx
    obtain ⟨a1, v1, m1, g1, l1⟩ := R.lst hx
    rw [e] at m1; cases m1
    split at p
    · rename_i d
      obtain ⟨w, rfl, rw⟩ := L.one
      split at p
      · obtain ⟨a, b⟩ := R.setLst e g1 (l1.app L)
        exact mt_append pins s σ H _ _ v us Q I rx rxs ⟨_, _, _, rfl, rfl, g1, by rw [l1.length]; assumption, p m _ _ b a .non⟩
      · exact p.elim
    · rename_i c
      obtain ⟨w, rfl, rw'⟩ := L.one
      split at p
      · rename_i zs hz
        obtain ⟨a2, v2, m2, g2, l2⟩ := R.lst hz
        cases rw' with
        | loc e2 =>
        rw [e2] at m2; cases m2
        split at p
        · obtain ⟨a, b⟩ := R.setLst e g1 (l1.app l2)
          exact mt_extend pins s σ H _ _ v us Q I rx rxs ⟨_, _, _, _, rfl, rfl, g1, g2, by rw [l1.length, l2.length]; assumption, p m _ _ b a .non⟩
        · exact p.elim
      · exact p.elim
    · cases L
      cases hl : ys[ys.length - 1]? with
      | none => rw [hl] at p; exact p.elim
      | some d =>
        rw [hl] at p
        obtain ⟨w, h1, h2⟩ := l1.get hl
        obtain ⟨a, b⟩ := R.setLst e g1 l1.dropLast
        exact mt_pop pins s σ H _ _ v us Q I rx rxs ⟨_, _, w, rfl, rfl, g1, by rw [l1.length]; exact h1, p m _ _ b a (h2.mono b)⟩
    · cases L
      obtain ⟨a, b⟩ := R.setLst e g1 l1.rev
      exact mt_reverse pins s σ H _ _ v us Q I rx rxs ⟨_, _, rfl, rfl, g1, p m _ _ b a .non⟩
    · exact p.elim
  · exact p.elim
theorem seti_ok (hu : X.A.units + 1 < cLine) : PSet X (rSetI A) := by
  intro pins s σ H o i v ov iv u Q I ro ri rv h
  obtain ⟨m, S, dx, dy, d, R, r1, r2, r3, p⟩ := h
  cases r1 <;> (try exact (show False from p).elim)
  rename_i k a e
  cases hs : setSem (.loc k) dy d S with
  | none => rw [hs] at p; exact p.elim
  | some S' =>
    rw [hs] at p
    simp only [setSem] at hs
    split at hs
    · rename_i xs j hx
      obtain ⟨n, h1, rfl⟩ := Option.map_eq_some_iff.mp hs
      obtain ⟨a1, v1, m1, g1, l1⟩ := R.lst hx
      rw [e] at m1; cases m1
      cases r2
      obtain ⟨a, b⟩ := R.setLst e g1 (l1.set r3 n)
      exact set_list pins s σ H _ _ v ov iv u Q I ro ri rv ⟨_, _, _, n, rfl, rfl, g1, by rw [l1.length]; exact h1, p m _ b a⟩
    · rename_i kvs j hx
      split at hs
      · cases hs
        obtain ⟨a1, ws, m1, g1, l1⟩ := R.dk hx
        rw [e] at m1; cases m1
        cases r2
        obtain rfl : ov = Value.ref _ := ro
        have ex : Ext A m H m (upd H a (.dK (putK ws (.inl j) v))) := Ext.write g1 (fun _ z => by cases z) fun _ _ z => by cases z
        have R' := R.write (o := .dK (putK ws (.inl j) v)) (c := .dk (putD kvs (.inl j) d)) e ex (.dk upd_same (RepK.mono ex (l1.put r3)))
        exact d_setItem hu I (DPut.k (k := .inl j) g1 (by rw [l1.length]; assumption)) ri rv fun s' I' => ⟨_, I', p m _ ex R'⟩
      · cases hs
    · rename_i kvs j hx
      split at hs
      · cases hs
        obtain ⟨a1, ws, m1, g1, l1⟩ := R.dk hx
        rw [e] at m1; cases m1
        cases r2
        obtain rfl : ov = Value.ref _ := ro
        have ex : Ext A m H m (upd H a (.dK (putK ws (.inr j) v))) := Ext.write g1 (fun _ z => by cases z) fun _ _ z => by cases z
        have R' := R.write (o := .dK (putK ws (.inr j) v)) (c := .dk (putD kvs (.inr j) d)) e ex (.dk upd_same (RepK.mono ex (l1.put r3)))
        exact d_setItem hu I (DPut.k (k := .inr j) g1 (by rw [l1.length]; assumption)) ri rv fun s' I' => ⟨_, I', p m _ ex R'⟩
      · cases hs
    · cases hs
end
end DI

set_option Elab.async false
set_option linter.all false
set_option maxRecDepth 100000
set_option maxHeartbeats 4000000
/-! The layer's judgements by what the language says: one lemma a construct. -/
namespace DI
open L2 PySem PySem.Spec PyProof.Rows

inductive RepX (A : Ad) (m : List Addr) (H : Hp) : Option (List (Str × D)) → Option Addr → Prop
  | no : RepX A m H none none
  | so {fs : List (Str × D)} {d : Addr} {ws : List (Str × V)} : H d = some (.xd ws) → RepK A m H fs ws → RepX A m H (some fs) (some d)
def RepS (A : Ad) (m : List Addr) (H : Hp) (σD : Sl) (σ : L2.St) : Prop := σ.length = σD.length ∧ ∀ (i : Nat) (d : D), σD[i]? = some (some d) → ∃ v, σ[i]? = some (some v) ∧ RepD A m H d v
def Post {α β : Type} (A : Ad) (E : XK) (R : List Addr → Hp → α → β → Prop) (m : List Addr) (H : Hp) (o : Out α) (Q : β → Hp → Prop) : Prop :=
  match o with
  | .ok a S' => ∀ m' H' b, Ext A m H m' H' → Rep A m' S' H' → R m' H' a b → Q b H'
  | .err c fs S' => ∀ m' H' dd, Ext A m H m' H' → Rep A m' S' H' → RepX A m' H' fs dd → E (.ref (A.cl c)) dd H'
  | .bad => False
def tG {α β : Type} (A : Ad) (E : XK) (R : List Addr → Hp → α → β → Prop) (f : Sl → Sto → Out α) : L2.St → Hp → (β → Hp → Prop) → Prop :=
  fun σ H Q => ∃ m S σD, Rep A m S H ∧ RepS A m H σD σ ∧ Post A E R m H (f σD S) Q
abbrev tE (A : Ad) (E : XK) (f : Sl → Sto → Out D) : TE := tG A E (RepD A) f
def RB : List Addr → Hp → D → Bool → Prop := fun _ _ d b => d = .bl b
abbrev tT (A : Ad) (E : XK) (f : Sl → Sto → Out D) : TT := tG A E RB f
abbrev tAs (A : Ad) (E : XK) (f : Sl → Sto → Out (List D)) : TA := tG A E (RepL A) f
def RO : List Addr → Hp → Option Int → Option Int → Prop := fun _ _ d b => d = b
abbrev tOx (A : Ad) (E : XK) (f : Sl → Sto → Out (Option Int)) : TO := tG A E RO f

section
variable {α β γ δ : Type} {A : Ad} {E : XK} {R1 : List Addr → Hp → α → β → Prop} {R2 : List Addr → Hp → γ → δ → Prop} {m m' : List Addr} {H H' : Hp} {o : Out α} {S : Sto}
theorem RepS.mono {σD : Sl} {σ : L2.St} (h : RepS A m H σD σ) (e : Ext A m H m' H') : RepS A m' H' σD σ := ⟨h.1, fun i d x => let ⟨v, a, b⟩ := h.2 i d x; ⟨v, a, b.mono e⟩⟩
theorem RepS.set {σD : Sl} {σ : L2.St} (h : RepS A m H σD σ) {d : D} {v : V} (r : RepD A m H d v) (i : Nat) : RepS A m H (σD.set i (some d)) (σ.set i (some v)) := by
  refine ⟨by rw [List.length_set, List.length_set]; exact h.1, fun j e hj => ?_⟩
  by_cases c : i = j
  · subst c
    have hl : i < σD.length := by
      have := (List.getElem?_eq_some_iff.mp hj).1
      rwa [List.length_set] at this
    rw [List.getElem?_set_self hl] at hj
    cases hj
    exact ⟨v, by rw [List.getElem?_set_self (by rw [h.1]; exact hl)], r⟩
  · rw [List.getElem?_set_ne c] at hj
    rw [List.getElem?_set_ne c]
    exact h.2 j e hj
theorem RepS.none {σD : Sl} {σ : L2.St} (h : RepS A m H σD σ) (i : Nat) : RepS A m H (σD.set i none) (σ.set i none) := by
  refine ⟨by rw [List.length_set, List.length_set]; exact h.1, fun j e hj => ?_⟩
  by_cases c : i = j
  · subst c
    have hl : i < σD.length := by
      have := (List.getElem?_eq_some_iff.mp hj).1
      rwa [List.length_set] at this
    rw [List.getElem?_set_self hl] at hj
    cases hj
  · rw [List.getElem?_set_ne c] at hj
    rw [List.getElem?_set_ne c]
    exact h.2 j e hj
theorem RepS.wipe {σD : Sl} {σ : L2.St} (h : RepS A m H σD σ) : ∀ vs : List Nat, RepS A m H (wipeD σD vs) (L2.wipe σ vs)
  | [] => h
  | v :: vs => (RepS.wipe h vs).none v
theorem Post.mono {Q Q' : β → Hp → Prop} (p : Post A E R1 m H o Q) (h : ∀ b H', Q b H' → Q' b H') : Post A E R1 m H o Q' := by
  cases o with
  | ok a S => exact fun m' H' b e r x => h _ _ (p m' H' b e r x)
  | err c fs S => exact p
  | bad => exact p
theorem Post.base {Q : β → Hp → Prop} (p : Post A E R1 m H o Q) (e : Ext A m H m' H') : Post A E R1 m' H' o Q := by
  cases o with
  | ok a S => exact fun m2 H2 b e2 r x => p m2 H2 b (e.trans e2) r x
  | err c fs S => exact fun m2 H2 b e2 r x => p m2 H2 b (e.trans e2) r x
  | bad => exact p
theorem Post.seq {f : α → Sto → Out γ} {Q : δ → Hp → Prop} (p : Post A E R2 m H (o.bind f) Q) :
    Post A E R1 m H o (fun b H1 => ∃ m1 S1 a, Ext A m H m1 H1 ∧ Rep A m1 S1 H1 ∧ R1 m1 H1 a b ∧ Post A E R2 m1 H1 (f a S1) Q) := by
  cases o with
  | ok a S => exact fun m1 H1 b e r x => ⟨m1, S, a, e, r, x, Post.base (o := f a S) p e⟩
  | err c fs S => exact p
  | bad => exact p
theorem Post.po {r : Option (D × Sto)} {Q : VK} (p : Post A E (RepD A) m H (.of r) Q) : PO A m H r Q := by
  cases r with
  | none => exact p
  | some z => exact p
theorem Post.pd (R : Rep A m S H) {r : Option D} {Q : VK} (p : Post A E (RepD A) m H (.at S r) Q) : PD A m H r Q := by
  cases r with
  | none => exact p
  | some z => exact fun v rv => p m H v Ext.refl R rv
theorem Post.pb (R : Rep A m S H) {r : Option Bool} {Q : VK} (p : Post A E (RepD A) m H (.at S (r.map D.bl)) Q) : PB r fun b => Q (.bl b) H := by
  cases r with
  | none => exact p
  | some z => exact p m H _ Ext.refl R (.bl z)
theorem Post.pt (R : Rep A m S H) {r : Option Bool} {Q : Bool → Hp → Prop} (p : Post A E RB m H (.at S (r.map D.bl)) Q) : PB r fun b => Q b H := by
  cases r with
  | none => exact p
  | some z => exact p m H _ Ext.refl R rfl
theorem Post.ok (R : Rep A m S H) {a : α} {b : β} {Q : β → Hp → Prop} (p : Post A E R1 m H (.ok a S) Q) (r : R1 m H a b) : Q b H := p m H b Ext.refl R r
end
theorem PEi {X : Cx} {e : Expr} {t t' : TE} (h : PE X e t) (i : ∀ σ H Q, t' σ H Q → t σ H Q) : PE X e t' := ⟨fun pins s σ H Q I hw => h.run pins s σ H Q I (i _ _ _ hw)⟩
theorem PTi {X : Cx} {e : Expr} {t t' : TT} (h : PT X e t) (i : ∀ σ H Q, t' σ H Q → t σ H Q) : PT X e t' := ⟨fun pins s σ H Q I hw => h.run pins s σ H Q I (i _ _ _ hw)⟩
theorem PWi {X : Cx} {e : Expr} {t t' : TT} (h : PW X e t) (i : ∀ σ H Q, t' σ H Q → t σ H Q) : PW X e t' := ⟨fun wh pins s σ H Q I hw => h.run wh pins s σ H Q I (i _ _ _ hw)⟩
theorem PAi {X : Cx} {e : List Expr} {t t' : TA} (h : PA X e t) (i : ∀ σ H Q, t' σ H Q → t σ H Q) : PA X e t' := ⟨fun pos pins s σ H Q I hw => h.run pos pins s σ H Q I (i _ _ _ hw)⟩
theorem PSi {X : Cx} {e : Stmt} {t t' : TS} (h : PS X e t) (i : ∀ D σ H, t' D σ H → t D σ H) : PS X e t' := ⟨fun pins s σ H D I hw => h.run pins s σ H D I (i _ _ _ hw)⟩
theorem PSsi {X : Cx} {e : List Stmt} {t t' : TS} (h : PSs X e t) (i : ∀ D σ H, t' D σ H → t D σ H) : PSs X e t' := ⟨fun pins s σ H D I hw => h.run pins s σ H D I (i _ _ _ hw)⟩

section
variable {X : Cx} {A : Ad} {E : XK} {a b c : Expr} {fa fb fc : Sl → Sto → Out D} {pos : Pos}
theorem s_cst {d : D} {v : V} {e : Expr} (h : PE X e (tC v)) (r : ∀ m H, RepD A m H d v) : PE X e (tE A E fun _ S => .ok d S) :=
  PEi h fun σ H Q ⟨m, S, σD, R, Rs, p⟩ => p.ok R (r m H)
theorem s_var {i : Nat} {x : Str} (h : PE X (.Name x pos) (tVar i)) : PE X (.Name x pos) (tE A E fun σ S => match σ[i]? with | some (some d) => .ok d S | _ => .bad) :=
  PEi h fun σ H Q ⟨m, S, σD, R, Rs, p⟩ => by
    dsimp only at p
    split at p
    · rename_i d hd
      obtain ⟨v, h1, h2⟩ := Rs.2 i d hd
      exact ⟨v, h1, p.ok R h2⟩
    · exact p.elim
theorem s_bin (hK : A.K = X.K) {o : Operator} (ha : PE X a (tE A E fa)) (hb : PE X b (tE A E fb)) :
    PE X (.BinOp a o b pos) (tE A E fun σ S => (fa σ S).bind fun x S => (fb σ S).bind fun y S => .of (opSem o x y S)) :=
  PEi (pe_op (op_ok hK o) ha hb) fun σ H Q ⟨m, S, σD, R, Rs, p⟩ =>
    ⟨m, S, σD, R, Rs, p.seq.mono fun x H1 ⟨m1, S1, dx, e1, R1, rx, p1⟩ => ⟨m1, S1, σD, R1, Rs.mono e1, p1.seq.mono fun y H2 ⟨m2, S2, dy, e2, R2, ry, p2⟩ => ⟨m2, S2, dx, dy, R2, rx.mono e2, ry, p2.po⟩⟩⟩
theorem s_neg (ha : PE X a (tE A E fa)) : PE X (.UnaryOp .USub a pos) (tE A E fun σ S => (fa σ S).bind fun x S => match x with | .int i => .ok (.int (-i)) S | _ => .bad) :=
  PEi (pe_un un_neg ha) fun σ H Q ⟨m, S, σD, R, Rs, p⟩ => ⟨m, S, σD, R, Rs, p.seq.mono fun x H1 ⟨m1, S1, dx, e1, R1, rx, p1⟩ => by
    cases rx <;> (try exact (show False from p1).elim)
    exact ⟨_, rfl, p1.ok R1 (.int _)⟩⟩
theorem s_cmp (hK : A.K = X.K) (hW : A.w = X.w) (hu : X.A.units + 64 < cLine) {o : CmpOp} (ha : PE X a (tE A E fa)) (hb : PE X b (tE A E fb)) (hm : behindInMarks o b = false) :
    PE X (.Compare a [o] [b] pos) (tE A E fun σ S => (fa σ S).bind fun x S => (fb σ S).bind fun y S => .at S ((cmpSem o x y S).map D.bl)) :=
  PEi (pe_cmpR (cmp_ok hK hW hu o) ha hb hm) fun σ H Q ⟨m, S, σD, R, Rs, p⟩ =>
    ⟨m, S, σD, R, Rs, p.seq.mono fun x H1 ⟨m1, S1, dx, e1, R1, rx, p1⟩ => ⟨m1, S1, σD, R1, Rs.mono e1, p1.seq.mono fun y H2 ⟨m2, S2, dy, e2, R2, ry, p2⟩ => ⟨m2, S2, dx, dy, R2, rx.mono e2, ry, p2.pb R2⟩⟩⟩
theorem s_cmpT (hK : A.K = X.K) (hW : A.w = X.w) (hu : X.A.units + 64 < cLine) {o : CmpOp} (ha : PE X a (tE A E fa)) (hb : PE X b (tE A E fb)) (hm : behindInMarks o b = false) :
    PT X (.Compare a [o] [b] pos) (tT A E fun σ S => (fa σ S).bind fun x S => (fb σ S).bind fun y S => .at S ((cmpSem o x y S).map D.bl)) :=
  PTi (pt_cmpR (cmp_ok hK hW hu o) ha hb hm) fun σ H Q ⟨m, S, σD, R, Rs, p⟩ =>
    ⟨m, S, σD, R, Rs, p.seq.mono fun x H1 ⟨m1, S1, dx, e1, R1, rx, p1⟩ => ⟨m1, S1, σD, R1, Rs.mono e1, p1.seq.mono fun y H2 ⟨m2, S2, dy, e2, R2, ry, p2⟩ => ⟨m2, S2, dx, dy, R2, rx.mono e2, ry, by
      have q := p2.pt R2
      cases hc : cmpSem o dx dy S2 with
      | none => rw [hc] at q; exact q
      | some k => rw [hc] at q; exact ⟨k, rfl, q⟩⟩⟩⟩
theorem s_chn (hK : A.K = X.K) (hW : A.w = X.w) (hu : X.A.units + 64 < cLine) {o o' : CmpOp} (ha : PE X a (tE A E fa)) (hb : PE X b (tE A E fb)) (hc : PE X c (tE A E fc)) (hm : lastMarks [o, o'] [b, c] = false) :
    PE X (.Compare a [o, o'] [b, c] pos) (tE A E fun σ S => (fa σ S).bind fun x S => (fb σ S).bind fun y S => match cmpSem o x y S with
      | some true => (fc σ S).bind fun z S => .at S ((cmpSem o' y z S).map D.bl)
      | some false => .ok (.bl false) S
      | none => .bad) :=
  PEi (pe_chain (cmp_ok hK hW hu o) (cmp_ok hK hW hu o') ha hb hc hm) fun σ H Q ⟨m, S, σD, R, Rs, p⟩ =>
    ⟨m, S, σD, R, Rs, p.seq.mono fun x H1 ⟨m1, S1, dx, e1, R1, rx, p1⟩ => ⟨m1, S1, σD, R1, Rs.mono e1, p1.seq.mono fun y H2 ⟨m2, S2, dy, e2, R2, ry, p2⟩ => ⟨m2, S2, dx, dy, R2, rx.mono e2, ry, by
      cases hc : cmpSem o dx dy S2 with
      | none => rw [hc] at p2; exact p2
      | some k =>
        rw [hc] at p2
        refine ⟨k, rfl, ?_⟩
        cases k with
        | false => exact iteF (p2.ok R2 (.bl false))
        | true =>
          exact iteT ⟨m2, S2, σD, R2, Rs.mono (e1.trans e2), (Post.seq p2).mono fun z H3 ⟨m3, S3, dz, e3, R3, rz, p3⟩ => ⟨m3, S3, dy, dz, R3, ry.mono e3, rz, p3.pb R3⟩⟩⟩⟩⟩
theorem s_chnT (hK : A.K = X.K) (hW : A.w = X.w) (hu : X.A.units + 64 < cLine) {o o' : CmpOp} (ha : PE X a (tE A E fa)) (hb : PE X b (tE A E fb)) (hc : PE X c (tE A E fc)) (hm : lastMarks [o, o'] [b, c] = false) :
    PT X (.Compare a [o, o'] [b, c] pos) (tT A E fun σ S => (fa σ S).bind fun x S => (fb σ S).bind fun y S => match cmpSem o x y S with
      | some true => (fc σ S).bind fun z S => .at S ((cmpSem o' y z S).map D.bl)
      | some false => .ok (.bl false) S
      | none => .bad) :=
  PTi (pt_chain (cmp_ok hK hW hu o) (cmp_ok hK hW hu o') ha hb hc hm) fun σ H Q ⟨m, S, σD, R, Rs, p⟩ =>
    ⟨m, S, σD, R, Rs, p.seq.mono fun x H1 ⟨m1, S1, dx, e1, R1, rx, p1⟩ => ⟨m1, S1, σD, R1, Rs.mono e1, p1.seq.mono fun y H2 ⟨m2, S2, dy, e2, R2, ry, p2⟩ => ⟨m2, S2, dx, dy, R2, rx.mono e2, ry, by
      cases hc : cmpSem o dx dy S2 with
      | none => rw [hc] at p2; exact p2
      | some k =>
        rw [hc] at p2
        refine ⟨k, rfl, ?_⟩
        cases k with
        | false => exact iteF ⟨false, rfl, p2.ok R2 rfl⟩
        | true =>
          exact iteT ⟨m2, S2, σD, R2, Rs.mono (e1.trans e2), (Post.seq p2).mono fun z H3 ⟨m3, S3, dz, e3, R3, rz, p3⟩ => ⟨m3, S3, dy, dz, R3, ry.mono e3, rz, by
            have q := p3.pt R3
            cases hc : cmpSem o' dy dz S3 with
            | none => rw [hc] at q; exact q
            | some k => rw [hc] at q; exact ⟨k, rfl, q⟩⟩⟩⟩⟩⟩
/-- a plain expression as a test -/
theorem s_plain (hK : A.K = X.K) {e : Expr} {f : Sl → Sto → Out D} (h : PE X e (tE A E f)) (he : ∀ whole, isTrue e X.env whole = (do let v ← whole; standAt e.pos; holding [v] (truthy v))) :
    PT X e (tT A E fun σ S => fin true (f σ S)) :=
  PTi (pt_truth h he) fun σ H Q ⟨m, S, σD, R, Rs, p⟩ => ⟨m, S, σD, R, Rs, (Post.seq (f := fun d S => .at S ((truSem d S).map D.bl)) p).mono fun x H1 ⟨m1, S1, dx, e1, R1, rx, p1⟩ => by
    have q := p1.pt R1
    cases hc : truSem dx S1 with
    | none => rw [hc] at q; exact q.elim
    | some k => rw [hc] at q; exact ⟨k, tru_of hK R1 rx hc, q⟩⟩
theorem s_not (hK : A.K = X.K) (ha : PE X a (tE A E fa)) : PE X (.UnaryOp .Not a pos) (tE A E fun σ S => (fa σ S).bind fun x S => .at S ((truSem x S).map fun b => D.bl (!b))) :=
  PEi (pe_notT ha) fun σ H Q ⟨m, S, σD, R, Rs, p⟩ => ⟨m, S, σD, R, Rs, p.seq.mono fun x H1 ⟨m1, S1, dx, e1, R1, rx, p1⟩ => by
    cases hc : truSem dx S1 with
    | none => rw [hc] at p1; exact p1.elim
    | some k => rw [hc] at p1; exact ⟨k, tru_of hK R1 rx hc, p1.ok R1 (.bl _)⟩⟩
theorem s_notT (ha : PT X a (tT A E fa)) : PT X (.UnaryOp .Not a pos) (tT A E fun σ S => (fa σ S).bind fun x S => .at S ((truSem x S).map fun b => D.bl (!b))) :=
  PTi (pt_not ha) fun σ H Q ⟨m, S, σD, R, Rs, p⟩ => ⟨m, S, σD, R, Rs, p.seq.mono fun x H1 ⟨m1, S1, dx, e1, R1, rx, p1⟩ => by
    have e : dx = .bl x := rx
    subst e
    exact p1.ok R1 rfl⟩
theorem s_and (hK : A.K = X.K) {es : List Expr} (ha : PE X a (tE A E fa)) (hb : PE X (.BoolOp .And (b :: es) pos) (tE A E fb)) :
    PE X (.BoolOp .And (a :: b :: es) pos) (tE A E fun σ S => (fa σ S).bind fun x S => match truSem x S with | some true => fb σ S | some false => .ok x S | none => .bad) :=
  PEi (pe_andT ha hb) fun σ H Q ⟨m, S, σD, R, Rs, p⟩ => ⟨m, S, σD, R, Rs, p.seq.mono fun x H1 ⟨m1, S1, dx, e1, R1, rx, p1⟩ => by
    cases hc : truSem dx S1 with
    | none => rw [hc] at p1; exact p1.elim
    | some k =>
      rw [hc] at p1
      refine ⟨k, tru_of hK R1 rx hc, ?_⟩
      cases k with
      | false => exact iteF (p1.ok R1 rx)
      | true => exact iteT ⟨m1, S1, σD, R1, Rs.mono e1, p1⟩⟩
theorem s_or (hK : A.K = X.K) {es : List Expr} (ha : PE X a (tE A E fa)) (hb : PE X (.BoolOp .Or (b :: es) pos) (tE A E fb)) :
    PE X (.BoolOp .Or (a :: b :: es) pos) (tE A E fun σ S => (fa σ S).bind fun x S => match truSem x S with | some true => .ok x S | some false => fb σ S | none => .bad) :=
  PEi (pe_orT ha hb) fun σ H Q ⟨m, S, σD, R, Rs, p⟩ => ⟨m, S, σD, R, Rs, p.seq.mono fun x H1 ⟨m1, S1, dx, e1, R1, rx, p1⟩ => by
    cases hc : truSem dx S1 with
    | none => rw [hc] at p1; exact p1.elim
    | some k =>
      rw [hc] at p1
      refine ⟨k, tru_of hK R1 rx hc, ?_⟩
      cases k with
      | true => exact iteT (p1.ok R1 rx)
      | false => exact iteF ⟨m1, S1, σD, R1, Rs.mono e1, p1⟩⟩
theorem s_andT {es : List Expr} (ha : PT X a (tT A E fa)) (hb : PW X (.BoolOp .And (b :: es) pos) (tT A E fb)) :
    PW X (.BoolOp .And (a :: b :: es) pos) (tT A E fun σ S => (fa σ S).bind fun x S => match truSem x S with | some true => fb σ S | some false => .ok x S | none => .bad) :=
  PWi (pw_and ha hb) fun σ H Q ⟨m, S, σD, R, Rs, p⟩ => ⟨m, S, σD, R, Rs, p.seq.mono fun x H1 ⟨m1, S1, dx, e1, R1, rx, p1⟩ => by
    have e : dx = .bl x := rx
    subst e
    cases x with
    | false => exact iteF (p1.ok R1 rfl)
    | true => exact iteT ⟨m1, S1, σD, R1, Rs.mono e1, p1⟩⟩
theorem s_orT {es : List Expr} (ha : PT X a (tT A E fa)) (hb : PW X (.BoolOp .Or (b :: es) pos) (tT A E fb)) :
    PW X (.BoolOp .Or (a :: b :: es) pos) (tT A E fun σ S => (fa σ S).bind fun x S => match truSem x S with | some true => .ok x S | some false => fb σ S | none => .bad) :=
  PWi (pw_or ha hb) fun σ H Q ⟨m, S, σD, R, Rs, p⟩ => ⟨m, S, σD, R, Rs, p.seq.mono fun x H1 ⟨m1, S1, dx, e1, R1, rx, p1⟩ => by
    have e : dx = .bl x := rx
    subst e
    cases x with
    | true => exact iteT (p1.ok R1 rfl)
    | false => exact iteF ⟨m1, S1, σD, R1, Rs.mono e1, p1⟩⟩
theorem Post.tst {γ δ : Type} {R2 : List Addr → Hp → γ → δ → Prop} {m : List Addr} {H : Hp} {o : Out D} {f : Bool → Sto → Out γ} {Q : δ → Hp → Prop} (p : Post A E R2 m H ((tstO o).bind f) Q) :
    Post A E RB m H o (fun b H1 => ∃ m1 S1, Ext A m H m1 H1 ∧ Rep A m1 S1 H1 ∧ Post A E R2 m1 H1 (f b S1) Q) := by
  cases o with
  | ok d S1 =>
    intro m1 H1 x e1 R1 rx
    have e : d = .bl x := rx
    subst e
    exact ⟨m1, S1, e1, R1, Post.base (o := f x S1) p e1⟩
  | err c fs S1 => exact p
  | bad => exact p
theorem s_ite {g : Sl → Sto → Out D} {t : Expr} (ht : PT X t (tT A E g)) (ha : PE X a (tE A E fa)) (hb : PE X b (tE A E fb)) :
    PE X (.IfExp t a b pos) (tE A E fun σ S => (tstO (g σ S)).bind fun t S => if t = true then fa σ S else fb σ S) :=
  PEi (pe_ifExp ht ha hb) fun σ H Q ⟨m, S, σD, R, Rs, p⟩ => ⟨m, S, σD, R, Rs, p.tst.mono fun x H1 ⟨m1, S1, e1, R1, p1⟩ => by
    cases x with
    | true => exact iteT ⟨m1, S1, σD, R1, Rs.mono e1, p1⟩
    | false => exact iteF ⟨m1, S1, σD, R1, Rs.mono e1, p1⟩⟩
theorem pt_ifExp {t : Expr} {tt ta tb : TT} (ht : PT X t tt) (ha : PT X a ta) (hb : PT X b tb) : PT X (.IfExp t a b pos) (fun σ H Q => tt σ H fun c H1 => if c = true then ta σ H1 Q else tb σ H1 Q) := by
  refine ⟨fun pins s σ H Q I h => ?_⟩
  refine isTrue_IfExp (thn (ht.run pins s σ H _ I h) fun d s1 ⟨H1, I1, q1⟩ => ?_)
  cases d with
  | true => exact ha.run pins s1 σ H1 Q I1 q1
  | false => exact hb.run pins s1 σ H1 Q I1 q1
theorem s_iteT {g : Sl → Sto → Out D} {t : Expr} (ht : PT X t (tT A E g)) (ha : PT X a (tT A E fa)) (hb : PT X b (tT A E fb)) :
    PT X (.IfExp t a b pos) (tT A E fun σ S => (tstO (g σ S)).bind fun t S => if t = true then fa σ S else fb σ S) :=
  PTi (pt_ifExp ht ha hb) fun σ H Q ⟨m, S, σD, R, Rs, p⟩ => ⟨m, S, σD, R, Rs, p.tst.mono fun x H1 ⟨m1, S1, e1, R1, p1⟩ => by
    cases x with
    | true => exact iteT ⟨m1, S1, σD, R1, Rs.mono e1, p1⟩
    | false => exact iteF ⟨m1, S1, σD, R1, Rs.mono e1, p1⟩⟩
theorem s_fld {cI : Nat} {f : Str} (cl : Cls X.K (A.cl cI)) (na : NoAttr X.K (A.cl cI) f) (ha : PE X a (tE A E fa)) (hb : attributeBase a f X.env (eval a X.env) = eval a X.env) :
    PE X (.Attribute a f pos) (tE A E fun σ S => (fa σ S).bind fun x S => .at S (fldSem x cI f S)) :=
  PEi (pe_fld ha hb) fun σ H Q ⟨m, S, σD, R, Rs, p⟩ => ⟨m, S, σD, R, Rs, p.seq.mono fun x H1 ⟨m1, S1, dx, e1, R1, rx, p1⟩ => by
    have q := p1.pd R1
    cases hc : fldSem dx cI f S1 with
    | none => rw [hc] at q; exact q.elim
    | some d =>
      rw [hc] at q
      cases rx with
      | loc e =>
        simp only [fldSem] at hc
        split at hc
        · rename_i c' fs hx
          split at hc
          · rename_i ec
            subst ec
            obtain ⟨a1, dx, ws, m1', g1, l1⟩ := R1.ins hx
            rw [e] at m1'; cases m1'
            rcases l1.lookup (f := f) with ⟨d', v, h1, h2, h3⟩ | ⟨h1, _⟩
            · rw [hc] at h1; cases h1
              exact ⟨_, _, _, _, v, rfl, g1, cl, na, h2, q v h3⟩
            · rw [hc] at h1; cases h1
          · cases hc
        · cases hc
      | _ => cases hc⟩
theorem s_ix (hK : A.K = X.K) (hW : A.w = X.w) (hu : X.A.units + 64 < cLine) (ha : PE X a (tE A E fa)) (hb : PE X b (tE A E fb)) (hs : PlainIx b) :
    PE X (.Subscript a b pos) (tE A E fun σ S => (fa σ S).bind fun x S => (fb σ S).bind fun y S => .at S (itemSem x y S)) :=
  PEi (pe_ix (ix_ok hK hW hu) ha hb hs) fun σ H Q ⟨m, S, σD, R, Rs, p⟩ =>
    ⟨m, S, σD, R, Rs, p.seq.mono fun x H1 ⟨m1, S1, dx, e1, R1, rx, p1⟩ => ⟨m1, S1, σD, R1, Rs.mono e1, p1.seq.mono fun y H2 ⟨m2, S2, dy, e2, R2, ry, p2⟩ => ⟨m2, S2, dx, dy, R2, rx.mono e2, ry, p2.pd R2⟩⟩⟩
theorem s_slice (hK : A.K = X.K) {lo hi : Option Expr} {fl fh : Sl → Sto → Out (Option Int)} {p2 : Pos} (ha : PE X a (tE A E fa)) (hl : L2.PO X lo (tOx A E fl)) (hh : L2.PO X hi (tOx A E fh)) :
    PE X (.Subscript a (.Slice lo hi none p2) pos) (tE A E fun σ S => (fa σ S).bind fun x S => (fl σ S).bind fun l S => (fh σ S).bind fun h S => .of (sliceSem x l h S)) :=
  PEi (pe_slice (sl_ok hK) ha hl hh) fun σ H Q ⟨m, S, σD, R, Rs, p⟩ =>
    ⟨m, S, σD, R, Rs, p.seq.mono fun x H1 ⟨m1, S1, dx, e1, R1, rx, p1⟩ => ⟨m1, S1, σD, R1, Rs.mono e1, p1.seq.mono fun l H2 ⟨m2, S2, dl, e2, R2, rl, p2⟩ => ⟨m2, S2, σD, R2, Rs.mono (e1.trans e2), p2.seq.mono fun h H3 ⟨m3, S3, dh, e3, R3, rh, p3⟩ => by
      have el : dl = l := rl
      have eh : dh = h := rh
      subst el; subst eh
      exact ⟨m3, S3, dx, R3, rx.mono (e2.trans e3), p3.po⟩⟩⟩⟩
theorem s_po0 : L2.PO X none (tOx A E fun _ S => .ok none S) :=
  ⟨fun pins s σ H Q I hw => po_none.run pins s σ H Q I (let ⟨_, _, _, R, _, p⟩ := hw; p.ok R rfl)⟩
theorem s_po1 (ha : PE X a (tE A E fa)) : L2.PO X (some a) (tOx A E fun σ S => (fa σ S).bind fun d S => cutOf d S) :=
  ⟨fun pins s σ H Q I hw => (po_some ha).run pins s σ H Q I (let ⟨m, S, σD, R, Rs, p⟩ := hw; ⟨m, S, σD, R, Rs, p.seq.mono fun x H1 ⟨m1, S1, dx, e1, R1, rx, p1⟩ => by
    cases rx <;> (try exact (show False from p1).elim)
    exact ⟨_, rfl, p1.ok R1 rfl⟩⟩)⟩
theorem s_nil : PA X [] (tAs A E fun _ S => .ok [] S) := PAi pa_nil fun σ H Q ⟨m, S, σD, R, Rs, p⟩ => p.ok R .nil
theorem s_cons {es : List Expr} {fs : Sl → Sto → Out (List D)} (ha : PE X a (tE A E fa)) (hs : PA X es (tAs A E fs)) (hst : starEach (a :: es) X.env = (false, eval a X.env) :: starEach es X.env) :
    PA X (a :: es) (tAs A E fun σ S => (fa σ S).bind fun d S => (fs σ S).bind fun ds S => .ok (d :: ds) S) :=
  PAi (pa_cons ha hs hst) fun σ H Q ⟨m, S, σD, R, Rs, p⟩ => ⟨m, S, σD, R, Rs, p.seq.mono fun x H1 ⟨m1, S1, dx, e1, R1, rx, p1⟩ => ⟨m1, S1, σD, R1, Rs.mono e1, p1.seq.mono fun y H2 ⟨m2, S2, dy, e2, R2, ry, p2⟩ => p2.ok R2 (.cons (rx.mono e2) ry)⟩⟩
variable {es : List Expr} {fs : Sl → Sto → Out (List D)}
theorem s_tup {x1 : Nat} (hs : PA X es (tAs A E fs)) : PE X (.Tuple es x1 pos) (tE A E fun σ S => (fs σ S).bind fun ds S => if ds.length ≤ sizeLine then .ok (.tup ds) S else .bad) :=
  PEi (pe_tup hs) fun σ H Q ⟨m, S, σD, R, Rs, p⟩ => ⟨m, S, σD, R, Rs, p.seq.mono fun x H1 ⟨m1, S1, dx, e1, R1, rx, p1⟩ => by
    split at p1
    · refine ⟨by rw [rx.length]; assumption, fun q hq => ?_⟩
      obtain ⟨a, b, c⟩ := newTup R1 rx hq
      exact p1 _ _ _ b a c
    · exact p1.elim⟩
theorem s_lst (hs : PA X es (tAs A E fs)) : PE X (.List es pos) (tE A E fun σ S => (fs σ S).bind fun ds S => if ds.length ≤ sizeLine then .ok (.loc S.length) (S ++ [.lst ds]) else .bad) :=
  PEi (pe_lst hs) fun σ H Q ⟨m, S, σD, R, Rs, p⟩ => ⟨m, S, σD, R, Rs, p.seq.mono fun x H1 ⟨m1, S1, dx, e1, R1, rx, p1⟩ => by
    split at p1
    · refine ⟨by rw [rx.length]; assumption, fun q hq => ?_⟩
      obtain ⟨a, b, c⟩ := newLst R1 rx hq
      exact p1 _ _ _ b a c
    · exact p1.elim⟩
theorem newCell {m : List Addr} {S : Sto} {H : Hp} {p : Addr} {c : Cell} {o : HO} (R : Rep A m S H) (hp : H p = none) (new : RepC A (m ++ [p]) (upd H p o) p c) :
    Rep A (m ++ [p]) (S ++ [c]) (upd H p o) ∧ Ext A m H (m ++ [p]) (upd H p o) ∧ RepD A (m ++ [p]) (upd H p o) (.loc S.length) (.ref p) :=
  ⟨R.alloc hp new, (Ext.new hp).more, .loc (by rw [← R.len, List.getElem?_append_right (Nat.le_refl _), Nat.sub_self] <;> rfl)⟩
theorem s_dct0 (t : Bool) : PE X (.Dict [] [] pos) (tE A E fun _ S => .ok (.loc S.length) (S ++ [if t = true then .dt [] else .dk []])) := by
  cases t with
  | false =>
    refine PEi pe_dnewK fun σ H Q ⟨m, S, σD, R, Rs, p⟩ q hq => ?_
    obtain ⟨a, b, c⟩ := newCell (c := .dk []) (o := .dK []) R hq (.dk upd_same .nil)
    exact p _ _ _ b a c
  | true =>
    refine PEi pe_dnewT fun σ H Q ⟨m, S, σD, R, Rs, p⟩ q hq => ?_
    obtain ⟨a, b, c⟩ := newCell (c := .dt []) (o := .dT []) R hq (.dt upd_same .nil)
    exact p _ _ _ b a c
end
end DI

set_option Elab.async false
set_option linter.all false
set_option maxRecDepth 100000
set_option maxHeartbeats 4000000
/-! A def's promise where no repr is under way: calls, makings, a def's body, the law's end. -/
namespace DI
open L2 PySem PySem.Spec PyProof.Rows
structure FnG (P : Program) (w : World) (K : PySem.W.Frag) (mg : Str → Option Value) (bas : Heap) (CX : CXT) (k : Nat) (f : Addr) (fd : FuncData) (ps : List Str) (sp : Sp) : Prop where
  len : ∀ xs H Q E, sp xs H Q E → xs.length = ps.length
  run : ∀ (B : Around) (out : List Env) (t : Shared) (H : Hp) (ar : Args) (ys : List Value) (xs : List V) (Q : VK) (E : XK), B.guards = some [] → Room k B → Env0 P w K mg bas B out t H → BindsTo t fd ar (ps.zip ys) → Vals xs ys → sp xs H Q E →
    codeAny (model P w) B (.call (.ref f) ar) (CR CX out P w H t Q E) t
theorem FnG.bad {P : Program} {w : World} {K : PySem.W.Frag} {mg : Str → Option Value} {bas : Heap} {CX : CXT} {k : Nat} {f : Addr} {fd : FuncData} {ps : List Str} {sp : Sp} (h : ∀ xs H Q E, ¬ sp xs H Q E) : FnG P w K mg bas CX k f fd ps sp :=
  ⟨fun xs H Q E q => (h xs H Q E q).elim, fun _ _ _ H _ _ xs Q E _ _ _ _ _ q => (h xs H Q E q).elim⟩
section
variable {X : Cx} {CX : CXT} {k : Nat} {f C : Addr} {fd : FuncData} {ps : List Str} {sp : Sp} {E : XK} {pns : List (Addr × Obj)} {τ : L2.St} {H : Hp} {t : Shared} {Q : VK} {ys : List Value} {xs : List V}
/-- behind a call -/
theorem endG {r : Result} {t' : Shared} (hx : Passes CX X E) (J : Inv X pns τ H t) (h : CR CX X.stack X.prog X.w H t Q E r t') : wants (EP X pns τ Q) X.xe r t' := by
  cases r with
  | error e => exact hx pns τ H t e t' J h
  | ok fl => cases fl with
    | ret u => exact J.after h
    | next => exact h.elim
    | brk => exact h.elim
    | cont => exact h.elim
theorem runG (F : FnG X.prog X.w X.K X.mg X.base CX k f fd ps sp) (gd : X.A.guards = some []) (hr : Room k X.A) (hb : Binds X.K fd ps []) (hx : Passes CX X E) (J : Inv X pns τ H t) (r : Vals xs ys) (h : sp xs H Q E) :
    wpAny (model X.prog X.w) X.A (call (.ref f) ys) (EP X pns τ Q) X.xe t := by
  have hl : (ys ++ []).length = ps.length := by rw [List.append_nil, ← r.length]; exact F.len _ _ _ _ h
  have hbt := hb t ys J.kIn hl
  rw [List.append_nil] at hbt
  exact wpAny_call (codeAny_mono (F.run X.A X.stack t H ⟨ys, []⟩ ys xs Q E gd hr J.env0 hbt r h) fun r t' q => endG hx J q)
theorem guards_make {B : Around} (h : B.guards = some []) (C : Addr) (us : List Value) (kw : List (Str × Value)) : (B.under (.builtin "type.__call__" ⟨.ref C :: us, kw⟩)).guards = some [] := by
  have e : (Code.builtin "type.__call__" ⟨.ref C :: us, kw⟩).guards = [] := by
    have e2 : ¬ ("type.__call__" ∈ guardIds) := by decide
    simp [Code.guards, Code.isGuard, e2]
  show pushGuards (Code.builtin "type.__call__" ⟨.ref C :: us, kw⟩).guards B.guards = some []
  rw [e, h]
  rfl
theorem runG_make (M : Mk X.K C f) (F : FnG X.prog X.w X.K X.mg X.base CX k f fd ps sp) (gd : X.A.guards = some []) (hr : Room (k + 1) X.A) (hb : Binds X.K fd ps []) (hx : Passes CX X E) (J : Inv X pns τ H t) (r : Vals xs ys)
    (h : ∀ x dx, H x = none → H dx = none → dx ≠ x → sp (.ref x :: xs) (upd (upd H dx (.own x)) x (.ins C dx [])) (fun v H2 => v = .non ∧ Q (.ref x) H2) E) :
    wpAny (model X.prog X.w) X.A (call (.ref C) ys) (EP X pns τ Q) X.xe t := by
  have q0 := h (t.heap.objs.size + 1) t.heap.objs.size (J.hok.fresh (Nat.le_succ _)) (J.hok.fresh (Nat.le_refl _)) (Nat.ne_of_lt (Nat.lt_succ_self _))
  have J2 := Inv.made (C := C) J
  have r2 : Vals (V.ref (t.heap.objs.size + 1) :: xs) (Value.ref (t.heap.objs.size + 1) :: ys) := .cons rfl r
  have hl : ((Value.ref (t.heap.objs.size + 1) :: ys) ++ []).length = ps.length := by
    rw [List.append_nil, ← r2.length]
    exact F.len _ _ _ _ q0
  have hbt := hb _ (Value.ref (t.heap.objs.size + 1) :: ys) J2.kIn hl
  rw [List.append_nil] at hbt
  refine wpAny_call (make_map (f := f) J.kIn M.makes M.init (beq_iff_eq.mp M.fn) (codeAny_mono (F.run _ X.stack _ _ ⟨Value.ref (t.heap.objs.size + 1) :: ys, []⟩ _ _ _ E (guards_make gd C ys []) (hr.make C ys [])
    (J2.env0.make C ys []) hbt r2 q0) fun r t' q => ?_))
  have q2 := endG hx J2 q
  cases r with
  | error e => exact q2
  | ok fl => cases fl with
    | ret u =>
      obtain ⟨v, H', J3, rv, ev, q3⟩ := q2
      subst ev
      exact ⟨rv, ⟨V.ref (t.heap.objs.size + 1), H', J3, rfl, q3⟩⟩
    | next => exact q2.elim
    | brk => exact q2.elim
    | cont => exact q2.elim
theorem runG_kw {n : Nat} {ks : List Str} {g : List Value → List Value → List Value} {gV : List V → List V → List V} {ws : List Value} {zs : List V} (F : FnG X.prog X.w X.K X.mg X.base CX k f fd ps sp) (gd : X.A.guards = some []) (hr : Room k X.A) (hb : KBn X.K fd ps n ks g gV) (hx : Passes CX X E)
    (J : Inv X pns τ H t) (r : Vals xs ys) (rz : Vals zs ws) (l1 : xs.length = n) (l2 : zs.length = ks.length) (h : sp (gV xs zs) H Q E) : wpAny (model X.prog X.w) X.A (call (.ref f) ys (ks.zip ws)) (EP X pns τ Q) X.xe t :=
  wpAny_call (codeAny_mono (F.run X.A X.stack t H ⟨ys, ks.zip ws⟩ (g ys ws) (gV xs zs) Q E gd hr J.env0 (hb.to t ys ws J.kIn (r.length.symm.trans l1) (rz.length.symm.trans l2)) (hb.rel r rz) h) fun r t' q => endG hx J q)
end
/-- a def keeps its promise -/
theorem FunD.okG {P : Program} {w : World} {K : PySem.W.Frag} {mg : Str → Option Value} {bas : Heap} {CX : CXT} {k : Nat} {f : Addr} {fd : FuncData} {x qual : Str} {params : Arguments} {body : List Stmt} {scope : Scope} {dvs : List V} {kws : List (Str × V)} {N ps : List Str} {sp : Sp}
    (F : FunD K x qual params body scope dvs kws f fd) (S : FnScope N ps scope) (len : ∀ xs H Q E, sp xs H Q E → xs.length = ps.length)
    (hbody : ∀ (cdv : Value) (B : Around) (out : List Env) (t : Shared) (H : Hp) (xs : List V) (Q : VK) (E : XK), B.guards = some [] → Room k (B.deeper (envOfC qual scope t.heap.objs.size f cdv)) → sp xs H Q E →
      ∃ u, PSs (cxOf CX P w K mg bas N qual scope f cdv B out t H E) body u ∧ u { nx := fun _ H' => Q .non H', rt := Q } (start N xs) H) : FnG P w K mg bas CX (k + 1) f fd ps sp := by
  obtain ⟨oc, od, dV, kV, doc, pm, an, cdv, ct, osl, rfl, lk, hcd, _, _⟩ := F.ex
  refine ⟨len, fun B out t H ar ys xs Q E gd hr e0 hb r hsp => ?_⟩
  have hl := len _ _ _ _ hsp
  have hin : K.In t.heap := e0.mod.kin.keeps fun b o e => (e0.bs b o e).1
  have hlim : t.heap.NoLimit := e0.mod.nolimit.keeps fun b o e => (e0.bs b o e).1
  have hkd : ∀ y ∈ ps.zip ys, scope.names.lookup y.1 = some .local ∨ (scope.names.lookup y.1 = some .cell ∧ ((cellsFrom (t.heap.objs.size + 1) scope.names []).lookup y.1).isSome = true) := by
    rintro ⟨n, v⟩ hy
    rcases S.par n (List.of_mem_zip hy).1 with q | q
    · exact .inl q
    · exact .inr ⟨q, PySem.W.cellsFrom_some _ _ _ (.inl q)⟩
  refine codeAny_call_function hr.depth (hin _ _ lk) rfl S.co S.gen rfl (PySem.W.codeRec_of hin hcd) (hb _ _ _ _ ?_)
  refine wpAny_newFunctionEnv_cells S.kind hkd fun env he t1 y => ?_
  subst he
  refine ⟨hlim.keeps y.toInCall.keep, codeAny_func ?_⟩
  obtain ⟨u, hu, hq⟩ := hbody cdv B out t H xs Q E gd (hr.deeper _) hsp
  have J : Inv (cxOf CX P w K mg bas N qual scope f cdv B out t H E) [] (start N xs) H t1 := inv_start S hr.hd e0 hl r y
  refine wpAny_mono (hu.run [] t1 (start N xs) H _ J hq) (fun fl t' hs => ?_) fun e t' hs => hs
  cases fl with
  | ret v =>
    obtain ⟨v', τ', H', J', rv, q⟩ := hs
    exact ⟨v', H', J'.os, J'.bare, J'.base, J'.hok, rv, q⟩
  | next =>
    obtain ⟨τ', H', J', q⟩ := hs
    exact ⟨V.non, H', J'.os, J'.bare, J'.base, J'.hok, rfl, q⟩
  | brk =>
    obtain ⟨_, _, _, q⟩ := hs
    exact q.elim
  | cont =>
    obtain ⟨_, _, _, q⟩ := hs
    exact q.elim
/-- the law's call -/
theorem law_callG {P : Program} {w : World} {K : PySem.W.Frag} {mg mb : Str → Option Value} {CX : CXT} {k : Nat} {fa a : Addr} {fd : FuncData} {x : Str} {sp : Sp} {t : Shared} {us : List Value} {ns : List Int}
    (hin : K.In t.heap) (hns : t.heap.Ns mainGlobals mg) (hbn : t.heap.Ns builtinsNs mb) (hbl : ∀ x : Str, x ≠ "__name__" → mb x = bootBuiltins x) (hlim : t.heap.NoLimit) (hge : t.gens = #[])
    (hobj : t.heap.get? a = some { cls := .type "list", data := .seq us.toArray }) (hi : IntsAre us ns) (hl : ns.length ≤ sizeLine) (hr : Room k callerA)
    (F : ∀ bas : Heap, K.In bas → bas.Ns mainGlobals mg → FnG P w K mg bas CX k fa fd [x] sp) (hbind : ∀ (s : Shared) (u : Value), BindsTo s fd ⟨[u], []⟩ [(x, u)])
    (hsp : ∀ H : Hp, Only H → SqL K H a (ns.map V.int) → sp [.ref a] H (fun v _ => v = .bl true) fun _ _ _ => False) (hCX : ∀ H e s', CX [] H t (fun _ _ _ => False) e s' → False) :
    codeAny (model P w) callerA (.call (.ref fa) ⟨[.ref a], []⟩) (fun r t' => r = .ok (.ret (.bool true)) ∧ OldK t.heap t'.heap ∧ t'.os = t.os ∧ AllBare t'.gens) t := by
  have hlen := hi.length
  have main : ∀ H : Hp, Only H → SqL K H a (ns.map V.int) → HOk P w H t.heap → (∀ b, H b ≠ none → b = a ∧ K.lookup a = none) →
      codeAny (model P w) callerA (.call (.ref fa) ⟨[.ref a], []⟩) (fun r t' => r = .ok (.ret (.bool true)) ∧ OldK t.heap t'.heap ∧ t'.os = t.os ∧ AllBare t'.gens) t := by
    intro H hO hS hok hA
    have off : ∀ {b : Addr} {o : Obj} {es : Array DictEntry} {n : Nat}, t.heap.get? b = some o → o.data = .dict es n → H b = none := by
      intro b o es n e d
      cases q : H b with
      | none => rfl
      | some u =>
        have e' := (hA b (by rw [q]; simp)).1
        rw [e', hobj] at e
        cases e
        exact absurd d (by simp)
    have ns2 : ∀ {b : Addr} {m : Str → Option Value}, t.heap.Ns b m → (hidT t.heap H).Ns b m := fun ⟨o, es, n, e, d, r⟩ => ⟨o, es, n, hidT_get e (off e d), d, r⟩
    have hin2 : K.In (hidT t.heap H) := by
      intro b o e
      refine hidT_get (hin b o e) ?_
      cases q : H b with
      | none => rfl
      | some u =>
        obtain ⟨e1, e2⟩ := hA b (by rw [q]; simp)
        rw [e1, e2] at e
        cases e
    have hmod : Mod K mg (hidT t.heap H) := ⟨hin2, ns2 hns, ⟨mb, ns2 hbn, hbl⟩, let ⟨mc, h1, h2⟩ := hlim; ⟨mc, ns2 h1, h2⟩⟩
    have env : Env0 P w K mg (hidT t.heap H) callerA [] t H := ⟨rfl, hmod, fun b o e => of_hidT e, Nat.le_of_eq (hidT_size _ _), trivial, (fun b hb => by cases hb), hok, .of_eq hge⟩
    refine codeAny_mono ((F _ hin2 (ns2 hns)).run callerA [] t H ⟨[.ref a], []⟩ [.ref a] [.ref a] _ _ rfl hr env (hbind t (.ref a)) (.cons rfl .nil) (hsp H hO hS)) fun r t' h => ?_
    cases r with
    | error e => exact (hCX H e t' h).elim
    | ok fl => cases fl with
      | next => exact h.elim
      | brk => exact h.elim
      | cont => exact h.elim
      | ret u =>
        obtain ⟨v, H', hos, hbare, un, hok', rv, rfl⟩ := h
        obtain rfl : u = Value.bool true := rv
        refine ⟨rfl, OldK.of_keep fun b o e => ?_, hos, hbare⟩
        cases q : H b with
        | none => exact un.keep b o e q (fun z => by cases z) (by simp)
        | some u =>
          rcases hO b with z | ⟨ob, ys, z⟩
          · rw [q] at z; cases z
          · obtain ⟨e1, _⟩ := hok b _ z
            obtain ⟨e2, _⟩ := hok' b _ (un.frzs b ob _ z)
            rw [e] at e1
            cases e1
            exact e2
  have rv := vals_ints hi
  cases hk : K.lookup a with
  | some o =>
    have e := hin a o hk
    rw [hobj] at e
    cases e
    exact main (fun _ => none) (fun _ => .inl rfl) (.inr ⟨_, us.toArray, _, hk, rfl, rfl, rfl, by rw [List.size_toArray, hlen]; exact hl, by simpa using rv⟩) (fun b u z => nomatch (show (none : Option HO) = some u from z)) fun b z => absurd rfl z
  | none =>
    have at_a : ∀ {α : Type} {x y : α}, (if a = a then x else y) = x := if_pos rfl
    refine main (fun b => if b = a then some (.frz { cls := .type "list", data := .seq us.toArray } (.lst (ns.map V.int))) else none) (fun b => ?_) (.inl (.inr ⟨{ cls := .type "list", data := .seq us.toArray }, at_a⟩)) (fun b u z => ?_) fun b z => ?_
    · by_cases c : b = a
      · exact .inr ⟨_, _, if_pos c⟩
      · exact .inl (if_neg c)
    · by_cases c : b = a
      · have z' := (if_pos c).symm.trans z
        cases z'
        subst c
        exact ⟨hobj, by rw [List.length_map]; exact hl, us, _, rv, hobj⟩
      · exact nomatch (if_neg c).symm.trans z
    · by_cases c : b = a
      · exact ⟨c, hk⟩
      · exact absurd (if_neg c) z
end DI

set_option Elab.async false
set_option linter.all false
set_option maxRecDepth 100000
set_option maxHeartbeats 4000000
/-! enumerate over a tuple; a walk over a list, a tuple or a text. -/
namespace DI
open L2 PySem PySem.Spec PyProof.Rows
open Builtin in
theorem meets_enumT (l : Addr) (items : Array Value) (n : Nat) (dct : Option Addr) (sl : Array (Option Value)) :
    Meets (Builtin.«enumerate.__new__» ⟨[.type "enumerate", .ref l], []⟩) (fun _ R s => s.heap.get? l = some { cls := .type "tuple", dict := dct, data := .seq items n, slots := sl } ∧
      R (.ok (.ret (.ref (s.heap.push { cls := .type "tuple_iterator", data := .fields #[.ref l, .int 0 0] }).objs.size)))
        { s with heap := (s.heap.push { cls := .type "tuple_iterator", data := .fields #[.ref l, .int 0 0] }).push { cls := .type "enumerate", data := .fields #[.none, .bool false, .ref s.heap.objs.size, rawInt 0, .none, .none] } }) :=
  .of_wp fun prog w A R s h => by
    obtain ⟨hp, g, d, tk, os⟩ := s
    obtain ⟨hl, h⟩ := h
    have hsub := sub_enumerate
    have hT : Heap.IsTuple (Shared.heap ⟨hp, g, d, tk, os⟩) l items := ⟨_, hl, rfl, n, rfl⟩
    wp_walk using wpAny_loadPart' hl
    refine wpAny_stack_any fun st => wpAny_pure ?_
    split
    · rename_i c _ _ _ _ _
      cases (c == Value.type "enumerate")
      all_goals
        wp_walk using wpAny_loadPart' hl, wpAny_pyIter_tuple hT
        exact ⟨_, rfl, h⟩
    · wp_walk using wpAny_loadPart' hl, wpAny_pyIter_tuple hT
      exact ⟨_, rfl, h⟩
section
variable {prog : Program} {w : World} {A : Around} {E : Value → Shared → Prop} {s : Shared}
theorem call_enumT {l : Addr} {items : Array Value} {Q : Value → Shared → Prop} (hL : s.heap.IsTuple l items)
    (h : ∀ h', IsEnum h' (s.heap.objs.size + 1) s.heap.objs.size 0 .none → h'.IsTupleIter s.heap.objs.size l 0 → (∀ b o, s.heap.get? b = some o → h'.get? b = some o) → Q (.ref (s.heap.objs.size + 1)) { s with heap := h' }) :
    wpAny (model prog w) A (call (.type "enumerate") [.ref l]) Q E s := by
  obtain ⟨⟨c, dct, dt, sl⟩, hl, hc, n, hd⟩ := hL
  obtain rfl : c = .type "tuple" := hc
  obtain rfl : dt = .seq items n := hd
  refine callType_new F.called_enumerate (by decide) (F.typeCall_enumerate_1 _) (F.newCall_enumerate_1 _) (fun obj => F.args_object_init_2 obj _) F.entry_enumerate_new (meets_enumT l items n dct sl) ⟨hl, ?_⟩
  generalize hO : ({ cls := .type "tuple_iterator", data := .fields #[.ref l, .int 0 0] } : Obj) = O
  have hz : (s.heap.push O).objs.size = s.heap.objs.size + 1 := Heap.size_push ..
  have hf : O.isFreed = false := by rw [← hO]; rfl
  rw [hz]
  have he : IsEnum ((s.heap.push O).push { cls := .type "enumerate", data := .fields #[.none, .bool false, .ref s.heap.objs.size, rawInt 0, .none, .none] }) (s.heap.objs.size + 1) s.heap.objs.size 0 .none := by
    have e := Heap.get?_push_size (s.heap.push O) (o := { cls := .type "enumerate", data := .fields #[.none, .bool false, .ref s.heap.objs.size, rawInt 0, .none, .none] }) rfl
    rw [hz] at e
    exact e
  refine ⟨⟨_, he, rfl⟩, h _ he ⟨O, Heap.get?_push_of_some _ (Heap.get?_push_size _ hf), by rw [← hO], by rw [← hO] <;> rfl⟩ fun b o x => Heap.get?_push_of_some _ (Heap.get?_push_of_some _ x)⟩
theorem next_enumT_end {e it l : Addr} {i : Nat} {k : Int} {items : Array Value} {old : Value} {Q : Option Value → Shared → Prop} (hh : A.handled = none)
    (he : IsEnum s.heap e it k old) (hit : s.heap.IsTupleIter it l i) (hl : s.heap.IsTuple l items) (hx : items[i]? = none) (hQ : ∀ h', Heap.ExtBut it s.heap h' → Q none { s with heap := h' }) : wpAny (model prog w) A (pyNext (.ref e)) Q E s := by
  have hty : s.TypeIs (.ref e) "enumerate" := ⟨_, he, rfl⟩
  unfold pyNext
  refine wpAny_bind (wpAny_attempt (wpAny_callSpecial?_slot (name := Str.ofString "__next__") hty F.slot_enumerate_next (wpAny_call_entry F.slot_enumerate_next hty F.entry_enumerate_next ?_ (F.args_enumerate_next_1 _))))
  show wpAny _ _ (field (.ref e) 2 >>= _) _ _ _
  refine wpAny_bind (wpAny_field he rfl (x := .ref it) rfl ?_)
  refine wpAny_bind (wpAny_nextOf_tuple_end hh hit hl hx fun h' x eb hs => ?_)
  obtain ⟨o, ho, hc⟩ := hs
  exact wpAny_bind (wpAny_isInstance (T := "StopIteration") (b := true) ⟨o, ho, hc⟩ isSubtype_stop (wpAny_pure (hQ _ eb)))
end
def IteT (K : PySem.W.Frag) (a : Addr) : It :=
  ⟨fun i H => ∃ (xs : List V) (x : V), SqT K H a xs ∧ xs[i]? = some x, fun i H v H' => ∃ T x, v = .ref T ∧ H T = none ∧ H' = upd H T (.tup [.int (i : Nat), x]) ∧ ∀ xs, SqT K H a xs → xs[i]? = some x, fun i H => ∃ xs : List V, SqT K H a xs ∧ xs.length ≤ i⟩
theorem turn_enumT {P : Program} {w : World} {K : PySem.W.Frag} {elts : List Expr} {kk : Nat} {tpos : Pos} (a e it : Addr) :
    Turn P w K (.Tuple elts kk tpos) (IteT K a) [e, it] e (fun i h => (∃ old, IsEnum h e it ((i : Nat) : Int) old) ∧ h.IsTupleIter it a i ∧ e ≠ it) where
  mem := by simp
  obj := fun i h st b hb => by
    obtain ⟨⟨old, he⟩, ⟨o, ho, hc, hd⟩, _⟩ := st
    rcases (by simpa using hb : b = e ∨ b = it) with rfl | rfl
    · exact ⟨_, he, fun v q => nomatch q⟩
    · exact ⟨o, ho, fun v q => by rw [hd] at q; cases q⟩
  keep := fun i h h' st k => let ⟨⟨old, he⟩, hi, hne⟩ := st; ⟨⟨old, k e (by simp) _ he⟩, hi.at fun o q => k it (by simp) o q, hne⟩
  item := by
    intro X hP hw hK hc i pins s σ H E I hf st hg
    subst hP hw hK
    obtain ⟨⟨old, he⟩, hit, hne⟩ := st
    obtain ⟨xs, x, hq, hx⟩ := hg
    obtain ⟨its, rv, p, hz⟩ := I.tuple hq
    obtain ⟨u, hu, ru⟩ := rv.get hx
    have hel : e < s.heap.objs.size := Heap.lt_size he
    have hil : it < s.heap.objs.size := by obtain ⟨_, q, _⟩ := hit; exact Heap.lt_size q
    have hai : a ≠ it := by
      rintro rfl
      obtain ⟨o, e1, e2, _⟩ := p
      obtain ⟨o', e3, e4, _⟩ := hit
      rw [e1] at e3
      cases e3
      rw [e2] at e4
      exact absurd e4 (by simp)
    have hea : e ≠ a := by
      rintro rfl
      obtain ⟨o, e1, e2, _⟩ := p
      rw [he] at e1
      cases e1
      exact absurd e2 (by simp)
    have hsz : i < its.length := (List.getElem?_eq_some_iff.mp hu).1
    refine wpAny_pyNext_enum_itemD (Draws.tuple (A := X.A.in1) (I.ok.hd hc) it a hai its.toArray) he ⟨hit, p⟩ (by simpa using hsz) hne (by simp [hne, hea]) fun y h' tk hy ho hst hT hsize hk => ?_
    have hyu : y = u := by
      have : its[i]? = some y := by simpa using hy
      rw [hu] at this
      cases this
      rfl
    subst hyu
    refine ⟨_, rfl, wpAny_letOwnedTupleGo_enum (s := { s with heap := h', toks := tk + 1 }) ho fun h'' he' sb => ?_⟩
    have hT2 : h''.get? s.heap.objs.size = some { cls := .type "tuple", data := .seq #[.int i tk, y] } := (sb.2 _ (Nat.ne_of_gt hel)).trans hT
    have new : ObjOk X.prog X.w (upd H s.heap.objs.size (.tup [.int (i : Nat), x])) h'' s.heap.objs.size (.tup [.int (i : Nat), x]) :=
      ⟨by show 2 ≤ sizeLine; decide, [.int i tk, y], .cons ⟨_, rfl⟩ (.cons ru .nil), ⟨_, hT2, rfl, _, rfl⟩⟩
    have J : Inv X pins σ (upd H s.heap.objs.size (.tup [.int (i : Nat), x])) { s with heap := h'', toks := tk + 1 } :=
      I.turnedNew (ch := [e, it]) (fun b ob hb q => (sb.2 b (fun z => hb (by simp [z]))).trans (hk b ob (fun z => hb (by simp [z])) (fun z => hb (by simp [z])) q)) hf (Nat.le_refl _) new
    refine ⟨.ref s.heap.objs.size, _, J, rfl, ⟨_, x, rfl, I.hok.fresh (Nat.le_refl _), rfl, fun ys hy => by rw [I.tuple_inj hy hq]; exact hx⟩, ⟨⟨y, ?_⟩, hst.1.at fun o q => (sb.2 it (Ne.symm hne)).trans q, hne⟩, fun b hb => ?_⟩
    · have e1 : ((i + 1 : Nat) : Int) = (i : Int) + 1 := by omega
      rw [e1]
      exact he'
    · have hb' : b < s.heap.objs.size := by
        rcases (by simpa using hb : b = e ∨ b = it) with rfl | rfl
        · exact hel
        · exact hil
      rw [upd_ne (Nat.ne_of_lt hb')]
      exact (hf b hb).1
  done := by
    intro X hP hw hK hc i pins s σ H E I hf st hg
    subst hP hw hK
    obtain ⟨⟨old, he⟩, hit, hne⟩ := st
    obtain ⟨xs, hq, hx⟩ := hg
    obtain ⟨its, rv, p, hz⟩ := I.tuple hq
    obtain ⟨f0, f1, f2, f3, f4, f5⟩ := hf it (by simp)
    have hl := rv.length
    exact next_enumT_end (I.ok.hd hc) he hit p (by simp; omega) fun h' eb => ⟨rfl, I.turned (t' := s.toks) (fun b o hb q => eb b o hb q) f0 f1 f3 f4 f5⟩
  self := fun A i s Q E st h => let ⟨⟨_, he⟩, _⟩ := st; wpAny_pyIter_enum he h
def iEnumA (K : PySem.W.Frag) (ta : TA) : TI := fun σ H R => ta σ H fun vs H1 => ∃ a, vs = [.ref a] ∧ (((∃ xs, SqL K H1 a xs) ∧ R (Ite K a) H1) ∨ ((∃ xs, SqT K H1 a xs) ∧ R (IteT K a) H1))
theorem pi_enumA {X : Cx} {e : Expr} {ta : TA} {p pos tpos : Pos} {elts : List Expr} {kk : Nat} (hg : Gl X "enumerate") (hm : X.mg "enumerate" = none) (ha : PA X [e] ta) (hs : starEach [e] X.env = [(false, eval e X.env)]) :
    PI X (.Tuple elts kk tpos) (.Call (.Name "enumerate" p) [e] [] pos) (iEnumA X.K ta) := by
  refine ⟨fun pz s σ H R J h => ?_⟩
  refine Call_ (ld_blt J hg hm boot_enumerate (PyProof.Rows.callWith_type1 (thn (ha.run pos pz s σ H _ J h) fun us t ⟨vs, H1, J1, r1, q1⟩ => ?_) hs rfl))
  obtain ⟨a, ex, q⟩ := q1
  subst ex
  cases r1 with
  | cons r rr =>
    cases rr
    cases r
    have fresh : ∀ b ∈ [t.heap.objs.size + 1, t.heap.objs.size], FpOk X pz H1 b := by
      intro b hb
      have hle : t.heap.objs.size ≤ b := by
        rcases (by simpa using hb : b = t.heap.objs.size + 1 ∨ b = t.heap.objs.size) with z | z
        · rw [z]; exact Nat.le_add_right _ _
        · rw [z]; exact Nat.le_refl _
      exact J1.fpOk hle (J1.hok.fresh hle)
    rcases q with ⟨⟨xs, hq⟩, q⟩ | ⟨⟨xs, hq⟩, q⟩
    · obtain ⟨its, rv, pl, hz⟩ := J1.list hq
      refine call_enumerate_list pl.isList fun h' he hit hsz hk => wpAny_pyIter_enum he ?_
      exact ⟨t.heap.objs.size + 1, [t.heap.objs.size + 1, t.heap.objs.size], _, _, H1, rfl, J1.kept (t' := t.toks) hk, turn_enum a (t.heap.objs.size + 1) t.heap.objs.size, ⟨⟨.none, he⟩, hit, Nat.succ_ne_self _⟩, fresh, q⟩
    · obtain ⟨its, rv, pl, hz⟩ := J1.tuple hq
      refine call_enumT pl fun h' he hit hk => wpAny_pyIter_enum he ?_
      exact ⟨t.heap.objs.size + 1, [t.heap.objs.size + 1, t.heap.objs.size], _, _, H1, rfl, J1.kept (t' := t.toks) hk, turn_enumT a (t.heap.objs.size + 1) t.heap.objs.size, ⟨⟨.none, he⟩, hit, Nat.succ_ne_self _⟩, fresh, q⟩
end DI

set_option Elab.async false
set_option linter.all false
set_option maxRecDepth 100000
set_option maxHeartbeats 4000000
/-! Calls, iterables, targets, comprehensions. -/
namespace DI
open L2 PySem PySem.Spec PyProof.Rows

/-- a def's promise: it does what f says -/
def spC (A : Ad) (n : Nat) (f : List D → Sto → Out D) : Sp := fun vs H Q E => ∃ m S ds, Rep A m S H ∧ RepL A m H ds vs ∧ ds.length = n ∧ Post A E (RepD A) m H (f ds S) Q
section
variable {X : Cx} {A : Ad} {E : XK} {k : Nat} {f : Addr} {fd : FuncData} {ps : List Str} {g : List D → Sto → Out D} {fs : Sl → Sto → Out (List D)} {fo : Sl → Sto → Out D} {x mn : Str} {p pos apos : Pos} {e o : Expr} {es : List Expr}
abbrev tCal (A : Ad) (E : XK) (fs : Sl → Sto → Out (List D)) (g : List D → Sto → Out D) : TE := tE A E fun σ S => (fs σ S).bind fun ds S => g ds S
theorem cal_in (har : ∀ ds S, ds.length ≠ ps.length → g ds S = .bad) {t : TA} (ht : ∀ σ H Q, tAs A E fs σ H Q → t σ H Q) : ∀ σ H Q, tCal A E fs g σ H Q → tCall (spC A ps.length g) [] E t σ H Q :=
  fun σ H Q ⟨m, S, σD, R, Rs, p⟩ => ht σ H _ ⟨m, S, σD, R, Rs, p.seq.mono fun vs H1 ⟨m1, S1, ds, e1, R1, rl, p1⟩ => by
    show spC A ps.length g (vs ++ []) H1 Q E
    rw [List.append_nil]
    refine ⟨m1, S1, ds, R1, rl, ?_, p1⟩
    by_cases c : ds.length = ps.length
    · exact c
    · rw [har ds S1 c] at p1; exact p1.elim⟩
theorem s_call (gd : X.A.guards = some []) (F : FnG X.prog X.w X.K X.mg X.base (L2.CX X.prog X.w) k f fd ps (spC A ps.length g)) (hr : Room k X.A) (hg : Gl X x) (hm : X.mg x = some (.ref f)) (hk : PySem.W.keepIn X.K (.ref f) = true) (hb : Binds X.K fd ps [])
    (tk : Takes X (fun cls d _ H => E cls d H)) (har : ∀ ds S, ds.length ≠ ps.length → g ds S = .bad) (ha : PA X (e :: es) (tAs A E fs)) (hdb : (x == ("__debug__" : Str)) = false)
    (he : starEach (e :: es) X.env = (false, eval e X.env) :: starEach es X.env) (hpl : (backTo pos (starEach es X.env)).any (·.1) = false) :
    PE X (.Call (.Name x p) (e :: es) [] pos) (tCal A E fs g) := by
  refine PEi (t := tCall (spC A ps.length g) [] E (tAs A E fs)) ⟨fun pz t τ HH Q J h => ?_⟩ (cal_in har fun _ _ _ h => h)
  refine wpAny_Call_Name_kw (ld_glob J hg hm ?_ hdb)
  refine PySem.W.callWith_K (h₀ := X.base) J.ok.mod.kin hk (thn (ha.run pos pz t τ HH _ J h) fun us t1 ⟨vs, H1, J1, r, q⟩ => ⟨J1.kIn, ?_⟩) he hpl
  exact runG F gd hr hb (passes_call tk fun _ _ _ _ h => h) J1 r (List.append_nil vs ▸ q)
theorem s_call0 (gd : X.A.guards = some []) (F : FnG X.prog X.w X.K X.mg X.base (L2.CX X.prog X.w) k f fd ps (spC A ps.length g)) (hr : Room k X.A) (hg : Gl X x) (hm : X.mg x = some (.ref f)) (hk : PySem.W.keepIn X.K (.ref f) = true) (hb : Binds X.K fd ps [])
    (tk : Takes X (fun cls d _ H => E cls d H)) (har : ∀ ds S, ds.length ≠ ps.length → g ds S = .bad) (hdb : (x == ("__debug__" : Str)) = false) :
    PE X (.Call (.Name x p) [] [] pos) (tCal A E (fun _ S => .ok [] S) g) := by
  refine PEi (t := tCall (spC A ps.length g) [] E tNil) ⟨fun pz t τ HH Q J h => ?_⟩ (cal_in har fun σ H Q ⟨m, S, σD, R, Rs, p⟩ => p.ok R .nil)
  refine wpAny_Call_Name_kw (ld_glob J hg hm ?_ hdb)
  exact PySem.W.callWith_K0 J.kIn hk (runG (ys := []) F gd hr hb (passes_call tk fun _ _ _ _ h => h) J .nil h)
abbrev tMkC (A : Ad) (E : XK) (c : Nat) (fs : Sl → Sto → Out (List D)) (g : List D → Sto → Out D) : TE :=
  tE A E fun σ S => (fs σ S).bind fun ds S => (g (.loc S.length :: ds) (S ++ [.ins c []])).bind fun r S' => match r with | .non => .ok (.loc S.length) S' | _ => .bad
theorem mk_in {c : Nat} (har : ∀ ds S, ds.length ≠ ps.length → g ds S = .bad) {t : TA} (ht : ∀ σ H Q, tAs A E fs σ H Q → t σ H Q) : ∀ σ H Q, tMkC A E c fs g σ H Q → tMake (A.cl c) (spC A ps.length g) [] E t σ H Q :=
  fun σ H Q ⟨m, S, σD, R, Rs, p⟩ => ht σ H _ ⟨m, S, σD, R, Rs, p.seq.mono fun vs H1 ⟨m1, S1, ds, e1, R1, rl, p1⟩ => by
    intro x dx nx ndx ne
    show spC A ps.length g (.ref x :: (vs ++ [])) _ _ E
    rw [List.append_nil]
    have Ra := R1.new (o := .own x) ndx
    have nx' : (upd H1 dx (.own x)) x = none := by rw [upd_ne ne.symm]; exact nx
    obtain ⟨Rb, eb, rb⟩ := newCell (c := .ins c []) (o := .ins (A.cl c) dx []) Ra nx' (.ins upd_same .nil)
    have ex : Ext A m1 H1 (m1 ++ [x]) (upd (upd H1 dx (.own x)) x (.ins (A.cl c) dx [])) := (Ext.new ndx).trans eb
    have p2 := Post.base p1 ex
    refine ⟨_, _, .loc S1.length :: ds, Rb, .cons rb (rl.mono ex), ?_, p2.seq.mono fun v H2 ⟨m3, S3, d, e3, R3, rd, p3⟩ => ?_⟩
    · by_cases c : (D.loc S1.length :: ds).length = ps.length
      · exact c
      · rw [har _ _ c] at p2; exact p2.elim
    · cases rd <;> (try exact (show False from p3).elim)
      refine ⟨rfl, p3.ok R3 (rb.mono e3)⟩⟩
theorem s_make {c : Nat} (M : Mk X.K (A.cl c) f) (gd : X.A.guards = some []) (F : FnG X.prog X.w X.K X.mg X.base (L2.CX X.prog X.w) k f fd ps (spC A ps.length g)) (hr : Room (k + 1) X.A) (hg : Gl X x) (hm : X.mg x = some (.ref (A.cl c))) (hb : Binds X.K fd ps [])
    (tk : Takes X (fun cls d _ H => E cls d H)) (har : ∀ ds S, ds.length ≠ ps.length → g ds S = .bad) (ha : PA X (e :: es) (tAs A E fs)) (hdb : (x == ("__debug__" : Str)) = false)
    (he : starEach (e :: es) X.env = (false, eval e X.env) :: starEach es X.env) (hpl : (backTo pos (starEach es X.env)).any (·.1) = false) :
    PE X (.Call (.Name x p) (e :: es) [] pos) (tMkC A E c fs g) := by
  refine PEi (t := tMake (A.cl c) (spC A ps.length g) [] E (tAs A E fs)) ⟨fun pz t τ HH Q J h => ?_⟩ (mk_in har fun _ _ _ h => h)
  refine wpAny_Call_Name_kw (ld_glob J hg hm ?_ hdb)
  refine PySem.W.callWith_K (h₀ := X.base) J.ok.mod.kin M.kp (thn (ha.run pos pz t τ HH _ J h) fun us t1 ⟨vs, H1, J1, r, q⟩ => ⟨J1.kIn, ?_⟩) he hpl
  exact runG_make M F gd hr hb (passes_call tk fun _ _ _ _ h => h) J1 r (List.append_nil vs ▸ q)
theorem s_make0 {c : Nat} (M : Mk X.K (A.cl c) f) (gd : X.A.guards = some []) (F : FnG X.prog X.w X.K X.mg X.base (L2.CX X.prog X.w) k f fd ps (spC A ps.length g)) (hr : Room (k + 1) X.A) (hg : Gl X x) (hm : X.mg x = some (.ref (A.cl c))) (hb : Binds X.K fd ps [])
    (tk : Takes X (fun cls d _ H => E cls d H)) (har : ∀ ds S, ds.length ≠ ps.length → g ds S = .bad) (hdb : (x == ("__debug__" : Str)) = false) :
    PE X (.Call (.Name x p) [] [] pos) (tMkC A E c (fun _ S => .ok [] S) g) := by
  refine PEi (t := tMake (A.cl c) (spC A ps.length g) [] E tNil) ⟨fun pz t τ HH Q J h => ?_⟩ (mk_in har fun σ H Q ⟨m, S, σD, R, Rs, p⟩ => p.ok R .nil)
  refine wpAny_Call_Name_kw (ld_glob J hg hm ?_ hdb)
  exact PySem.W.callWith_K0 J.kIn M.kp (runG_make (ys := []) M F gd hr hb (passes_call tk fun _ _ _ _ h => h) J .nil h)
abbrev tMt (A : Ad) (E : XK) (c : Nat) (mn : Str) (fo : Sl → Sto → Out D) (fs : Sl → Sto → Out (List D)) (g : List D → Sto → Out D) : TE :=
  tE A E fun σ S => (fo σ S).bind fun x S => match x with
    | .loc a => match S[a]? with
      | some (.ins c' fs') => if c' = c ∧ fs'.lookup mn = none then (fs σ S).bind fun ds S => g (x :: ds) S else .bad
      | _ => .bad
    | _ => .bad
theorem mt_in {c : Nat} {ta : TE} (hta : ∀ σ H Q, tE A E fo σ H Q → ta σ H Q) (har : ∀ ds S, ds.length ≠ ps.length → g ds S = .bad) {t : TA} (ht : ∀ σ H Q, tAs A E fs σ H Q → t σ H Q) :
    ∀ σ H Q, tMt A E c mn fo fs g σ H Q → tMeth (A.cl c) mn (spC A ps.length g) [] E ta t σ H Q :=
  fun σ H Q ⟨m, S, σD, R, Rs, p⟩ => hta σ H _ ⟨m, S, σD, R, Rs, p.seq.mono fun x H1 ⟨m1, S1, dx, e1, R1, rx, p1⟩ => by
    cases rx with
    | @loc i a e =>
      dsimp only at p1
      split at p1
      · rename_i c' fs' hx
        split at p1
        · rename_i hc
          obtain ⟨rfl, hc2⟩ := hc
          obtain ⟨a1, dx, ws, m1', g1, l1⟩ := R1.ins hx
          rw [e] at m1'; cases m1'
          refine ⟨_, dx, ws, rfl, g1, ?_, ht σ H1 _ ⟨m1, S1, σD, R1, Rs.mono e1, p1.seq.mono fun vs H2 ⟨m2, S2, ds, e2, R2, rl, p2⟩ => ?_⟩⟩
          · rcases l1.lookup (f := mn) with ⟨d', v, h1, h2, h3⟩ | ⟨_, h2⟩
            · rw [hc2] at h1; cases h1
            · exact h2
          · show spC A ps.length g (.ref _ :: (vs ++ [])) H2 Q E
            rw [List.append_nil]
            refine ⟨m2, S2, _ :: ds, R2, .cons (.loc (e2.loc _ _ e)) rl, ?_, p2⟩
            by_cases c : (D.loc i :: ds).length = ps.length
            · exact c
            · rw [har _ _ c] at p2; exact p2.elim
        · exact p1.elim
      · exact p1.elim
    | _ => exact (show False from p1).elim⟩
theorem s_meth {c : Nat} {pl : Sem Bool} (he0 : PE X o (tE A E fo)) (cl : Cls X.K (A.cl c)) (hme : Meth X.K (A.cl c) mn f) (gd : X.A.guards = some []) (F : FnG X.prog X.w X.K X.mg X.base (L2.CX X.prog X.w) k f fd ps (spC A ps.length g)) (hr : Room k X.A) (hb : Binds X.K fd ps [])
    (tk : Takes X (fun cls d _ H => E cls d H)) (har : ∀ ds S, ds.length ≠ ps.length → g ds S = .bad) (ha : PA X (e :: es) (tAs A E fs))
    (he : starEach (e :: es) X.env = (false, eval e X.env) :: starEach es X.env) (hpl : (backTo pos (starEach es X.env)).any (·.1) = false)
    (ht : eval (.Call (.Attribute o mn apos) (e :: es) [] pos) X.env = (do
      let ov ← eval o X.env
      standAt apos.atName
      let (f, first) ← holding [ov] (getMethod ov mn pl)
      callWith pos f first (backTo pos (starEach (e :: es) X.env)) (backToKw pos (keywordEach [] X.env)))) :
    PE X (.Call (.Attribute o mn apos) (e :: es) [] pos) (tMt A E c mn fo fs g) := by
  refine PEi (t := tMeth (A.cl c) mn (spC A ps.length g) [] E (tE A E fo) (tAs A E fs)) ⟨fun pz t τ HH Q J h => ?_⟩ (mt_in (fun _ _ _ h => h) har fun _ _ _ h => h)
  refine PySem.W.methodCall_KW (pl := pl) (thn (he0.run pz t τ HH _ J h) fun u t1 ⟨x, H1, J1, rx, a, dx, fs, ex, ea, l, q⟩ => ?_) ht
  subst ex
  obtain rfl : u = Value.ref a := rx
  refine getmeth_ok J1 ea cl hme l ?_
  refine PySem.W.callWith_K (first := [.ref a]) (h₀ := X.base) J.ok.mod.kin hme.kp (thn (ha.run pos pz t1 τ H1 _ J1 q) fun us t2 ⟨vs, H2, J2, r, q2⟩ => ⟨J2.kIn, ?_⟩) he hpl
  exact runG (ys := .ref a :: us) (xs := .ref a :: vs) F gd hr hb (passes_call tk fun _ _ _ _ h => h) J2 (.cons rfl r) (List.append_nil vs ▸ q2)
theorem s_meth0 {c : Nat} {pl : Sem Bool} (he0 : PE X o (tE A E fo)) (cl : Cls X.K (A.cl c)) (hme : Meth X.K (A.cl c) mn f) (gd : X.A.guards = some []) (F : FnG X.prog X.w X.K X.mg X.base (L2.CX X.prog X.w) k f fd ps (spC A ps.length g)) (hr : Room k X.A) (hb : Binds X.K fd ps [])
    (tk : Takes X (fun cls d _ H => E cls d H)) (har : ∀ ds S, ds.length ≠ ps.length → g ds S = .bad)
    (ht : eval (.Call (.Attribute o mn apos) [] [] pos) X.env = (do
      let ov ← eval o X.env
      standAt apos.atName
      let (f, first) ← holding [ov] (getMethod ov mn pl)
      callWith pos f first (backTo pos (starEach [] X.env)) (backToKw pos (keywordEach [] X.env)))) :
    PE X (.Call (.Attribute o mn apos) [] [] pos) (tMt A E c mn fo (fun _ S => .ok [] S) g) := by
  refine PEi (t := tMeth (A.cl c) mn (spC A ps.length g) [] E (tE A E fo) tNil) ⟨fun pz t τ HH Q J h => ?_⟩ (mt_in (fun _ _ _ h => h) har fun σ H Q ⟨m, S, σD, R, Rs, p⟩ => p.ok R .nil)
  refine PySem.W.methodCall_KW (pl := pl) (thn (he0.run pz t τ HH _ J h) fun u t1 ⟨x, H1, J1, rx, a, dx, fs, ex, ea, l, q⟩ => ?_) ht
  subst ex
  obtain rfl : u = Value.ref a := rx
  refine getmeth_ok J1 ea cl hme l ?_
  exact PySem.W.callWith_K0 (first := [.ref a]) J1.kIn hme.kp (runG (ys := [.ref a]) (xs := [.ref a]) F gd hr hb (passes_call tk fun _ _ _ _ h => h) J1 (.cons rfl .nil) q)
theorem boot_bi : ∀ b : BI, bootBuiltins b.name = some b.val := by intro b; cases b <;> decide +kernel
theorem bi_nn : ∀ b : BI, b.name ≠ "__name__" ∧ (b.name == ("__debug__" : Str)) = false := by intro b; cases b <;> decide +kernel
theorem s_bi (b : BI) (hK : A.K = X.K) (hc : X.calm = true) (hy : SysK X.K) (gd : X.A.guards = some []) (hu : X.A.units + 64 < cLine) (hg : Gl X b.name) (hm : X.mg b.name = none) (ha : PA X (e :: es) (tAs A E fs))
    (he : starEach (e :: es) X.env = (false, eval e X.env) :: starEach es X.env) (hpl : (backTo pos (starEach es X.env)).any (·.1) = false) :
    PE X (.Call (.Name b.name p) (e :: es) [] pos) (tE A E fun σ S => (fs σ S).bind fun ds S => .of (biSem b ds S)) := by
  have i : ∀ σ H Q, tE A E (fun σ S => (fs σ S).bind fun ds S => .of (biSem b ds S)) σ H Q → tCB (rBi A b) (tAs A E fs) σ H Q := fun σ H Q ⟨m, S, σD, R, Rs, p⟩ =>
    ⟨m, S, σD, R, Rs, p.seq.mono fun vs H1 ⟨m1, S1, ds, e1, R1, rl, p1⟩ => ⟨m1, S1, ds, R1, rl, p1.po⟩⟩
  have hB := boot_bi b
  have hN := bi_nn b
  have hR := bi_ok hK hc hy gd hu b
  revert hB hN hR hg hm i
  generalize b.name = nm
  intro hg hm i hB hN hR
  cases b <;> first
    | exact PEi (pe_callB hR hg hm hB ha hN.1 hN.2 he hpl) i
    | exact PEi (pe_callTy hR hg hm hB ha hN.1 hN.2 he hpl) i
theorem slot_bm : ∀ b : BM, ∃ T, PlainAttrs T ∧ Slot T b.name b.id ∧ typeOf (.builtin b.id) = pure (.type "method_descriptor") ∧ T = "list"
  | .append => ⟨_, PySem.F.plainAttrs_list, PySem.F.slot_list_append, PySem.F.type_list_append, rfl⟩
  | .extend => ⟨_, PySem.F.plainAttrs_list, PySem.F.slot_list_extend, PySem.F.type_list_extend, rfl⟩
  | .pop => ⟨_, PySem.F.plainAttrs_list, PySem.F.slot_list_pop, PySem.F.type_list_pop, rfl⟩
  | .reverse => ⟨_, PySem.F.plainAttrs_list, PySem.F.slot_list_reverse, PySem.F.type_list_reverse, rfl⟩
abbrev tBm (A : Ad) (E : XK) (b : BM) (fo : Sl → Sto → Out D) (fs : Sl → Sto → Out (List D)) : TE :=
  tE A E fun σ S => (fo σ S).bind fun x S => match x with
    | .loc a => match S[a]? with
      | some (.lst _) => (fs σ S).bind fun ds S => .of (bmSem b x ds S)
      | _ => .bad
    | _ => .bad
theorem bm_in {b : BM} {t : TA} (ht : ∀ σ H Q, tAs A E fs σ H Q → t σ H Q) : ∀ σ H Q, tBm A E b fo fs σ H Q → tBM X.K "list" (rBm A b) (tE A E fo) t σ H Q :=
  fun σ H Q ⟨m, S, σD, R, Rs, p⟩ => ⟨m, S, σD, R, Rs, p.seq.mono fun x H1 ⟨m1, S1, dx, e1, R1, rx, p1⟩ => by
    cases rx with
    | @loc i a e =>
      dsimp only at p1
      split at p1
      · rename_i xs hx
        obtain ⟨a1, vs, m1', g1, l1⟩ := R1.lst hx
        rw [e] at m1'; cases m1'
        exact ⟨.inl ⟨rfl, _, SqL.of g1⟩, ht σ H1 _ ⟨m1, S1, σD, R1, Rs.mono e1, p1.seq.mono fun vs H2 ⟨m2, S2, ds, e2, R2, rl, p2⟩ => ⟨m2, S2, _, ds, R2, .loc (e2.loc _ _ e), rl, p2.po⟩⟩⟩
      · exact p1.elim
    | _ => exact (show False from p1).elim⟩
theorem s_bm (b : BM) (ho : PE X o (tE A E fo)) (ha : PA X (e :: es) (tAs A E fs)) (hbase : attributeBase o b.name X.env (eval o X.env) = eval o X.env)
    (hfew : ((backTo pos (starEach (e :: es) X.env)).all (fun x => !x.1) && (backToKw pos (keywordEach [] X.env)).all (fun x => x.1.isSome)
      && decide ((e :: es).length + ([] : List Keyword).length + (if ([] : List Keyword).isEmpty then 0 else 1) < 30)) = true)
    (hline : (apos.endLine == pos.line) = true) (hs : starEach (e :: es) X.env = (false, eval e X.env) :: starEach es X.env) (hplain : (backTo pos (starEach es X.env)).any (·.1) = false) :
    PE X (.Call (.Attribute o b.name apos) (e :: es) [] pos) (tBm A E b fo fs) := by
  obtain ⟨T, h1, h2, h3, rfl⟩ := slot_bm b
  exact PEi (pe_bm h1 h2 h3 (bm_ok b) ho ha hbase hfew hline hs hplain) (bm_in fun _ _ _ h => h)
theorem s_bm0 (b : BM) (ho : PE X o (tE A E fo)) (hbase : attributeBase o b.name X.env (eval o X.env) = eval o X.env) (hline : (apos.endLine == pos.line) = true) :
    PE X (.Call (.Attribute o b.name apos) [] [] pos) (tBm A E b fo (fun _ S => .ok [] S)) := by
  obtain ⟨T, h1, h2, h3, rfl⟩ := slot_bm b
  exact PEi (pe_bm0 h1 h2 h3 (bm_ok (A := A) b) ho hbase hline) (bm_in (X := X) (t := tNil) (fun σ H Q ⟨m, S, σD, R, Rs, p⟩ => p.ok R .nil))
end

/-! ### iterables -/
def RJ (A : Ad) : List Addr → Hp → Walk → It → Prop := fun m0 H0 w J => ∀ i m S H, Ext A m0 H0 m H → Rep A m S H →
  match wgo w i S with
  | some none => J.stop i H
  | some (some d) => J.go i H ∧ ∀ x H', J.yld i H x H' → Ext A m H m H' ∧ Rep A m S H' ∧ RepD A m H' d x
  | none => True
abbrev tI (A : Ad) (E : XK) (f : Sl → Sto → Out Walk) : TI := tG A E (RJ A) f
theorem PIi {X : Cx} {tg e : Expr} {t t' : TI} (h : PI X tg e t) (i : ∀ σ H Q, t' σ H Q → t σ H Q) : PI X tg e t' := ⟨fun pins s σ H Q I hw => h.run pins s σ H Q I (i _ _ _ hw)⟩
/-- the keys of a written dict -/
def Itkd (ks : List Str) : It := ⟨fun i H => i < ks.length, fun i H x H' => H' = H ∧ ∃ k, ks[i]? = some k ∧ x = .str k, fun i H => ks.length ≤ i⟩
theorem keyS_at {es : Array DictEntry} {ks : List Str} (h : es.toList.map keyS = ks.map some) {i : Nat} {k : Str} (hk : ks[i]? = some k) : ∃ en t, es[i]? = some en ∧ en.key = .str k t := by
  have h1 : (es.toList.map keyS)[i]? = some (some k) := by rw [h, List.getElem?_map, hk]; rfl
  rw [List.getElem?_map, Option.map_eq_some_iff] at h1
  obtain ⟨en, h2, h3⟩ := h1
  rw [Array.getElem?_toList] at h2
  unfold keyS at h3
  split at h3
  · rename_i x t e
    cases h3
    exact ⟨en, t, h2, e⟩
  · cases h3
theorem turn_kd {P : Program} {w : World} {K : PySem.W.Frag} {tg : Expr} {d : Addr} {es : Array DictEntry} {n : Nat} {ks : List Str} (D : KDict K w d es n) (hk : es.toList.map keyS = ks.map some) (it : Addr) : Turn P w K tg (Itkd ks) [it] it (fun i h => h.IsKeyIter it d i ks.length n) where
  mem := by simp
  obj := fun i h st b hb => by
    have e : b = it := by simpa using hb
    subst e
    obtain ⟨oi, e, c, dd⟩ := st
    exact ⟨oi, e, fun v z => by rw [dd] at z; cases z⟩
  keep := fun i h h' st k => st.at fun oi e => k it (by simp) oi e
  item := by
    intro X hP hw hK hc i pins s σ H E I hf st hg
    subst hP hw hK
    obtain ⟨f0, f1, f2, f3, f4, f5⟩ := hf it (by simp)
    have hsz : es.size = ks.length := by have := congrArg List.length hk; simpa using this
    have hi : i < ks.length := hg
    have hki : ks[i]? = some ks[i] := List.getElem?_eq_getElem hi
    obtain ⟨en, t, hen, hkey⟩ := keyS_at hk hki
    refine next_key_item st (I.kIn _ _ D.at_) rfl hsz hen fun h' st' sb => ?_
    have I1 : Inv X pins σ H { s with heap := h' } := I.turned (t' := s.toks) (fun b ob hb e => (sb.2 b hb).trans e) f0 f1 f3 f4 f5
    obtain ⟨oi, e, c, dd⟩ := id st'
    exact ⟨en.key, rfl, go_of (s := { s with heap := h' }) e c dd (by decide) ⟨.str ks[i], H, I1, ⟨t, hkey⟩, ⟨rfl, _, hki, rfl⟩, st', fun b hb => (hf b hb).1⟩⟩
  done := by
    intro X hP hw hK hc i pins s σ H E I hf st hg
    subst hP hw hK
    obtain ⟨f0, f1, f2, f3, f4, f5⟩ := hf it (by simp)
    have hsz : es.size = ks.length := by have := congrArg List.length hk; simpa using this
    exact next_key_end (I.ok.hd hc) st (I.kIn _ _ D.at_) rfl hsz hg fun h' eb => ⟨rfl, I.turned (t' := s.toks) (fun b ob hb e => eb b ob hb e) f0 f1 f3 f4 f5⟩
  self := fun A i s Q E st h => wpAny_pyIter_keyiter st h
def iAny (K : PySem.W.Frag) (w : World) (tl : TE) : TI := fun σ H R => tl σ H fun x H1 => (∃ a, x = .ref a ∧ (∃ xs, SqL K H1 a xs) ∧ R (Itl K a) H1) ∨ (∃ a, x = .ref a ∧ (∃ xs, SqT K H1 a xs) ∧ R (Itt K a) H1) ∨ (∃ z, x = .str z ∧ R (Its z) H1) ∨ ∃ a es n ks, x = .ref a ∧ KDict K w a es n ∧ es.toList.map keyS = ks.map some ∧ R (Itkd ks) H1
theorem pi_any {X : Cx} {tg l : Expr} {tl : TE} (hl : PE X l tl) : PI X tg l (iAny X.K X.w tl) := by
  refine ⟨fun pins s σ H R I h => ?_⟩
  refine thn (hl.run pins s σ H _ I h) fun v s1 ⟨x, H1, I1, r1, q1⟩ => ?_
  rcases q1 with ⟨a, e, ⟨xs, hq⟩, q⟩ | ⟨a, e, ⟨xs, hq⟩, q⟩ | ⟨z, e, q⟩ | ⟨a, es, n, ks, e, D, hk, q⟩
  · subst e
    cases r1
    obtain ⟨its, rv, p, hz⟩ := I1.list hq
    refine wpAny_pyIter_list p.isList ?_
    refine ⟨s1.heap.objs.size, [s1.heap.objs.size], _, _, H1, rfl, I1.kept (t' := s1.toks) fun b o e => Heap.get?_push_of_some _ e, turn_list a _, ⟨_, Heap.get?_push_size _ rfl, rfl, rfl⟩, fun b hb => ?_, q⟩
    have e : b = s1.heap.objs.size := by simpa using hb
    subst e
    exact I1.fpOk (Nat.le_refl _) (I1.hok.fresh (Nat.le_refl _))
  · subst e
    cases r1
    obtain ⟨its, rv, p, hz⟩ := I1.tuple hq
    refine wpAny_pyIter_tuple (show s1.heap.IsTuple a its.toArray from p) ?_
    refine ⟨s1.heap.objs.size, [s1.heap.objs.size], _, _, H1, rfl, I1.kept (t' := s1.toks) fun b o e => Heap.get?_push_of_some _ e, turn_tuple a _, ⟨_, Heap.get?_push_size _ rfl, rfl, rfl⟩, fun b hb => ?_, q⟩
    have e : b = s1.heap.objs.size := by simpa using hb
    subst e
    exact I1.fpOk (Nat.le_refl _) (I1.hok.fresh (Nat.le_refl _))
  · subst e
    obtain ⟨t, rfl⟩ := r1
    cases ha : z.cps.all (· < 128)
    · exact wpAny_pyIter_wide ha (pi_one (tk := s1.toks) I1 _ (turn_str _ z t "str_iterator" (.inr rfl)) ⟨_, Heap.get?_push_size _ rfl, rfl, rfl⟩ q)
    · exact wpAny_pyIter_ascii ha (pi_one (tk := s1.toks) I1 _ (turn_str _ z t "str_ascii_iterator" (.inl rfl)) ⟨_, Heap.get?_push_size _ rfl, rfl, rfl⟩ q)
  · subst e
    cases r1
    have hsz : es.size = ks.length := by have := congrArg List.length hk; simpa using this
    refine iter_keys D.low (I1.kIn _ _ D.at_) ⟨rfl, rfl, rfl⟩ rfl ?_
    refine ⟨s1.heap.objs.size, [s1.heap.objs.size], _, _, H1, rfl, I1.kept (t' := s1.toks) fun b o e => Heap.get?_push_of_some _ e, turn_kd D hk _, ?_, fun b hb => ?_, q⟩
    · rw [← hsz]
      exact ⟨_, Heap.get?_push_size _ rfl, rfl, rfl⟩
    · have e : b = s1.heap.objs.size := by simpa using hb
      subst e
      exact I1.fpOk (Nat.le_refl _) (I1.hok.fresh (Nat.le_refl _))
section
variable {X : Cx} {A : Ad} {E : XK} {e a b tg : Expr} {fo fa fb : Sl → Sto → Out D} {p pos : Pos}
theorem SqT.inj {K : PySem.W.Frag} {H : Hp} {a : Addr} {xs ys : List V} (hx : H a = some (.tup xs)) (hy : H a = some (.tup ys)) : xs = ys := by rw [hx] at hy; cases hy; rfl
theorem get_none {m : List Addr} {H : Hp} {ds : List D} {vs : List V} {i : Nat} (l : RepL A m H ds vs) (h : ds[i]? = none) : vs.length ≤ i := by
  rw [l.length]; exact List.getElem?_eq_none_iff.mp h
theorem rj_list {m0 : List Addr} {H0 : Hp} {i : Nat} {a : Addr} (e : m0[i]? = some a) : RJ A m0 H0 (.li i) (Itl A.K a) := by
  intro j m S H ex R
  have bad : ∀ {r : Option (Option D)}, r = none → (match r with
    | some none => (Itl A.K a).stop j H
    | some (some d) => (Itl A.K a).go j H ∧ ∀ x H', (Itl A.K a).yld j H x H' → Ext A m H m H' ∧ Rep A m S H' ∧ RepD A m H' d x
    | none => True) := fun z => by subst z; trivial
  cases hx : S[i]? with
  | none => exact bad (by simp only [wgo, hx])
  | some c =>
    cases c with
    | lst xs =>
      have e2 : wgo (.li i) j S = some xs[j]? := by simp only [wgo, hx]
      rw [e2]
      obtain ⟨a1, vs, m1, g1, l1⟩ := R.lst hx
      rw [ex.loc _ _ e] at m1; cases m1
      cases hj : xs[j]? with
      | none => exact ⟨vs, SqL.of g1, get_none l1 hj⟩
      | some d =>
        obtain ⟨v, h1, h2⟩ := l1.get hj
        refine ⟨⟨vs, v, SqL.of g1, h1⟩, fun x H' y => ?_⟩
        obtain ⟨rfl, y2⟩ := y
        have := y2 _ (SqL.of g1)
        rw [h1] at this; cases this
        exact ⟨Ext.refl, R, h2⟩
    | _ => exact bad (by simp only [wgo, hx])
theorem rj_rl {m0 : List Addr} {H0 : Hp} {a : Addr} {xs : List D} {vs : List V} (t : RoL A.K H0 a vs) (l : RepL A m0 H0 xs vs) : RJ A m0 H0 (.vs xs) (Itl A.K a) := by
  intro j m S H ex R
  have t' := (ex.rol _ _ t).sq
  have l' := l.mono ex
  show match some xs[j]? with
    | some none => (Itl A.K a).stop j H
    | some (some d) => (Itl A.K a).go j H ∧ ∀ x H', (Itl A.K a).yld j H x H' → Ext A m H m H' ∧ Rep A m S H' ∧ RepD A m H' d x
    | none => True
  cases hj : xs[j]? with
  | none => exact ⟨vs, t', get_none l' hj⟩
  | some d =>
    obtain ⟨v, h1, h2⟩ := l'.get hj
    refine ⟨⟨vs, v, t', h1⟩, fun x H' y => ?_⟩
    obtain ⟨rfl, y2⟩ := y
    have := y2 _ t'
    rw [h1] at this; cases this
    exact ⟨Ext.refl, R, h2⟩
theorem rj_tup {m0 : List Addr} {H0 : Hp} {a : Addr} {xs : List D} {vs : List V} (t : SqT A.K H0 a vs) (l : RepL A m0 H0 xs vs) : RJ A m0 H0 (.vs xs) (Itt A.K a) := by
  intro j m S H ex R
  have t' := ex.tup _ _ t
  have l' := l.mono ex
  show match some xs[j]? with
    | some none => (Itt A.K a).stop j H
    | some (some d) => (Itt A.K a).go j H ∧ ∀ x H', (Itt A.K a).yld j H x H' → Ext A m H m H' ∧ Rep A m S H' ∧ RepD A m H' d x
    | none => True
  cases hj : xs[j]? with
  | none => exact ⟨vs, t', get_none l' hj⟩
  | some d =>
    obtain ⟨v, h1, h2⟩ := l'.get hj
    refine ⟨⟨vs, v, t', h1⟩, fun x H' y => ?_⟩
    obtain ⟨rfl, y2⟩ := y
    have := y2 _ t'
    rw [h1] at this; cases this
    exact ⟨Ext.refl, R, h2⟩
theorem rj_str {m0 : List Addr} {H0 : Hp} (z : Str) : RJ A m0 H0 (.vs (charsD z)) (Its z) := by
  intro j m S H ex R
  show match some (charsD z)[j]? with
    | some none => (Its z).stop j H
    | some (some d) => (Its z).go j H ∧ ∀ x H', (Its z).yld j H x H' → Ext A m H m H' ∧ Rep A m S H' ∧ RepD A m H' d x
    | none => True
  have e : (charsD z)[j]? = (z.cps[j]?).map fun c => D.str ⟨#[c]⟩ := by
    unfold charsD
    rw [List.getElem?_map, Array.getElem?_toList]
  rw [e]
  cases hj : z.cps[j]? with
  | none => exact Array.getElem?_eq_none_iff.mp hj
  | some c =>
    refine ⟨(Array.getElem?_eq_some_iff.mp hj).1, fun x H' y => ?_⟩
    obtain ⟨rfl, c', h1, rfl⟩ := y
    rw [hj] at h1
    cases h1
    exact ⟨Ext.refl, R, .str _⟩
theorem rj_enT {m0 : List Addr} {H0 : Hp} {a : Addr} {xs : List D} {vs : List V} (t : SqT A.K H0 a vs) (l : RepL A m0 H0 xs vs) : RJ A m0 H0 (.en (.vs xs)) (IteT A.K a) := by
  intro j m S H ex R
  have t' := ex.tup _ _ t
  have l' := l.mono ex
  show match (some xs[j]?).map fun o => o.map fun d => D.tup [.int j, d] with
    | some none => (IteT A.K a).stop j H
    | some (some d) => (IteT A.K a).go j H ∧ ∀ x H', (IteT A.K a).yld j H x H' → Ext A m H m H' ∧ Rep A m S H' ∧ RepD A m H' d x
    | none => True
  cases hj : xs[j]? with
  | none => exact ⟨vs, t', get_none l' hj⟩
  | some d =>
    obtain ⟨v, h1, h2⟩ := l'.get hj
    refine ⟨⟨vs, v, t', h1⟩, fun x' H' y => ?_⟩
    obtain ⟨T, y1, rfl, hT, rfl, hy⟩ := y
    have := hy _ t'
    rw [h1] at this
    cases this
    obtain ⟨a, b, c⟩ := newTup R (ds := [.int j, d]) (vs := [.int j, v]) (.cons (.int _) (.cons h2 .nil)) hT
    exact ⟨b, a, c⟩
theorem rj_rng {m0 : List Addr} {H0 : Hp} (lo : Int) (n : Nat) : RJ A m0 H0 (.rng lo n) (Itr lo n) := by
  intro j m S H ex R
  show match some (if j < n then some (D.int (lo + j)) else none) with
    | some none => (Itr lo n).stop j H
    | some (some d) => (Itr lo n).go j H ∧ ∀ x H', (Itr lo n).yld j H x H' → Ext A m H m H' ∧ Rep A m S H' ∧ RepD A m H' d x
    | none => True
  by_cases c : j < n
  · rw [if_pos c]
    exact ⟨c, fun x H' ⟨h1, h2⟩ => by subst h1; subst h2; exact ⟨Ext.refl, R, .int _⟩⟩
  · rw [if_neg c]
    exact Nat.le_of_not_lt c
theorem rj_en {m0 : List Addr} {H0 : Hp} {w : Walk} {a : Addr} (h : RJ A m0 H0 w (Itl A.K a)) : RJ A m0 H0 (.en w) (Ite A.K a) := by
  intro j m S H ex R
  have z := h j m S H ex R
  show match (wgo w j S).map fun o => o.map fun d => D.tup [.int j, d] with
    | some none => (Ite A.K a).stop j H
    | some (some d) => (Ite A.K a).go j H ∧ ∀ x H', (Ite A.K a).yld j H x H' → Ext A m H m H' ∧ Rep A m S H' ∧ RepD A m H' d x
    | none => True
  revert z
  cases wgo w j S with
  | none => exact fun _ => trivial
  | some o =>
    cases o with
    | none => exact fun z => z
    | some d =>
      intro z
      obtain ⟨⟨xs, x, z1, z1'⟩, z2⟩ := z
      refine ⟨⟨xs, x, z1, z1'⟩, fun x' H' y => ?_⟩
      obtain ⟨T, y1, rfl, hT, rfl, hy⟩ := y
      obtain ⟨_, _, r⟩ := z2 y1 H ⟨rfl, hy⟩
      obtain ⟨a, b, c⟩ := newTup R (ds := [.int j, d]) (vs := [.int j, y1]) (.cons (.int _) (.cons r .nil)) hT
      exact ⟨b, a, c⟩
theorem rj_kd {m0 : List Addr} {H0 : Hp} (ks : List Str) : RJ A m0 H0 (.vs (ks.map D.str)) (Itkd ks) := by
  intro j m S H ex R
  show match some (ks.map D.str)[j]? with
    | some none => (Itkd ks).stop j H
    | some (some d) => (Itkd ks).go j H ∧ ∀ x H', (Itkd ks).yld j H x H' → Ext A m H m H' ∧ Rep A m S H' ∧ RepD A m H' d x
    | none => True
  rw [List.getElem?_map]
  cases hj : ks[j]? with
  | none => exact List.getElem?_eq_none_iff.mp hj
  | some c =>
    refine ⟨(List.getElem?_eq_some_iff.mp hj).1, fun x H' y => ?_⟩
    obtain ⟨rfl, c', h1, rfl⟩ := y
    rw [hj] at h1
    cases h1
    exact ⟨Ext.refl, R, .str _⟩
theorem s_iter (hK : A.K = X.K) (hW : A.w = X.w) (h : PE X e (tE A E fo)) : PI X tg e (tI A E fun σ S => (fo σ S).bind fun x S => .at S (walkOf x S)) :=
  PIi (pi_any h) fun σ H Q ⟨m, S, σD, R, Rs, p⟩ => ⟨m, S, σD, R, Rs, p.seq.mono fun x H1 ⟨m1, S1, dx, e1, R1, rx, p1⟩ => by
    cases rx with
    | tup t l => exact .inr (.inl ⟨_, rfl, ⟨_, hK ▸ t⟩, hK ▸ (p1.ok R1 (rj_tup t l))⟩)
    | str z => exact .inr (.inr (.inl ⟨_, rfl, p1.ok R1 (rj_str z)⟩))
    | @rd kvs a hd hn hr =>
      obtain ⟨es, n, D, hk⟩ := hd
      have hk' : es.toList.map keyS = (kvs.map (·.1)).map some := by rw [hk, List.map_map]; rfl
      have D' : KDict X.K X.w a es n := by rw [← hK, ← hW]; exact D
      exact .inr (.inr (.inr ⟨a, es, n, kvs.map (·.1), rfl, D', hk', p1.ok R1 (rj_kd _)⟩))
    | rl t l => exact .inl ⟨_, rfl, ⟨_, hK ▸ t.sq⟩, hK ▸ (p1.ok R1 (rj_rl t l))⟩
    | @loc i a e =>
      simp only [walkOf] at p1
      cases hx : S1[i]? with
      | none => rw [hx] at p1; exact p1.elim
      | some c =>
        rw [hx] at p1
        cases c with
        | lst xs =>
          obtain ⟨a1, vs, m1', g1, l1⟩ := R1.lst hx
          rw [e] at m1'; cases m1'
          exact .inl ⟨_, rfl, ⟨_, SqL.of g1⟩, hK ▸ (p1.ok R1 (rj_list e))⟩
        | _ => exact p1.elim
    | _ => exact (show False from p1).elim⟩
theorem rng_of {lo hi : Int} (h : rngOk lo hi = true) : -(2 ^ 62) ≤ lo ∧ lo < 2 ^ 62 ∧ -(2 ^ 62) ≤ hi ∧ hi < 2 ^ 62 := of_decide_eq_true h
theorem s_rng1 (hg : Gl X "range") (hm : X.mg "range" = none) (h : PE X e (tE A E fo)) (hs : starEach [e] X.env = (false, eval e X.env) :: starEach [] X.env) :
    PI X tg (.Call (.Name "range" p) [e] [] pos) (tI A E fun σ S => (fo σ S).bind fun x S => match x with | .int j => if rngOk 0 j = true then .ok (.rng 0 j.toNat) S else .bad | _ => .bad) :=
  PIi (pi_range1 hg hm (pa_cons h pa_nil hs) hs) fun σ H Q ⟨m, S, σD, R, Rs, p⟩ => ⟨m, S, σD, R, Rs, p.seq.mono fun x H1 ⟨m1, S1, dx, e1, R1, rx, p1⟩ => by
    cases rx with
    | int j =>
      dsimp only at p1
      split at p1
      · rename_i hr
        have z := rng_of hr
        exact ⟨j, rfl, z.2.2.1, z.2.2.2, p1.ok R1 (rj_rng 0 j.toNat)⟩
      · exact p1.elim
    | _ => exact (show False from p1).elim⟩
theorem s_rng2 (hg : Gl X "range") (hm : X.mg "range" = none) (ha : PE X a (tE A E fa)) (hb : PE X b (tE A E fb)) (hs : starEach [a, b] X.env = (false, eval a X.env) :: starEach [b] X.env) (hs2 : starEach [b] X.env = (false, eval b X.env) :: starEach [] X.env) :
    PI X tg (.Call (.Name "range" p) [a, b] [] pos) (tI A E fun σ S => (fa σ S).bind fun x S => (fb σ S).bind fun y S => match x, y with
      | .int i, .int j => if rngOk i j = true then .ok (.rng i (j - i).toNat) S else .bad
      | _, _ => .bad) :=
  PIi (pi_range2 hg hm (pa_cons ha (pa_cons hb pa_nil hs2) hs) (by rw [hs, hs2]; rfl) hs2) fun σ H Q ⟨m, S, σD, R, Rs, p⟩ => ⟨m, S, σD, R, Rs, p.seq.mono fun x H1 ⟨m1, S1, dx, e1, R1, rx, p1⟩ => ⟨m1, S1, σD, R1, Rs.mono e1, p1.seq.mono fun y H2 ⟨m2, S2, dy, e2, R2, ry, p2⟩ => by
    cases rx with
    | int i =>
      cases ry with
      | int j =>
        dsimp only at p2
        split at p2
        · rename_i hr
          exact ⟨i, j, rfl, rng_of hr, p2.ok R2 (rj_rng i (j - i).toNat)⟩
        · exact p2.elim
      | _ => exact (show False from p2).elim
    | _ => exact (show False from p2).elim⟩⟩
theorem s_enum {elts : List Expr} {kk : Nat} {tpos : Pos} (hK : A.K = X.K) (hg : Gl X "enumerate") (hm : X.mg "enumerate" = none) (h : PE X e (tE A E fo)) (hs : starEach [e] X.env = (false, eval e X.env) :: starEach [] X.env) :
    PI X (.Tuple elts kk tpos) (.Call (.Name "enumerate" p) [e] [] pos) (tI A E fun σ S => (fo σ S).bind fun x S => match walkL x S with | some w => .ok (.en w) S | none => .bad) :=
  PIi (pi_enumA hg hm (pa_cons h pa_nil hs) hs) fun σ H Q ⟨m, S, σD, R, Rs, p⟩ => ⟨m, S, σD, R, Rs, p.seq.mono fun x H1 ⟨m1, S1, dx, e1, R1, rx, p1⟩ => by
    cases rx with
    | tup t l => exact ⟨_, rfl, .inr ⟨⟨_, hK ▸ t⟩, hK ▸ (p1.ok R1 (rj_enT t l))⟩⟩
    | rl t l => exact ⟨_, rfl, .inl ⟨⟨_, hK ▸ t.sq⟩, hK ▸ (p1.ok R1 (rj_en (rj_rl t l)))⟩⟩
    | @loc i a e =>
      simp only [walkL] at p1
      cases hx : S1[i]? with
      | none => rw [hx] at p1; exact p1.elim
      | some c =>
        rw [hx] at p1
        cases c with
        | lst xs =>
          obtain ⟨a1, vs, m1', g1, l1⟩ := R1.lst hx
          rw [e] at m1'; cases m1'
          exact ⟨_, rfl, .inl ⟨⟨_, SqL.of g1⟩, hK ▸ (p1.ok R1 (rj_en (rj_list e)))⟩⟩
        | _ => exact p1.elim
    | _ => exact (show False from p1).elim⟩
end
end DI

set_option Elab.async false
set_option linter.all false
set_option maxRecDepth 100000
set_option maxHeartbeats 4000000
/-! Targets, comprehensions. -/
namespace DI
open L2 PySem PySem.Spec PyProof.Rows
def EF : XK := fun _ _ _ => False
def gNames : List Nat → TGs
  | [] => gNil
  | i :: is => gCons (gName i) (gNames is)
def gOf (K : PySem.W.Frag) : Tg → TG
  | .nm i => gName i
  | .tp is => gTup K is.length (gNames is)
def Tg.slots : Tg → List Nat
  | .nm i => [i]
  | .tp is => is
section
variable {X : Cx} {A : Ad} {E : XK} {m : List Addr} {H : Hp}
theorem gNames_in (inv : L2.St → Prop) (Q : L2.St → Hp → Prop) : ∀ (is : List Nat) (ds : List D) (vs : List V) (σD σD' : Sl) (σ : L2.St), setTs is ds σD = some σD' → RepL A m H ds vs → RepS A m H σD σ →
    (∀ τ i v, i ∈ is → inv τ → inv (τ.set i (some v))) → inv σ → (∀ σ', RepS A m H σD' σ' → inv σ' → Q σ' H) → gNames is vs σ H Q
  | [], [], _, σD, σD', σ, h, .nil, Rs, hi, i0, k => by simp only [setTs] at h; cases h; exact ⟨rfl, k σ Rs i0⟩
  | [], d :: ds, _, σD, σD', σ, h, _, Rs, hi, i0, k => by simp only [setTs] at h; cases h
  | i :: is, [], _, σD, σD', σ, h, _, Rs, hi, i0, k => by simp only [setTs] at h; cases h
  | i :: is, d :: ds, _, σD, σD', σ, h, .cons a b, Rs, hi, i0, k => by
    simp only [setTs] at h
    exact ⟨_, _, rfl, gNames_in inv Q is ds _ _ σD' _ h b (Rs.set a i) (fun τ j v hj => hi τ j v (List.mem_cons_of_mem _ hj)) (hi _ _ _ List.mem_cons_self i0) k⟩
theorem gOf_in {K : PySem.W.Frag} (hK : A.K = K) (inv : L2.St → Prop) (Q : L2.St → Hp → Prop) {tg : Tg} {d : D} {v : V} {σD σD' : Sl} {σ : L2.St} (h : setTg tg d σD = some σD') (r : RepD A m H d v) (Rs : RepS A m H σD σ)
    (hi : ∀ τ i v, i ∈ tg.slots → inv τ → inv (τ.set i (some v))) (i0 : inv σ) (k : ∀ σ', RepS A m H σD' σ' → inv σ' → Q σ' H) : gOf K tg v σ H Q := by
  cases tg with
  | nm i =>
    simp only [setTg] at h; cases h
    exact k _ (Rs.set r i) (hi _ _ _ List.mem_cons_self i0)
  | tp is =>
    cases r with
    | tup t l =>
      simp only [setTg] at h
      refine ⟨_, _, rfl, hK ▸ t, ?_, gNames_in inv Q is _ _ _ _ _ h l Rs hi i0 k⟩
      rw [l.length]
      clear t l hi k i0 Rs
      revert h
      rename_i xs _ _
      induction is generalizing xs σD with
      | nil => intro h; cases xs <;> simp_all [setTs]
      | cons i is ih => intro h; cases xs with
        | nil => simp [setTs] at h
        | cons x xs => simp only [setTs] at h; rw [List.length_cons, List.length_cons, ih h]
    | _ => simp only [setTg] at h; cases h
theorem wipe_set {vs : List Nat} {i : Nat} {y : Option V} (h : i ∈ vs) : ∀ τ : L2.St, L2.wipe (τ.set i y) vs = L2.wipe τ vs := by
  induction vs with
  | nil => cases h
  | cons v vs ih =>
    intro τ
    have hw : ∀ (ws : List Nat) (τ : L2.St) (j : Nat) (y : Option V), L2.wipe (τ.set j y) ws = (L2.wipe τ ws).set j (if j ∈ ws then none else y) := by
      intro ws
      induction ws with
      | nil => intro τ j y; simp [L2.wipe]
      | cons w ws ih2 =>
        intro τ j y
        show (L2.wipe (τ.set j y) ws).set w none = ((L2.wipe τ ws).set w none).set j _
        rw [ih2]
        by_cases e : w = j
        · subst e
          rw [List.set_set, if_pos List.mem_cons_self, List.set_set]
        · rw [List.set_comm _ _ e]
          congr 1
          by_cases e2 : j ∈ ws
          · rw [if_pos e2, if_pos (List.mem_cons_of_mem _ e2)]
          · rw [if_neg e2, if_neg (by rw [List.mem_cons]; rintro (z | z); exact e z.symm; exact e2 z)]
    show (L2.wipe (τ.set i y) vs).set v none = (L2.wipe τ vs).set v none
    by_cases e : i ∈ vs
    · rw [ih e]
    · have e2 : i = v := by
        rcases List.mem_cons.mp h with z | z
        · exact z
        · exact absurd z e
      subst e2
      rw [hw, List.set_set]
theorem wipe_wipe (vs : List Nat) : ∀ τ : L2.St, L2.wipe (L2.wipe τ vs) vs = L2.wipe τ vs := by
  have : ∀ ws : List Nat, (∀ w ∈ ws, w ∈ vs) → ∀ τ : L2.St, L2.wipe (L2.wipe τ ws) vs = L2.wipe τ vs := by
    intro ws
    induction ws with
    | nil => intro _ τ; rfl
    | cons w ws ih =>
      intro h τ
      show L2.wipe ((L2.wipe τ ws).set w none) vs = _
      rw [wipe_set (h w List.mem_cons_self), ih (fun z hz => h z (List.mem_cons_of_mem _ hz))]
  exact fun τ => this vs (fun _ h => h) τ
def RE {α : Type} : List Addr → Hp → α → α → Prop := fun _ _ d b => d = b
theorem Post.tstb {m : List Addr} {H : Hp} {o : Out D} {Q : Bool → Hp → Prop} (p : Post A E RE m H (tstO o) Q) : Post A E RB m H o Q := by
  cases o with
  | ok d S1 =>
    intro m1 H1 x e1 R1 rx
    have e : d = .bl x := rx
    subst e
    exact p m1 H1 x e1 R1 rfl
  | err c fs S1 => exact p
  | bad => exact p
theorem s_pts0 : PTs X [] (tG A E RE fun _ S => .ok true S) := ⟨fun pins s σ H Q I hw => pts_nil.run pins s σ H Q I (let ⟨_, _, _, R, _, p⟩ := hw; p.ok R rfl)⟩
theorem s_pts1 {c : Expr} {fa : Sl → Sto → Out D} (h : PT X c (tT A E fa)) : PTs X [c] (tG A E RE fun σ S => tstO (fa σ S)) :=
  ⟨fun pins s σ H Q I hw => (pts_one h).run pins s σ H Q I (let ⟨m, S, σD, R, Rs, p⟩ := hw; ⟨m, S, σD, R, Rs, p.tstb⟩)⟩
theorem lc_in (hK : A.K = X.K) {fi : Sl → Sto → Out Walk} {tg : Tg} {ft : Sl → Sto → Out Bool} {fe : Sl → Sto → Out D} {vs : List Nat} (htg : ∀ i ∈ tg.slots, i ∈ vs) :
    ∀ σ H Q, tE A E (fun σ S => (fi σ S).bind fun w S => (lcLoop w tg (wipeD σ vs) S.length ft fe (wlen w S) 0 (S ++ [.lst []])).bind fun _ S' => .ok (.loc S.length) S') σ H Q →
      tLc (tI A E fi) (gOf X.K tg) (tG A EF RE ft) (tE A EF fe) vs σ H Q := by
  intro σ H Q ⟨m, S, σD, R, Rs, p⟩
  refine ⟨m, S, σD, R, Rs, p.seq.mono fun J H1 ⟨m1, S1, w, e1, R1, rj, p1⟩ D hD => ?_⟩
  obtain ⟨Ra, ea, ra⟩ := newCell (c := .lst []) (o := .lst []) R1 hD (.lst upd_same .nil)
  cases ra with
  | loc eD =>
  have Rw := (Rs.mono (e1.trans ea)).wipe vs
  refine ⟨fun i k H => ∃ m S', Ext A (m1 ++ [D]) (upd H1 D (.lst [])) m H ∧ Rep A m S' H ∧ Post A E (RepD A) m H ((lcLoop w tg (wipeD σD vs) S1.length ft fe k i S').bind fun _ S' => .ok (.loc S1.length) S') Q,
    ⟨wlen w S1, _, _, Ext.refl, Ra, Post.base p1 ea⟩, ?_⟩
  rintro i k H2 ⟨m2, S2, e2, R2, p2⟩
  have fin : ∀ {z : Out Unit}, z = .ok () S2 → Post A E (RepD A) m2 H2 (z.bind fun _ S' => .ok (.loc S1.length) S') Q → Q (.ref D) H2 := by
    intro z hz p
    subst hz
    exact p m2 H2 _ Ext.refl R2 (.loc (e2.loc _ _ eD))
  have hbad : ∀ {z : Out Unit} {m : List Addr} {H : Hp}, z = .bad → Post A E (RepD A) m H (z.bind fun _ S' => .ok (.loc S1.length) S') Q → False := by
    intro z m H hz p
    subst hz
    exact p
  have z := rj i m2 S2 H2 (ea.trans e2) R2
  cases hw : wgo w i S2 with
  | none =>
    exfalso
    cases k with
    | zero => exact hbad (by simp only [lcLoop, hw]) p2
    | succ k => exact hbad (by simp only [lcLoop, hw]) p2
  | some o =>
    rw [hw] at z
    cases o with
    | none =>
      refine .inl ⟨z, ?_⟩
      cases k with
      | zero => exact fin (by simp only [lcLoop, hw]) p2
      | succ k => exact fin (by simp only [lcLoop, hw]) p2
    | some d =>
      cases k with
      | zero => exact (hbad (by simp only [lcLoop, hw]) p2).elim
      | succ k =>
        obtain ⟨z1, z2⟩ := z
        refine .inr ⟨z1, _, fun H' hN => ⟨k, Nat.lt_succ_self k, hN⟩, fun x H3 hy => ?_⟩
        obtain ⟨e3, R3, rx⟩ := z2 x H3 hy
        have p3 := Post.base p2 e3
        simp only [lcLoop, hw] at p3
        cases hs : setTg tg d (wipeD σD vs) with
        | none => rw [hs] at p3; exact p3.elim
        | some σ' =>
          rw [hs] at p3
          dsimp only at p3
          refine gOf_in hK (fun τ => L2.wipe τ vs = L2.wipe σ vs) _ hs rx (Rw.mono (e2.trans e3)) (fun τ j v hj hτ => by rw [wipe_set (htg j hj)]; exact hτ) (wipe_wipe vs σ) fun σ2 Rs2 hw2 => ?_
          refine ⟨hw2, m2, S2, σ', R3, Rs2, ?_⟩
          revert p3
          cases ft σ' S2 with
          | err c fs S3 => exact fun p3 => p3.elim
          | bad => exact fun p3 => p3.elim
          | ok t S3 =>
            intro p3 m4 H4 b e4 R4 hb
            obtain rfl : t = b := hb
            have p4 := Post.base p3 e4
            cases t with
            | false => exact iteF ⟨m4, S3, (e2.trans e3).trans e4, R4, p4⟩
            | true =>
              refine iteT ⟨m4, S3, σ', R4, Rs2.mono e4, ?_⟩
              dsimp only at p4
              revert p4
              cases fe σ' S3 with
              | err c fs S5 => exact fun p4 => p4.elim
              | bad => exact fun p4 => p4.elim
              | ok v S5 =>
                intro p4 m6 H6 y e6 R6 ry
                have p6 := Post.base p4 e6
                dsimp only at p6
                have ex6 := ((e2.trans e3).trans e4).trans e6
                cases hn : S5[S1.length]? with
                | none => rw [hn] at p6; exact p6.elim
                | some c =>
                  rw [hn] at p6
                  cases c with
                  | lst acc =>
                    dsimp only at p6
                    obtain ⟨a1, ws, g0, g1, l1⟩ := R6.lst hn
                    rw [ex6.loc _ _ eD] at g0; cases g0
                    split at p6
                    · rename_i hl
                      obtain ⟨Rn, en⟩ := R6.setLst (ex6.loc _ _ eD) g1 (l1.app (.cons ry .nil))
                      exact ⟨ws, g1, by rw [l1.length]; exact hl, m6, _, ex6.trans en, Rn, Post.base p6 en⟩
                    · exact p6.elim
                  | _ => exact p6.elim
end
end DI

set_option Elab.async false
set_option linter.all false
set_option maxRecDepth 100000
set_option maxHeartbeats 4000000
/-! Calls with keywords, of defs without defaults. -/
namespace DI
open L2 PySem PySem.Spec PyProof.Rows
theorem repL_app {A : Ad} {m : List Addr} {H : Hp} : ∀ {ds dz : List D} {vs vz : List V}, RepL A m H ds vs → RepL A m H dz vz → RepL A m H (ds ++ dz) (vs ++ vz)
  | _, _, _, _, .nil, b => b
  | _, _, _, _, .cons h t, b => .cons h (repL_app t b)
theorem pmL_rel {A : Ad} {m : List Addr} {H : Hp} : ∀ (pm : List Nat) {ds : List D} {vs : List V}, RepL A m H ds vs → RepL A m H (pmL pm ds) (pmL pm vs)
  | [], _, _, _ => .nil
  | i :: pm, ds, vs, r => by
    unfold pmL
    rw [List.filterMap_cons, List.filterMap_cons]
    cases h : ds[i]? with
    | none =>
      have : vs[i]? = none := by
        rw [List.getElem?_eq_none_iff] at h ⊢
        rw [r.length]; exact h
      rw [this]
      exact pmL_rel pm r
    | some d =>
      obtain ⟨v, h1, h2⟩ := r.get h
      rw [h1]
      exact .cons h2 (pmL_rel pm r)
theorem vals_len {vs : List V} {us : List Value} (r : Vals vs us) : vs.length = us.length := r.length
theorem vals_get {vs : List V} {us : List Value} (r : Vals vs us) (i : Nat) : (vs[i]? = none ∧ us[i]? = none) ∨ ∃ v u, vs[i]? = some v ∧ us[i]? = some u ∧ RelV v u := by
  induction r generalizing i with
  | nil => exact .inl ⟨rfl, rfl⟩
  | @cons v u vs us h t ih =>
    cases i with
    | zero => exact .inr ⟨v, u, rfl, rfl, h⟩
    | succ i => simpa using ih i
theorem pmL_vals : ∀ (pm : List Nat) {vs : List V} {us : List Value}, Vals vs us → Vals (pmL pm vs) (pmL pm us)
  | [], _, _, _ => .nil
  | i :: pm, vs, us, r => by
    unfold pmL
    rw [List.filterMap_cons, List.filterMap_cons]
    rcases vals_get r i with ⟨h1, h2⟩ | ⟨v, u, h1, h2, h3⟩
    · rw [h1, h2]; exact pmL_vals pm r
    · rw [h1, h2]; exact .cons h3 (pmL_vals pm r)
theorem vals_app {vs zs : List V} {us ws : List Value} (a : Vals vs us) (b : Vals zs ws) : Vals (vs ++ zs) (us ++ ws) := by
  induction a with
  | nil => exact b
  | cons h _ ih => exact .cons h ih
/-- a shape of a call binds -/
abbrev KB (K : PySem.W.Frag) (fd : FuncData) (ps : List Str) (n : Nat) (ks : List Str) (pm : List Nat) : Prop := KBn K fd ps n ks (fun us ws => pmL pm (us ++ ws)) (fun vs zs => pmL pm (vs ++ zs))
theorem kb_of {K : PySem.W.Frag} {x qual : Str} {params : Arguments} {body : List Stmt} {scope : Scope} {kws : List (Str × V)} {f : Addr} {fd : FuncData} {ps ks : List Str} {n : Nat} {pm : List Nat} (F : FunD K x qual params body scope [] kws f fd)
    (h : ∀ (kV doc pmv : Value) (an : Option Addr) (cdv ct : Value) (us ws : List Value), us.length = n → ws.length = ks.length → bindArgs (PySem.W.fnOf x qual params body scope .none kV doc pmv an cdv ct) ⟨us, ks.zip ws⟩ = pure (ps.zip (pmL pm (us ++ ws)))) : KB K fd ps n ks pm := by
  obtain ⟨oc, od, dV, kV, doc, pmv, an, cdv, ct, osl, rfl, lk, hcd, hD, hK⟩ := F.ex
  rcases hD with ⟨_, rfl⟩ | ⟨e, _⟩
  · exact ⟨fun s us ws X l1 l2 => .of_eq (h kV doc pmv an cdv ct us ws l1 l2), fun r1 r2 => pmL_vals pm (vals_app r1 r2)⟩
  · exact absurd rfl e
section
variable {X : Cx} {A : Ad} {E : XK} {k n : Nat} {f : Addr} {fd : FuncData} {ps ks : List Str} {pm : List Nat} {g : List D → Sto → Out D} {fs fz : Sl → Sto → Out (List D)} {fo : Sl → Sto → Out D} {x mn : Str} {p pos apos kpos : Pos} {e o : Expr} {es : List Expr} {kws : List Keyword} {nm : Option Str} {t t' : TA} {fa : Sl → Sto → Out D}
theorem PKi (h : PK X kws t) (i : ∀ σ H Q, t' σ H Q → t σ H Q) : PK X kws t' := ⟨fun pos pins s σ H Q I q => h.run pos pins s σ H Q I (i σ H Q q)⟩
theorem k_nil : PK X [] (tAs A E fun _ S => .ok [] S) := PKi pk_nil fun σ H Q ⟨m, S, σD, R, Rs, p⟩ => p.ok R .nil
theorem k_cons (ha : PE X e (tE A E fa)) (hs : PK X kws (tAs A E fz)) : PK X (⟨nm, e, kpos⟩ :: kws) (tAs A E fun σ S => (fa σ S).bind fun d S => (fz σ S).bind fun ds S => .ok (d :: ds) S) :=
  PKi (pk_cons ha hs) fun σ H Q ⟨m, S, σD, R, Rs, p⟩ => ⟨m, S, σD, R, Rs, p.seq.mono fun v H1 ⟨m1, S1, d, e1, R1, r1, p1⟩ =>
    ⟨m1, S1, σD, R1, Rs.mono e1, p1.seq.mono fun vs H2 ⟨m2, S2, ds, e2, R2, r2, p2⟩ => p2.ok R2 (.cons (r1.mono e2) r2)⟩⟩
abbrev tCalK (A : Ad) (E : XK) (n nz : Nat) (pm : List Nat) (fs fz : Sl → Sto → Out (List D)) (g : List D → Sto → Out D) : TE := tE A E fun σ S => (fs σ S).bind fun ds S => (fz σ S).bind fun zs S => if ds.length = n ∧ zs.length = nz then g (pmL pm (ds ++ zs)) S else .bad
theorem calK_in (har : ∀ ds S, ds.length ≠ ps.length → g ds S = .bad) {t tk : TA} (ht : ∀ σ H Q, tAs A E fs σ H Q → t σ H Q) (htk : ∀ σ H Q, tAs A E fz σ H Q → tk σ H Q) : ∀ σ H Q, tCalK A E n ks.length pm fs fz g σ H Q → tCallN n ks.length (spC A ps.length g) (fun vs zs => pmL pm (vs ++ zs)) E t tk σ H Q :=
  fun σ H Q ⟨m, S, σD, R, Rs, p⟩ => ht σ H _ ⟨m, S, σD, R, Rs, p.seq.mono fun vs H1 ⟨m1, S1, ds, e1, R1, rl, p1⟩ => htk σ H1 _ ⟨m1, S1, σD, R1, Rs.mono e1, p1.seq.mono fun zs H2 ⟨m2, S2, dz, e2, R2, rz, p2⟩ => by
    split at p2
    · rename_i c
      refine ⟨by rw [rl.length]; exact c.1, by rw [rz.length]; exact c.2, m2, S2, _, R2, pmL_rel pm (repL_app (rl.mono e2) rz), ?_, p2⟩
      by_cases c : (pmL pm (ds ++ dz)).length = ps.length
      · exact c
      · rw [har _ S2 c] at p2; exact p2.elim
    · exact p2.elim⟩⟩
theorem s_callK (gd : X.A.guards = some []) (F : FnG X.prog X.w X.K X.mg X.base (L2.CX X.prog X.w) k f fd ps (spC A ps.length g)) (hr : Room k X.A) (hg : Gl X x) (hm : X.mg x = some (.ref f)) (hk : PySem.W.keepIn X.K (.ref f) = true) (hb : KB X.K fd ps n ks pm)
    (tk : Takes X (fun cls d _ H => E cls d H)) (har : ∀ ds S, ds.length ≠ ps.length → g ds S = .bad) (ha : PA X (e :: es) (tAs A E fs)) (hz : PK X kws (tAs A E fz)) (hdb : (x == ("__debug__" : Str)) = false)
    (hall : (backToKw pos (keywordEach kws X.env)).all (·.1.isSome) = true) (hks : (backToKw pos (keywordEach kws X.env)).filterMap (·.1) = ks)
    (he : starEach (e :: es) X.env = (false, eval e X.env) :: starEach es X.env) (hpl : ((backTo pos (starEach (e :: es) X.env)).any (·.1) || (backToKw pos (keywordEach kws X.env)).any (·.1.isNone)) = false) :
    PE X (.Call (.Name x p) (e :: es) kws pos) (tCalK A E n ks.length pm fs fz g) := by
  refine PEi (t := tCallN n ks.length (spC A ps.length g) (fun vs zs => pmL pm (vs ++ zs)) E (tAs A E fs) (tAs A E fz)) ⟨fun pz t τ HH Q J h => ?_⟩ (calK_in har (fun _ _ _ h => h) fun _ _ _ h => h)
  refine wpAny_Call_Name_kw (ld_glob J hg hm ?_ hdb)
  refine PySem.W.callWith_KW (h₀ := X.base) J.ok.mod.kin hk hall (thn (ha.run pos pz t τ HH _ J h) fun us t1 ⟨vs, H1, J1, r, q⟩ => ?_) hpl he
  refine thn (hz.run pos pz t1 τ H1 _ J1 q) fun ws t2 ⟨zs, H2, J2, rz, l1, l2, q2⟩ => ⟨J2.kIn, ?_⟩
  rw [hks]
  exact runG_kw F gd hr hb (passes_call tk fun _ _ _ _ h => h) J2 r rz l1 l2 q2
theorem s_callK0 (gd : X.A.guards = some []) (F : FnG X.prog X.w X.K X.mg X.base (L2.CX X.prog X.w) k f fd ps (spC A ps.length g)) (hr : Room k X.A) (hg : Gl X x) (hm : X.mg x = some (.ref f)) (hk : PySem.W.keepIn X.K (.ref f) = true) (hb : KB X.K fd ps n ks pm)
    (tk : Takes X (fun cls d _ H => E cls d H)) (har : ∀ ds S, ds.length ≠ ps.length → g ds S = .bad) (hz : PK X kws (tAs A E fz)) (hdb : (x == ("__debug__" : Str)) = false)
    (hall : (backToKw pos (keywordEach kws X.env)).all (·.1.isSome) = true) (hks : (backToKw pos (keywordEach kws X.env)).filterMap (·.1) = ks)
    (hpl : ((backTo pos (starEach [] X.env)).any (·.1) || (backToKw pos (keywordEach kws X.env)).any (·.1.isNone)) = false) :
    PE X (.Call (.Name x p) [] kws pos) (tCalK A E n ks.length pm (fun _ S => .ok [] S) fz g) := by
  refine PEi (t := tCallN n ks.length (spC A ps.length g) (fun vs zs => pmL pm (vs ++ zs)) E tNil (tAs A E fz)) ⟨fun pins s σ H Q I h => ?_⟩ (calK_in har (fun σ H Q ⟨m, S, σD, R, Rs, p⟩ => p.ok R .nil) fun _ _ _ h => h)
  refine wpAny_Call_Name_kw (ld_glob I hg hm ?_ hdb)
  refine PySem.W.callWith_KW0 (h₀ := X.base) I.ok.mod.kin hk hall (thn (hz.run pos pins s σ H _ I h) fun ws s2 ⟨zs, H2, I2, rz, l1, l2, q2⟩ => ⟨I2.kIn, ?_⟩) hpl
  rw [hks]
  exact runG_kw F gd hr hb (passes_call tk fun _ _ _ _ h => h) I2 .nil rz l1 l2 q2
abbrev tMtK (A : Ad) (E : XK) (c : Nat) (mn : Str) (n nz : Nat) (pm : List Nat) (fo : Sl → Sto → Out D) (fs fz : Sl → Sto → Out (List D)) (g : List D → Sto → Out D) : TE :=
  tE A E fun σ S => (fo σ S).bind fun x S => match x with
    | .loc a => match S[a]? with
      | some (.ins c' fs') => if c' = c ∧ fs'.lookup mn = none then (fs σ S).bind fun ds S => (fz σ S).bind fun zs S => if ds.length + 1 = n ∧ zs.length = nz then g (pmL pm (x :: ds ++ zs)) S else .bad else .bad
      | _ => .bad
    | _ => .bad
theorem mtK_in {c : Nat} (har : ∀ ds S, ds.length ≠ ps.length → g ds S = .bad) {t tk : TA} (ht : ∀ σ H Q, tAs A E fs σ H Q → t σ H Q) (htk : ∀ σ H Q, tAs A E fz σ H Q → tk σ H Q) :
    ∀ σ H Q, tMtK A E c mn n ks.length pm fo fs fz g σ H Q → tE A E fo σ H fun x H1 => ∃ a dx ws, x = .ref a ∧ H1 a = some (.ins (A.cl c) dx ws) ∧ ws.lookup mn = none ∧ t σ H1 fun vs H2 => tk σ H2 fun zs H3 => (V.ref a :: vs).length = n ∧ zs.length = ks.length ∧ spC A ps.length g (pmL pm ((V.ref a :: vs) ++ zs)) H3 Q E :=
  fun σ H Q ⟨m, S, σD, R, Rs, p⟩ => ⟨m, S, σD, R, Rs, p.seq.mono fun x H1 ⟨m1, S1, dx, e1, R1, rx, p1⟩ => by
    cases rx with
    | @loc i a e =>
      dsimp only at p1
      split at p1
      · rename_i c' fs' hx
        split at p1
        · rename_i hc
          obtain ⟨rfl, hc2⟩ := hc
          obtain ⟨a1, dx, ws, m1', g1, l1⟩ := R1.ins hx
          rw [e] at m1'; cases m1'
          refine ⟨_, dx, ws, rfl, g1, ?_, ht σ H1 _ ⟨m1, S1, σD, R1, Rs.mono e1, p1.seq.mono fun vs H2 ⟨m2, S2, ds, e2, R2, rl, p2⟩ => htk σ H2 _ ⟨m2, S2, σD, R2, (Rs.mono e1).mono e2, p2.seq.mono fun zs H3 ⟨m3, S3, dz, e3, R3, rz, p3⟩ => ?_⟩⟩⟩
          · rcases l1.lookup (f := mn) with ⟨d', v, h1, h2, h3⟩ | ⟨_, h2⟩
            · rw [hc2] at h1; cases h1
            · exact h2
          · split at p3
            · rename_i cc
              refine ⟨by rw [List.length_cons, rl.length]; exact cc.1, by rw [rz.length]; exact cc.2, m3, S3, _, R3, pmL_rel pm (repL_app (.cons (.loc ((e2.trans e3).loc _ _ e)) (rl.mono e3)) rz), ?_, p3⟩
              by_cases c : (pmL pm (D.loc i :: ds ++ dz)).length = ps.length
              · exact c
              · rw [har _ S3 c] at p3; exact p3.elim
            · exact p3.elim
        · exact p1.elim
      · exact p1.elim
    | _ => exact (show False from p1).elim⟩
theorem s_methK {c : Nat} {pl : Sem Bool} (he0 : PE X o (tE A E fo)) (cl : Cls X.K (A.cl c)) (hme : Meth X.K (A.cl c) mn f) (gd : X.A.guards = some []) (F : FnG X.prog X.w X.K X.mg X.base (L2.CX X.prog X.w) k f fd ps (spC A ps.length g)) (hr : Room k X.A) (hb : KB X.K fd ps n ks pm)
    (tk : Takes X (fun cls d _ H => E cls d H)) (har : ∀ ds S, ds.length ≠ ps.length → g ds S = .bad) (ha : PA X (e :: es) (tAs A E fs)) (hz : PK X kws (tAs A E fz))
    (hall : (backToKw pos (keywordEach kws X.env)).all (·.1.isSome) = true) (hks : (backToKw pos (keywordEach kws X.env)).filterMap (·.1) = ks)
    (he : starEach (e :: es) X.env = (false, eval e X.env) :: starEach es X.env) (hpl : ((backTo pos (starEach (e :: es) X.env)).any (·.1) || (backToKw pos (keywordEach kws X.env)).any (·.1.isNone)) = false)
    (ht : eval (.Call (.Attribute o mn apos) (e :: es) kws pos) X.env = (do
      let ov ← eval o X.env
      standAt apos.atName
      let (f, first) ← holding [ov] (getMethod ov mn pl)
      callWith pos f first (backTo pos (starEach (e :: es) X.env)) (backToKw pos (keywordEach kws X.env)))) :
    PE X (.Call (.Attribute o mn apos) (e :: es) kws pos) (tMtK A E c mn n ks.length pm fo fs fz g) := by
  refine ⟨fun pins s σ H Q I h => ?_⟩
  have h2 := mtK_in (ks := ks) har (fun _ _ _ h => h) (fun _ _ _ h => h) σ H Q h
  refine PySem.W.methodCall_KW (pl := pl) (thn (he0.run pins s σ H _ I h2) fun u s1 ⟨x, H1, I1, rx, a, dx, fs, ex, ea, l, q⟩ => ?_) ht
  subst ex
  obtain rfl : u = Value.ref a := rx
  refine getmeth_ok I1 ea cl hme l ?_
  refine PySem.W.callWith_KW (first := [.ref a]) (h₀ := X.base) I.ok.mod.kin hme.kp hall (thn (ha.run pos pins s1 σ H1 _ I1 q) fun us s2 ⟨vs, H2, I2, r, q2⟩ => ?_) hpl he
  refine thn (hz.run pos pins s2 σ H2 _ I2 q2) fun ws s3 ⟨zs, H3, I3, rz, l1, l2, q3⟩ => ⟨I3.kIn, ?_⟩
  rw [hks]
  exact runG_kw (ys := .ref a :: us) (xs := .ref a :: vs) F gd hr hb (passes_call tk fun _ _ _ _ h => h) I3 (.cons rfl r) rz l1 l2 q3
theorem s_methK0 {c : Nat} {pl : Sem Bool} (he0 : PE X o (tE A E fo)) (cl : Cls X.K (A.cl c)) (hme : Meth X.K (A.cl c) mn f) (gd : X.A.guards = some []) (F : FnG X.prog X.w X.K X.mg X.base (L2.CX X.prog X.w) k f fd ps (spC A ps.length g)) (hr : Room k X.A) (hb : KB X.K fd ps n ks pm)
    (tk : Takes X (fun cls d _ H => E cls d H)) (har : ∀ ds S, ds.length ≠ ps.length → g ds S = .bad) (hz : PK X kws (tAs A E fz))
    (hall : (backToKw pos (keywordEach kws X.env)).all (·.1.isSome) = true) (hks : (backToKw pos (keywordEach kws X.env)).filterMap (·.1) = ks)
    (hpl : ((backTo pos (starEach [] X.env)).any (·.1) || (backToKw pos (keywordEach kws X.env)).any (·.1.isNone)) = false)
    (ht : eval (.Call (.Attribute o mn apos) [] kws pos) X.env = (do
      let ov ← eval o X.env
      standAt apos.atName
      let (f, first) ← holding [ov] (getMethod ov mn pl)
      callWith pos f first (backTo pos (starEach [] X.env)) (backToKw pos (keywordEach kws X.env)))) :
    PE X (.Call (.Attribute o mn apos) [] kws pos) (tMtK A E c mn n ks.length pm fo (fun _ S => .ok [] S) fz g) := by
  refine ⟨fun pins s σ H Q I h => ?_⟩
  have h2 := mtK_in (t := tNil) (ks := ks) har (fun σ H Q ⟨m, S, σD, R, Rs, p⟩ => p.ok R .nil) (fun _ _ _ h => h) σ H Q h
  refine PySem.W.methodCall_KW (pl := pl) (thn (he0.run pins s σ H _ I h2) fun u s1 ⟨x, H1, I1, rx, a, dx, fs, ex, ea, l, q⟩ => ?_) ht
  subst ex
  obtain rfl : u = Value.ref a := rx
  refine getmeth_ok I1 ea cl hme l ?_
  refine PySem.W.callWith_KW0 (first := [.ref a]) I1.kIn hme.kp hall (thn (hz.run pos pins s1 σ H1 _ I1 q) fun ws s3 ⟨zs, H3, I3, rz, l1, l2, q3⟩ => ⟨I3.kIn, ?_⟩) hpl
  rw [hks]
  exact runG_kw (ys := [.ref a]) (xs := [.ref a]) F gd hr hb (passes_call tk fun _ _ _ _ h => h) I3 (.cons rfl .nil) rz l1 l2 q3
end
/-! ### list(range(a, b)) -/
theorem lrg_rep {A : Ad} {m : List Addr} {H : Hp} (i j : Int) : RepL A m H (lrgD i j) (rgV i j) := by
  unfold lrgD rgV
  generalize List.range (j - i).toNat = l
  induction l with
  | nil => exact .nil
  | cons n l ih => exact .cons (.int _) ih
theorem lrg_of {lo hi : Int} (h : lrgOk lo hi = true) : RgOk lo hi := by
  unfold lrgOk at h
  have := of_decide_eq_true h
  exact this
theorem s_lrg {X : Cx} {A : Ad} {E : XK} {a b : Expr} {fa fb : Sl → Sto → Out D} {p p2 pos pos2 : Pos} (hc : X.calm = true) (hgl : Gl X "list") (hml : X.mg "list" = none) (hg : Gl X "range") (hm : X.mg "range" = none) (ha : PE X a (tE A E fa)) (hb : PE X b (tE A E fb))
    (hs : starEach [a, b] X.env = (false, eval a X.env) :: starEach [b] X.env) (hs2 : starEach [b] X.env = (false, eval b X.env) :: starEach [] X.env) (hs3 : starEach [Expr.Call (.Name "range" p) [a, b] [] pos] X.env = (false, eval (.Call (.Name "range" p) [a, b] [] pos) X.env) :: starEach [] X.env) :
    PE X (.Call (.Name "list" p2) [.Call (.Name "range" p) [a, b] [] pos] [] pos2) (tE A E fun σ S => (fa σ S).bind fun x S => (fb σ S).bind fun y S => match x, y with
      | .int i, .int j => if lrgOk i j = true then .ok (.loc S.length) (S ++ [.lst (lrgD i j)]) else .bad
      | _, _ => .bad) :=
  PEi (pe_listRg hc hgl hml (prg_2 hg hm ha hb hs hs2 (by rw [hs2]; rfl)) hs3) fun σ H Q ⟨m, S, σD, R, Rs, p⟩ => ⟨m, S, σD, R, Rs, p.seq.mono fun x H1 ⟨m1, S1, dx, e1, R1, rx, p1⟩ => ⟨m1, S1, σD, R1, Rs.mono e1, p1.seq.mono fun y H2 ⟨m2, S2, dy, e2, R2, ry, p2⟩ => by
    cases rx with
    | int i =>
      cases ry with
      | int j =>
        dsimp only at p2
        split at p2
        · rename_i hr
          refine ⟨i, j, rfl, rfl, lrg_of hr, fun q hq => ?_⟩
          obtain ⟨Rn, en, rn⟩ := newLst R2 (lrg_rep i j) hq
          exact p2 _ _ _ en Rn rn
        · exact p2.elim
      | _ => exact (show False from p2).elim
    | _ => exact (show False from p2).elim⟩⟩
end DI

set_option Elab.async false
set_option linter.all false
set_option maxRecDepth 100000
set_option maxHeartbeats 4000000
/-! More expressions: dict displays, get and pop, lists turned round, join, calls of held defs. -/
namespace DI
open L2 PySem PySem.Spec PyProof.Rows
section
variable {X : Cx} {A : Ad} {E : XK} {e o : Expr} {es : List Expr} {fo fa fb : Sl → Sto → Out D} {fs : Sl → Sto → Out (List D)} {p pos apos : Pos} {x : Str}
theorem s_rev (hK : A.K = X.K) {k : Nat} {p1 p2 p3 : Pos} (h : PE X e (tE A E fo)) : PE X (.Subscript e (.Slice none none (some (.UnaryOp .USub (.Constant (.int 1) k p1) p2)) p3) pos)
    (tE A E fun σ S => (fo σ S).bind fun x S => match listD x S with
      | some xs => .ok (.loc S.length) (S ++ [.lst xs.reverse])
      | none => .bad) :=
  PEi (pe_revL h) fun σ H Q ⟨m, S, σD, R, Rs, p⟩ => ⟨m, S, σD, R, Rs, p.seq.mono fun v H1 ⟨m1, S1, d, e1, R1, r1, p1⟩ => by
    cases hd : listD d S1 with
    | none => rw [hd] at p1; exact p1.elim
    | some xs =>
      rw [hd] at p1
      obtain ⟨a, vs, rfl, hs, l⟩ := list_of R1 r1 hd
      refine ⟨a, vs, rfl, hK ▸ hs, fun q hq => ?_⟩
      obtain ⟨Rn, en, rn⟩ := newLst R1 l.rev hq
      exact p1 _ _ _ en Rn rn⟩
theorem s_calV {k : Nat} {C : Nat → List D → Sto → Out D} {js : List Nat} {i : Nat} (gd : X.A.guards = some []) (hr : Room k X.A) (hN : X.N[i]? = some x) (hv : Vis X.env.scope x)
    (fns : ∀ j ∈ js, PySem.W.keepIn X.K (.ref (A.fn j)) = true ∧ ∃ fd ps, FnG X.prog X.w X.K X.mg X.base (L2.CX X.prog X.w) k (A.fn j) fd ps (spC A ps.length (C j)) ∧ Binds X.K fd ps [] ∧ (∀ ds S, ds.length ≠ ps.length → C j ds S = .bad))
    (tk : Takes X (fun cls d _ H => E cls d H)) (ha : PA X (e :: es) (tAs A E fs)) (hdb : (x == ("__debug__" : Str)) = false) (hcd : (x == ("__classdict__" : Str)) = false)
    (he : starEach (e :: es) X.env = (false, eval e X.env) :: starEach es X.env) (hpl : (backTo pos (starEach es X.env)).any (·.1) = false) :
    PE X (.Call (.Name x p) (e :: es) [] pos) (tE A E fun σ S => match σ[i]? with
      | some (some (.fn j)) => if j ∈ js then (fs σ S).bind fun ds S => C j ds S else .bad
      | _ => .bad) := by
  refine ⟨fun pz t τ HH Q J h => ?_⟩
  obtain ⟨m, S, σD, R, Rs, pp⟩ := h
  dsimp only at pp
  split at pp
  · rename_i j hj
    split at pp
    · rename_i hm
      obtain ⟨hk, fd, ps, F, hb, har⟩ := fns j hm
      obtain ⟨v, hv1, hv2⟩ := Rs.2 i _ hj
      cases hv2
      refine wpAny_Call_Name_kw (thn ((pe_var (pos := p) hN hv hdb hcd).run pz t τ HH (fun v H1 => v = .ref (A.fn j) ∧ H1 = HH) J ⟨_, hv1, rfl, rfl⟩) fun u t1 ⟨v, H1, J1, r1, q1⟩ => ?_)
      obtain ⟨rfl, rfl⟩ := q1
      cases r1
      have hc := cal_in (E := E) (fs := fs) har (t := tAs A E fs) (fun _ _ _ h => h) τ H1 Q ⟨m, S, σD, R, Rs, pp⟩
      refine PySem.W.callWith_K (h₀ := X.base) J.ok.mod.kin hk (thn (ha.run pos pz t1 τ _ _ J1 hc) fun us t2 ⟨vs, H2, J2, r, q⟩ => ⟨J2.kIn, ?_⟩) he hpl
      exact runG F gd hr hb (passes_call tk fun _ _ _ _ h => h) J2 r (List.append_nil vs ▸ q)
    · exact pp.elim
  · exact pp.elim
theorem isD_of {m : List Addr} {S : Sto} {H : Hp} (R : Rep A m S H) {i : Nat} {a : Addr} {c : Cell} (hc : S[i]? = some c) (hm : m[i]? = some a) (hd : isDk c = true) : IsD H a := by
  obtain ⟨a1, m1, rc⟩ := R.cell _ _ hc
  rw [hm] at m1; cases m1
  cases rc with
  | dk g _ => exact .inl ⟨_, .inl g⟩
  | fk g _ => exact .inl ⟨_, .inr ⟨_, g⟩⟩
  | _ => cases hd
theorem s_dget1 (hu : X.A.units + 1 < cLine) (ho : PE X o (tE A E fo)) (he : PE X e (tE A E fa)) (m1 : M1 X o "get" apos e pos) : PE X (.Call (.Attribute o "get" apos) [e] [] pos)
    (tE A E fun σ S => (fo σ S).bind fun x S => match x with
      | .loc a => match S[a]? with
        | some c => if isDk c = true then (fa σ S).bind fun y S => match S[a]? with
            | some c => .at S ((dictAt c y).map fun o => o.getD .non)
            | none => .bad
          else .bad
        | none => .bad
      | _ => .bad) :=
  PEi (pe_dget1 hu ho he m1) fun σ H Q ⟨m, S, σD, R, Rs, p⟩ => ⟨m, S, σD, R, Rs, p.seq.mono fun v H1 ⟨m1, S1, d, e1, R1, r1, p1⟩ => by
    cases r1 with
    | @loc i a hm =>
      dsimp only at p1
      split at p1
      · rename_i c hc
        split at p1
        · rename_i hd
          refine ⟨a, rfl, isD_of R1 hc hm hd, m1, S1, σD, R1, Rs.mono e1, p1.seq.mono fun y H2 ⟨m2, S2, dy, e2, R2, r2, p2⟩ => ?_⟩
          split at p2
          · rename_i c2 hc2
            cases hk : dictAt c2 dy with
            | none => rw [hk] at p2; exact p2.elim
            | some o =>
              rw [hk] at p2
              obtain ⟨w, g, hw⟩ := dget_of R2 hc2 (e2.loc _ _ hm) hk r2
              refine ⟨w, g, p2.ok R2 ?_⟩
              rcases hw with ⟨d', z, rfl, rfl, rz⟩ | ⟨rfl, rfl⟩
              · exact rz
              · exact .non
          · exact p2.elim
        · exact p1.elim
      · exact p1.elim
    | _ => exact (show False from p1).elim⟩
theorem s_dget2 (hu : X.A.units + 1 < cLine) {f : Expr} (ho : PE X o (tE A E fo)) (he : PE X e (tE A E fa)) (hf : PE X f (tE A E fb)) (m1 : M2 X o "get" apos e f pos) : PE X (.Call (.Attribute o "get" apos) [e, f] [] pos)
    (tE A E fun σ S => (fo σ S).bind fun x S => match x with
      | .loc a => match S[a]? with
        | some c => if isDk c = true then (fa σ S).bind fun y S => (fb σ S).bind fun z S => match S[a]? with
            | some c => .at S ((dictAt c y).map fun o => o.getD z)
            | none => .bad
          else .bad
        | none => .bad
      | _ => .bad) :=
  PEi (pe_dget2 hu ho he hf m1) fun σ H Q ⟨m, S, σD, R, Rs, p⟩ => ⟨m, S, σD, R, Rs, p.seq.mono fun v H1 ⟨m1, S1, d, e1, R1, r1, p1⟩ => by
    cases r1 with
    | @loc i a hm =>
      dsimp only at p1
      split at p1
      · rename_i c hc
        split at p1
        · rename_i hd
          refine ⟨a, rfl, isD_of R1 hc hm hd, m1, S1, σD, R1, Rs.mono e1, p1.seq.mono fun y H2 ⟨m2, S2, dy, e2, R2, r2, p2⟩ => ⟨m2, S2, σD, R2, (Rs.mono e1).mono e2, p2.seq.mono fun z H3 ⟨m3, S3, dz, e3, R3, r3, p3⟩ => ?_⟩⟩
          split at p3
          · rename_i c2 hc2
            cases hk : dictAt c2 dy with
            | none => rw [hk] at p3; exact p3.elim
            | some o =>
              rw [hk] at p3
              obtain ⟨w, g, hw⟩ := dget_of R3 hc2 ((e2.trans e3).loc _ _ hm) hk (r2.mono e3)
              refine ⟨w, g, p3.ok R3 ?_⟩
              rcases hw with ⟨d', z', rfl, rfl, rz⟩ | ⟨rfl, rfl⟩
              · exact rz
              · exact r3
          · exact p3.elim
        · exact p1.elim
      · exact p1.elim
    | _ => exact (show False from p1).elim⟩
theorem RepK.drop {κ : Type} [DecidableEq κ] {m : List Addr} {H : Hp} {k : κ} : ∀ {kvs : List (κ × D)} {ws : List (κ × V)}, RepK A m H kvs ws → RepK A m H (dropD kvs k) (dropK ws k)
  | _, _, .nil => .nil
  | p :: kvs, q :: ws, .cons a b => by
    have ih := RepK.drop (k := k) b
    unfold dropD dropK at ih ⊢
    by_cases c : p.1 = k
    · rw [List.filter_cons_of_neg (by simpa using c), List.filter_cons_of_neg (by simpa using (a.1 ▸ c))]
      exact ih
    · rw [List.filter_cons_of_pos (by simpa using c), List.filter_cons_of_pos (by simpa using (fun z => c (a.1.trans z)))]
      exact .cons a ih
theorem s_dpop2 {f : Expr} (ho : PE X o (tE A E fo)) (he : PE X e (tE A E fa)) (hf : PE X f (tE A E fb)) (m1 : M2 X o "pop" apos e f pos) : PE X (.Call (.Attribute o "pop" apos) [e, f] [] pos)
    (tE A E fun σ S => (fo σ S).bind fun x S => match x with
      | .loc a => match S[a]? with
        | some c => if isDk c = true then (fa σ S).bind fun y S => (fb σ S).bind fun z S => match S[a]?, keyD y with
            | some (.dk kvs), some key => match lookK kvs key with
              | some v => .ok v (S.set a (.dk (dropD kvs key)))
              | none => .ok z S
            | _, _ => .bad
          else .bad
        | none => .bad
      | _ => .bad) :=
  PEi (pe_dpop2 ho he hf m1) fun σ H Q ⟨m, S, σD, R, Rs, p⟩ => ⟨m, S, σD, R, Rs, p.seq.mono fun v H1 ⟨m1, S1, d, e1, R1, r1, p1⟩ => by
    cases r1 with
    | @loc i a hm =>
      dsimp only at p1
      split at p1
      · rename_i c hc
        split at p1
        · rename_i hd
          refine ⟨a, rfl, isD_of R1 hc hm hd, m1, S1, σD, R1, Rs.mono e1, p1.seq.mono fun y H2 ⟨m2, S2, dy, e2, R2, r2, p2⟩ => ⟨m2, S2, σD, R2, (Rs.mono e1).mono e2, p2.seq.mono fun z H3 ⟨m3, S3, dz, e3, R3, r3, p3⟩ => ?_⟩⟩
          have hm3 := (e2.trans e3).loc _ _ hm
          split at p3
          · rename_i kvs key hx hkey
            obtain ⟨a1, ws, ma, g1, l1⟩ := R3.dk hx
            rw [hm3] at ma; cases ma
            refine ⟨ws, key, g1, kV_of hkey (r2.mono e3), fun v hv => ?_, fun hv => ?_⟩
            · rcases l1.look (k := key) with ⟨d', v', h1, h2, h3⟩ | ⟨h1, h2⟩
              · rw [h1] at p3
                rw [hv] at h2; cases h2
                have ew : Ext A m3 H3 m3 (upd H3 a (.dK (dropK ws key))) := Ext.write g1 (fun _ z => nomatch z) (fun _ _ z => nomatch z)
                exact p3 m3 _ v ew (R3.write hm3 ew (.dk upd_same (RepK.mono ew l1.drop))) (h3.mono ew)
              · rw [hv] at h2; cases h2
            · rcases l1.look (k := key) with ⟨d', v', h1, h2, h3⟩ | ⟨h1, h2⟩
              · rw [hv] at h2; cases h2
              · rw [h1] at p3
                exact p3.ok R3 r3
          · exact p3.elim
        · exact p1.elim
      · exact p1.elim
    | _ => exact (show False from p1).elim⟩
theorem strs_of {m : List Addr} {H : Hp} : ∀ {ds : List D} {vs : List V} {ys : List Str}, strsD ds = some ys → RepL A m H ds vs → vs = ys.map V.str
  | [], _, _, h, .nil => by cases h; rfl
  | .str z :: ds, _, _, h, .cons (.str _) b => by
    simp only [strsD, Option.map_eq_some_iff] at h
    obtain ⟨ys, h1, rfl⟩ := h
    rw [List.map_cons, strs_of h1 b]
theorem s_join (hK : A.K = X.K) (ho : PE X o (tE A E fo)) (he : PE X e (tE A E fa)) (hs : starEach [e] X.env = [(false, eval e X.env)]) (hbase : attributeBase o "join" X.env (eval o X.env) = eval o X.env) (hline : (apos.endLine == pos.line) = true) :
    PE X (.Call (.Attribute o "join" apos) [e] [] pos) (tE A E fun σ S => (fo σ S).bind fun x S => match x with
      | .str z => (fa σ S).bind fun y S => match (seqD y S).bind strsD with
        | some ys => if (ys.map (·.length)).sum + ys.length * z.length ≤ 16777216 then .ok (.str (Txt.join z ys)) S else .bad
        | none => .bad
      | _ => .bad) :=
  PEi (pe_join ho he hs hbase hline) fun σ H Q ⟨m, S, σD, R, Rs, p⟩ => ⟨m, S, σD, R, Rs, p.seq.mono fun v H1 ⟨m1, S1, d, e1, R1, r1, p1⟩ => by
    cases r1 with
    | str z =>
      refine ⟨⟨z, rfl⟩, m1, S1, σD, R1, Rs.mono e1, p1.seq.mono fun y H2 ⟨m2, S2, dy, e2, R2, r2, p2⟩ => ?_⟩
      split at p2
      · rename_i ys hy
        obtain ⟨ds, h1, h2⟩ := Option.bind_eq_some_iff.mp hy
        obtain ⟨a, vs, rfl, hsq, l⟩ := seq_of R2 r2 h1
        have hvs := strs_of h2 l
        subst hvs
        split at p2
        · rename_i hz
          exact ⟨z, a, ys, rfl, rfl, hK ▸ hsq, hz, p2.ok R2 (.str _)⟩
        · exact p2.elim
      · exact p2.elim
    | _ => exact (show False from p1).elim⟩
/-! ### dict displays -/
theorem RepK.merge {m : List Addr} {H : Hp} : ∀ {more : List (Key × D)} {rs : List (Key × V)} {kvs : List (Key × D)} {ws : List (Key × V)}, RepK A m H more rs → RepK A m H kvs ws → RepK A m H (mergeD kvs more) (mergeK ws rs)
  | _, _, _, _, .nil, q => q
  | p :: more, r :: rs, kvs, ws, .cons a b, q => by
    show RepK A m H (mergeD (putD kvs p.1 p.2) more) (mergeK (putK ws r.1 r.2) rs)
    rw [← a.1]
    exact RepK.merge b (q.put a.2)
theorem RepK.zips {m : List Addr} {H : Hp} : ∀ {ks : List Str} {ds : List D} {vs : List V}, RepL A m H ds vs → RepK A m H ((ks.map (Sum.inr : Str → Key)).zip ds) ((ks.map (Sum.inr : Str → Key)).zip vs)
  | [], _, _, _ => .nil
  | _ :: _, _, _, .nil => .nil
  | k :: ks, _, _, .cons a b => .cons ⟨rfl, a⟩ (RepK.zips b)
theorem zip_kV : ∀ (ks : List Str) (vs : List V), (ks.map V.str).zip vs = ((ks.map (Sum.inr : Str → Key)).zip vs).map fun kv => (kV kv.1, kv.2)
  | [], _ => rfl
  | _ :: _, [] => rfl
  | k :: ks, v :: vs => by
    rw [List.map_cons, List.map_cons, List.zip_cons_cons, List.zip_cons_cons, List.map_cons, zip_kV ks vs]
    rfl
/-- a display's pairs, by the list of its values -/
def PDs (X : Cx) (A : Ad) (E : XK) (pos : Pos) (ks : List Str) (keys : List (Option Expr)) (es : List Expr) (f : Sl → Sto → Out (List D)) : Prop :=
  ∃ trs, PPs X pos keys es trs ∧ ∀ σ H Q, tAs A E f σ H (fun vs H' => Q ((ks.map V.str).zip vs) H') → tPairs trs σ H Q
theorem pds_nil : PDs X A E pos [] [] [] (fun _ S => .ok [] S) := ⟨[], pps_nil, fun σ H Q ⟨m, S, σD, R, Rs, p⟩ => p.ok (b := []) R .nil⟩
theorem pds_cons {k : Str} {ks : List Str} {j : Nat} {p2 : Pos} {keys : List (Option Expr)} (he : PE X e (tE A E fa)) (h : PDs X A E pos ks keys es fs) :
    PDs X A E pos (k :: ks) (some (.Constant (.str k) j p2) :: keys) (e :: es) (fun σ S => (fa σ S).bind fun d S => (fs σ S).bind fun ds S => .ok (d :: ds) S) := by
  obtain ⟨trs, h1, h2⟩ := h
  refine ⟨(tC (.str k), tE A E fa) :: trs, pps_cons pe_str he h1, fun σ H Q ⟨m, S, σD, R, Rs, p⟩ => ?_⟩
  show tE A E fa σ H fun y H2 => tPairs trs σ H2 fun ps H3 => Q ((.str k, y) :: ps) H3
  exact ⟨m, S, σD, R, Rs, p.seq.mono fun y H1 ⟨m1, S1, d, e1, R1, r1, p1⟩ => h2 _ _ _ ⟨m1, S1, σD, R1, Rs.mono e1, p1.seq.mono fun vs H2 ⟨m2, S2, ds, e2, R2, rl, p2⟩ => p2.ok (b := y :: vs) R2 (.cons (r1.mono e2) rl)⟩⟩
theorem s_dctK {ks : List Str} {keys : List (Option Expr)} (h : PDs X A E pos ks keys es fs) (hall : keys.all (·.isSome) = true) (hl : keys.length = es.length) (h0 : keys ≠ []) (h15 : keys.length ≤ 15) :
    PE X (.Dict keys es pos) (tE A E fun σ S => (fs σ (S ++ [.dk []])).bind fun ds S2 => match S2[S.length]? with
      | some (.dk []) => if ds.length = ks.length ∧ ks.length ≤ 15 then .ok (.loc S.length) (S2.set S.length (.dk (mergeD [] ((ks.map Sum.inr).zip ds)))) else .bad
      | _ => .bad) := by
  obtain ⟨trs, h1, h2⟩ := h
  refine PEi (pe_disp h1 hall hl h0 h15) fun σ H Q ⟨m, S, σD, R, Rs, p⟩ => fun q hq => ?_
  obtain ⟨Rn, en, rn⟩ := newDk (kvs := []) (ws := []) R .nil hq
  refine h2 σ _ _ ⟨_, _, σD, Rn, Rs.mono en, (p.base en).seq.mono fun vs H2 ⟨m2, S2, ds, e2, R2, rl, p2⟩ => ?_⟩
  split at p2
  · rename_i hx
    split at p2
    · rename_i hz
      obtain ⟨a1, ws, ma, g1, l1⟩ := R2.dk hx
      cases l1
      cases rn with
      | loc hm =>
      have hm2 := e2.loc _ _ hm
      rw [hm2] at ma; cases ma
      refine ⟨g1, (ks.map Sum.inr).zip vs, zip_kV ks vs, ?_, ?_⟩
      · rw [List.length_zip, List.length_map]; omega
      · have ew : Ext A m2 H2 m2 (upd H2 q (.dK (mergeK [] ((ks.map Sum.inr).zip vs)))) := Ext.write g1 (fun _ z => nomatch z) (fun _ _ z => nomatch z)
        exact p2 m2 _ _ ew (R2.write hm2 ew (.dk upd_same (RepK.mono ew (RepK.merge (RepK.zips rl) .nil)))) (.loc hm2)
    · exact p2.elim
  · exact p2.elim
theorem s_dct1 {ke : Expr} {fk : Sl → Sto → Out D} (hk : PE X ke (tE A E fk)) (he : PE X e (tE A E fa)) :
    PE X (.Dict [some ke] [e] pos) (tE A E fun σ S => (fk σ (S ++ [.dk []])).bind fun x S1 => (fa σ S1).bind fun y S2 => match S2[S.length]?, keyD x with
      | some (.dk []), some key => .ok (.loc S.length) (S2.set S.length (.dk [(key, y)]))
      | _, _ => .bad) := by
  refine PEi (pe_disp (pps_cons hk he pps_nil) rfl rfl (by simp) (by show 1 ≤ 15; omega)) fun σ H Q ⟨m, S, σD, R, Rs, p⟩ => fun q hq => ?_
  obtain ⟨Rn, en, rn⟩ := newDk (kvs := []) (ws := []) R .nil hq
  show tE A E fk σ _ fun x H1 => tE A E fa σ H1 fun y H2 => _
  refine ⟨_, _, σD, Rn, Rs.mono en, (p.base en).seq.mono fun x H1 ⟨m1, S1, dx, e1, R1, r1, p1⟩ => ⟨m1, S1, σD, R1, (Rs.mono en).mono e1, p1.seq.mono fun y H2 ⟨m2, S2, dy, e2, R2, r2, p2⟩ => ?_⟩⟩
  split at p2
  · rename_i key hx hkey
    obtain ⟨a1, ws, ma, g1, l1⟩ := R2.dk hx
    cases l1
    cases rn with
    | loc hm =>
    have hm2 := e2.loc _ _ (e1.loc _ _ hm)
    rw [hm2] at ma; cases ma
    have hxk : x = kV key := kV_of hkey r1
    subst hxk
    refine ⟨g1, [(key, y)], rfl, by show 1 ≤ 15; omega, ?_⟩
    have ew : Ext A m2 H2 m2 (upd H2 q (.dK (mergeK [] [(key, y)]))) := Ext.write g1 (fun _ z => nomatch z) (fun _ _ z => nomatch z)
    exact p2 m2 _ _ ew (R2.write hm2 ew (.dk upd_same (RepK.mono ew (.cons ⟨rfl, r2⟩ .nil)))) (.loc hm2)
  · exact p2.elim
end
end DI

set_option Elab.async false
set_option linter.all false
set_option maxRecDepth 100000
set_option maxHeartbeats 4000000
/-! Own exceptions that keep one value: raised, and told by an except suite. -/
namespace DI
open L2 PySem PySem.Spec PyProof.Rows
/-- what the written part says of such a class C over BC, whose __init__ stands at fI and whose value is named f -/
def xinB (K : PySem.W.Frag) (C BC fI : Addr) (f : Str) : Bool :=
  (match K.lookup C with
    | some ⟨.type t, _, .cls cd, sl⟩ => decide (t = "type") && (match cd.mro, sl.toList with
      | .ref C' :: bm, [_, _, _, _, some (.builtin n), _] => C' == C && (n == "ValueError.__new__" && (!cd.hasDel && (cd.hasDict && HandSPX.refsVE bm)))
      | _, _ => false)
    | _ => false) &&
  (decide (PySem.W.findIn K (.ref C) "__setattr__" = some (some (.builtin "object.__setattr__"))) &&
  (decide (PySem.W.subIn K (.ref C) (.type "BaseException") = some true) &&
  (decide (PySem.W.typeIn K (.ref C) = some (.type "type")) &&
  (PySem.W.keepIn K (.ref C) &&
  (decide (PySem.W.findIn K (.ref C) "__init__" = some (some (.ref fI))) &&
  (decide (PySem.W.typeIn K (.ref fI) = some (.type "function")) &&
  (xfB K C &&
  (decide (PySem.W.findIn K (.ref C) f = some none) &&
  (decide (PySem.W.exmOne K (.ref C) (.ref C) = some true) &&
  (PySem.W.readsIn K BC (.type "type") &&
  (decide (PySem.W.specialIn K (.ref BC) "__getattribute__" = some (some (.builtin "type.__getattribute__"))) &&
  (match PySem.W.findCls K (.ref BC) (.type "type") "__init__" with
    | some (.val (.builtin n)) => n == "ValueError.__init__"
    | _ => false))))))))))))
structure Xin (K : PySem.W.Frag) (C BC fI : Addr) (f : Str) : Prop where
  oex : OexC K C
  ini : PySem.W.findIn K (.ref C) "__init__" = some (some (.ref fI))
  tI : PySem.W.typeIn K (.ref fI) = some (.type "function")
  xf : XfC K C
  no : PySem.W.findIn K (.ref C) f = some none
  exm : PySem.W.exmOne K (.ref C) (.ref C) = some true
  rd : PySem.W.readsIn K BC (.type "type") = true
  ga : PySem.W.specialIn K (.ref BC) "__getattribute__" = some (some (.builtin "type.__getattribute__"))
  vi : PySem.W.findCls K (.ref BC) (.type "type") "__init__" = some (.val (.builtin "ValueError.__init__"))
theorem xinB_ok {K : PySem.W.Frag} {C BC fI : Addr} {f : Str} (h : xinB K C BC fI f = true) : Xin K C BC fI f := by
  unfold xinB at h
  simp only [Bool.and_eq_true, decide_eq_true_eq] at h
  obtain ⟨h1, h2, h3, h4, h5, h6, h7, h8, h9, h10, h11, h12, h13⟩ := h
  refine ⟨⟨?_, h2, h3, h4, h5⟩, h6, h7, xfB_ok h8, h9, h10, h11, h12, ?_⟩
  · split at h1
    · rename_i t dd cd sl hk
      obtain ⟨ht, h1⟩ := Bool.and_eq_true_iff.mp h1
      obtain rfl := of_decide_eq_true ht
      split at h1
      · rename_i C' bm k0 k1 k2 k3 n k5 hm hs
        simp only [Bool.and_eq_true, beq_iff_eq, Bool.not_eq_true'] at h1
        obtain ⟨_, rfl, rfl, hdel, hd, hr⟩ := h1
        obtain ⟨nm, bs, mro, ns, qn, hdc, sn, sub, ab, col, del⟩ := cd
        dsimp only at hm hdel hd
        subst hm hdel hd
        have hsl : sl = #[k0, k1, k2, k3, some (.builtin "ValueError.__new__"), k5] := by
          obtain ⟨l⟩ := sl
          simp only at hs
          rw [hs]
        subst hsl
        exact ⟨nm, qn, ns, bs, bm, sn, sub, ab, col, dd, k0, k1, k2, k3, k5, hk, hr⟩
      · cases h1
    · cases h1
  · split at h13
    · rename_i n hn
      rw [hn]
      obtain rfl := beq_iff_eq.mp h13
      rfl
    · cases h13
section
variable {X : Cx} {e : Expr} {es : List Expr} {ta : TA} {b : Str} {p1 p2 pos : Pos}
/-- B.__init__(self, ..) of an own base class -/
theorem pe_veinitC {BC : Addr} {pl : Sem Bool} (hg : Gl X b) (hm : X.mg b = some (.ref BC)) (rd : PySem.W.readsIn X.K BC (.type "type") = true) (ga : PySem.W.specialIn X.K (.ref BC) "__getattribute__" = some (some (.builtin "type.__getattribute__")))
    (vi : PySem.W.findCls X.K (.ref BC) (.type "type") "__init__" = some (.val (.builtin "ValueError.__init__"))) (ha : PA X (e :: es) ta) (hdb : (b == ("__debug__" : Str)) = false)
    (hc : eval (.Call (.Attribute (.Name b p1) "__init__" p2) (e :: es) [] pos) X.env = (do
      let ov ← eval (.Name b p1) X.env
      standAt p2.atName
      let (f, first) ← holding [ov] (getMethod ov "__init__" pl)
      callWith pos f first (backTo pos (starEach (e :: es) X.env)) (backToKw pos (keywordEach [] X.env))))
    (he : starEach (e :: es) X.env = (false, eval e X.env) :: starEach es X.env) (hpl : (backTo pos (starEach es X.env)).any (·.1) = false) :
    PE X (.Call (.Attribute (.Name b p1) "__init__" p2) (e :: es) [] pos) (tVeI X.K ta) := by
  refine ⟨fun pz t τ H Q J h => ?_⟩
  refine PySem.W.methodCall_KW (ld_glob J hg hm ?_ hdb) hc
  refine PySem.W.method_cls (J.ok.mod.kin.keeps J.bk) ga (PySem.W.cls_value (J.ok.mod.kin.keeps J.bk) rd vi (by decide +kernel) ?_)
  show wpAny _ _ (callWith pos (Value.builtin "ValueError.__init__") [] (backTo pos (starEach (e :: es) X.env)) []) _ _ _
  refine PyProof.Rows.callWith_method1 (thn (ha.run pos pz _ τ H _ (J.tok _) h) fun us t1 ⟨vs, H1, J1, r1, a, C, ws, ev, hl, T, ea, q⟩ => ?_) he hpl
  subst ev
  cases r1 with
  | @cons _ u0 _ ur ra rest =>
    obtain rfl : u0 = Value.ref a := ra
    have hlen : ur.length ≤ sizeLine := by
      rw [← rest.length, sizeLine_eq]
      omega
    exact oinit_ok T J1 ea hlen fun s' J' => ⟨.non, H1, J', rfl, q⟩
end
/-- what such an __init__ promises -/
def spIni (C : Addr) (f : Str) : Sp := fun vs H Q _ => ∃ a v, vs = [.ref a, v] ∧ H a = some (exo a C none) ∧ ∀ dx, H dx = none → dx ≠ a → Q .non (upd (upd H dx (exd dx [(f, v)])) a (exo a C (some dx)))
end DI

set_option Elab.async false
set_option linter.all false
set_option maxRecDepth 100000
set_option maxHeartbeats 4000000
/-! When a text of the model is one of the language, and that it does then what the language says: expressions. -/
namespace DI
open L2 PySem PySem.Spec PyProof.Rows

/-- the program's names -/
structure PN where
  nfn : Nat
  fnl : List (Nat × Str)
  cls : List Nat
  cll : List (Nat × Str)
  mts : List (Nat × Str × Nat)
  inis : List (Nat × Nat)
  flds : List (Nat × Str)
  free : List Str
  xcs : List (Nat × Str)
  kbs : List (Nat × Nat × List Str × List Nat) := []
  xns : List (Nat × Str × Str) := []
structure CC where
  N : List Str
  sc : Scope
  fn : Str → Bool
  pn : PN
  stm : Bool := true
/-- what the head says of the program's names -/
structure Facts (A : Ad) (P : Pg) (pn : PN) (K : PySem.W.Frag) (mg : Str → Option Value) : Prop where
  fn : ∀ p ∈ pn.fnl, mg p.2 = some (.ref (A.fn p.1)) ∧ PySem.W.keepIn K (.ref (A.fn p.1)) = true
  cls : ∀ c ∈ pn.cls, Cls K (A.cl c)
  cll : ∀ p ∈ pn.cll, mg p.2 = some (.ref (A.cl p.1))
  mt : ∀ p ∈ pn.mts, Meth K (A.cl p.1) p.2.1 (A.fn p.2.2)
  ini : ∀ p ∈ pn.inis, Mk K (A.cl p.1) (A.fn p.2)
  fld : ∀ p ∈ pn.flds, NoAttr K (A.cl p.1) p.2
  free : ∀ x ∈ pn.free, mg x = none
  xc : ∀ p ∈ pn.xcs, mg p.2 = some (.ref (A.cl p.1)) ∧ PySem.W.excIn K (A.cl p.1) [.type "ValueError", .type "Exception", .type "BaseException", .type "object"] "ValueError.__new__" = true ∧ PySem.W.keepIn K (.ref (A.cl p.1)) = true ∧ PySem.W.subIn K (.ref (A.cl p.1)) (.type "BaseException") = some true ∧ PySem.W.typeIn K (.ref (A.cl p.1)) = some (.type "type")
  dat : ∀ (x : Str) (d : D), P.glo x = some d → ∃ v u, mg x = some u ∧ RelV v u ∧ ∀ m H, RepD A m H d v
def vis (sc : Scope) (x : Str) : Bool := match sc.names.lookup x with | some .local => true | some .cell => true | some .free => true | _ => false
def lcl (cc : CC) (x : Str) : Bool := match cc.sc.names.lookup x with | some .local => true | some .cell => cc.fn x | _ => false
def glb (sc : Scope) (x : Str) : Bool := match sc.names.lookup x with | some .globalImplicit => true | _ => false
def okBase : Expr → Bool | .Call (.Attribute _ _ _) [] [] _ => true | .Call _ [] [] _ => false | _ => true
def notStar : Expr → Bool | .Starred _ _ => false | _ => true
def notSlice : Expr → Bool | .Slice _ _ _ _ => false | _ => true
def notSet : Expr → Bool | .Set _ _ _ => false | _ => true
def isBO : Expr → Bool | .BoolOp _ _ _ => true | _ => false
def CC.blk (cc : CC) (scope : Scope) : CC := { cc with sc := relS scope cc.sc, fn := (fun x => scope.names.lookup x == some .cell), stm := false }
def chkLit : Lit → Const → Bool
  | .non, .none => true
  | .bl b, .bool c => b == c
  | .int i, .int j => decide (i = j)
  | .str x, .str y => decide (x = y)
  | _, _ => false
def chkNm (cc : CC) (i : Nat) : Expr → Bool
  | .Name x _ => decide (cc.N[i]? = some x) && lcl cc x
  | _ => false
def chkNms (cc : CC) : List Nat → List Expr → Bool
  | [], [] => true
  | i :: is, e :: es => chkNm cc i e && chkNms cc is es
  | _, _ => false
def chkTg (cc : CC) : Tg → Expr → Bool
  | .nm i, e => chkNm cc i e
  | .tp is, .Tuple es _ _ => chkNms cc is es
  | _, _ => false
def noDbg (x : Str) : Bool := !(x == ("__debug__" : Str)) && !(x == ("__classdict__" : Str)) && !(x == ("__name__" : Str))
def isTup : Expr → Bool | .Tuple _ _ _ => true | _ => false
def call1 : Expr → Option (Str × Expr) | .Call (.Name x _) [e] [] _ => some (x, e) | _ => none
def call2 : Expr → Option (Str × Expr × Expr) | .Call (.Name x _) [e, e2] [] _ => some (x, e, e2) | _ => none
theorem call1_eq {e a : Expr} {x : Str} (h : call1 e = some (x, a)) : ∃ p pos, e = .Call (.Name x p) [a] [] pos := by
  unfold call1 at h
  split at h
  · cases h; exact ⟨_, _, rfl⟩
  · cases h
theorem call2_eq {e a b : Expr} {x : Str} (h : call2 e = some (x, a, b)) : ∃ p pos, e = .Call (.Name x p) [a, b] [] pos := by
  unfold call2 at h
  split at h
  · cases h; exact ⟨_, _, rfl⟩
  · cases h
def isM1 : Expr → Bool
  | .UnaryOp .USub (.Constant (.int i) _ _) _ => decide (i = 1)
  | _ => false
theorem isM1_eq {e : Expr} (h : isM1 e = true) : ∃ k p1 p2, e = .UnaryOp .USub (.Constant (.int 1) k p1) p2 := by
  unfold isM1 at h
  split at h
  · obtain rfl := of_decide_eq_true h
    exact ⟨_, _, _, rfl⟩
  · cases h
mutual
def chk (cc : CC) : Ex → Expr → Bool
  | .cst l, .Constant c _ _ => chkLit l c
  | .var i, .Name x _ => decide (cc.N[i]? = some x) && vis cc.sc x && noDbg x
  | .glo y, .Name x _ => decide (x = y) && glb cc.sc x && noDbg x
  | .bty n, .Name x _ => decide (x = n) && glb cc.sc x && noDbg x && decide (x ∈ cc.pn.free) && decide (bootBuiltins x = some (.type n))
  | .bin o a b, .BinOp l op r _ => decide (o = op) && chk cc a l && chk cc b r
  | .neg a, .UnaryOp .USub e _ => chk cc a e
  | .cmp o a b, .Compare l [op] [r] _ => decide (o = op) && chk cc a l && chk cc b r && !(behindInMarks op r)
  | .chn o o' a b c, .Compare l [op, op'] [r, r'] _ => decide (o = op) && decide (o' = op') && chk cc a l && chk cc b r && chk cc c r' && !(lastMarks [op, op'] [r, r'])
  | .and_ a b, .BoolOp .And (e :: es) pos => chk cc a e && (match es with | [e2] => chk cc b e2 | e2 :: e3 :: r => chk cc b (.BoolOp .And (e2 :: e3 :: r) pos) | [] => false)
  | .or_ a b, .BoolOp .Or (e :: es) pos => chk cc a e && (match es with | [e2] => chk cc b e2 | e2 :: e3 :: r => chk cc b (.BoolOp .Or (e2 :: e3 :: r) pos) | [] => false)
  | .not_ a, .UnaryOp .Not e _ => chk cc a e
  | .ite t a b, .IfExp c x y _ => chk cc t c && chk cc a x && chk cc b y
  | .fld c o f, .Attribute e f' _ => decide (f = f') && decide (c ∈ cc.pn.cls) && decide ((c, f) ∈ cc.pn.flds) && okBase e && chk cc o e
  | .ix o i, .Subscript e s _ => notSlice s && chk cc o e && chk cc i s
  | .sl o lo hi, .Subscript e (.Slice l h none _) _ => chk cc o e && chkO cc lo l && chkO cc hi h
  | .tup es, .Tuple l _ _ => chks cc es l
  | .lst es, .List l _ => chks cc es l
  | .dct0 _, .Dict [] [] _ => true
  | .cal j es, .Call (.Name x _) l [] _ => decide ((j, x) ∈ cc.pn.fnl) && decide (j < cc.pn.nfn) && glb cc.sc x && noDbg x && chks cc es l
  | .mk c j es, .Call (.Name x _) l [] _ => decide ((c, x) ∈ cc.pn.cll) && decide ((c, j) ∈ cc.pn.inis) && decide (j < cc.pn.nfn) && glb cc.sc x && noDbg x && chks cc es l
  | .mth c j o m es, .Call (.Attribute e m' apos) l [] pos => decide (m = m') && decide ((c, m, j) ∈ cc.pn.mts) && decide (c ∈ cc.pn.cls) && decide (j < cc.pn.nfn) && okBase e && (apos.endLine == pos.line) && decide (l.length < 30) && chk cc o e && chks cc es l
  | .bi b es, .Call (.Name x _) l [] _ => decide (x = b.name) && decide (x ∈ cc.pn.free) && glb cc.sc x && !l.isEmpty && chks cc es l
  | .bm b o es, .Call (.Attribute e m' apos) l [] pos => decide (m' = b.name) && okBase e && (apos.endLine == pos.line) && decide (l.length < 30) && chk cc o e && chks cc es l
  | .lc own tg it ifs elt, .ListComp e [⟨t, iter, fs, a⟩] scope _ => decide (a = 0) && blkC cc.N cc.sc scope own && chkTg (cc.blk scope) tg t && tg.slots.all (fun i => decide (i ∈ own.map (·.2))) && notSet iter && chkI cc it t iter && chkF (cc.blk scope) ifs fs && chk (cc.blk scope) elt e
  | .lrg a b, .Call (.Name x _) [e] [] _ => decide (x = "list") && decide (x ∈ cc.pn.free) && glb cc.sc x && notStar e && (match call2 e with
    | some (y, u, v) => decide (y = "range") && decide (y ∈ cc.pn.free) && glb cc.sc y && notStar u && notStar v && chk cc a u && chk cc b v
    | none => false)
  | .dctK ks es, .Dict keys vals _ => chkD cc ks es keys vals && !keys.isEmpty && decide (keys.length ≤ 15)
  | .calV js i es, .Call (.Name x _) l [] _ => decide (cc.N[i]? = some x) && vis cc.sc x && noDbg x && js.all (fun j => decide (j < cc.pn.nfn) && cc.pn.fnl.any (fun p => p.1 == j)) && chks cc es l && !l.isEmpty
  | .dget1 o k, .Call (.Attribute e m apos) [a] [] pos => decide (m = "get") && okBase e && (apos.endLine == pos.line) && notStar a && chk cc o e && chk cc k a
  | .dget2 o k d, .Call (.Attribute e m apos) [a, b] [] pos => decide (m = "get") && okBase e && (apos.endLine == pos.line) && notStar a && notStar b && chk cc o e && chk cc k a && chk cc d b
  | .dpop2 o k d, .Call (.Attribute e m apos) [a, b] [] pos => decide (m = "pop") && okBase e && (apos.endLine == pos.line) && notStar a && notStar b && chk cc o e && chk cc k a && chk cc d b
  | .rev e, .Subscript e' (.Slice none none (some st) _) _ => isM1 st && chk cc e e'
  | .join o k, .Call (.Attribute e m apos) [a] [] pos => decide (m = "join") && okBase e && (apos.endLine == pos.line) && notStar a && chk cc o e && chk cc k a
  | .calK j n ks pm es kes, .Call (.Name x _) l kws pos => decide ((j, x) ∈ cc.pn.fnl) && decide (j < cc.pn.nfn) && decide ((j, n, ks, pm) ∈ cc.pn.kbs) && glb cc.sc x && noDbg x && chks cc es l && chkK cc ks kes kws && !kws.isEmpty
  | .mthK c j o m n ks pm es kes, .Call (.Attribute e m' apos) l kws pos => decide (m = m') && decide ((c, m, j) ∈ cc.pn.mts) && decide (c ∈ cc.pn.cls) && decide (j < cc.pn.nfn) && decide ((j, n, ks, pm) ∈ cc.pn.kbs) && okBase e && (apos.endLine == pos.line) && decide (l.length + kws.length < 29) && chk cc o e && chks cc es l && chkK cc ks kes kws && !kws.isEmpty
  | .dct1 k e, .Dict [some ke] [ve] _ => chk cc k ke && chk cc e ve
  | _, _ => false
def chkK (cc : CC) : List Str → Exs → List Keyword → Bool
  | [], .nil, [] => true
  | k :: ks, .cons t ts, ⟨nm, e, _⟩ :: kws => decide (nm = some k) && notStar e && chk cc t e && chkK cc ks ts kws
  | _, _, _ => false
def chkD (cc : CC) : List Str → Exs → List (Option Expr) → List Expr → Bool
  | [], .nil, [], [] => true
  | k :: ks, .cons t ts, some (.Constant (.str x) _ _) :: keys, e :: es => decide (x = k) && chk cc t e && chkD cc ks ts keys es
  | _, _, _, _ => false
def chks (cc : CC) : Exs → List Expr → Bool
  | .nil, [] => true
  | .cons t ts, e :: es => notStar e && chk cc t e && chks cc ts es
  | _, _ => false
def chkF (cc : CC) : Exs → List Expr → Bool
  | .nil, [] => true
  | .cons t .nil, [e] => chk cc t e
  | _, _ => false
def chkO (cc : CC) : Ox → Option Expr → Bool
  | .no, none => true
  | .so t, some e => chk cc t e
  | _, _ => false
def chkI (cc : CC) : Ir → Expr → Expr → Bool
  | .ex t, _, e => chk cc t e
  | .rng1 t, _, e => match call1 e with
    | some (x, e) => decide (x = "range") && decide (x ∈ cc.pn.free) && glb cc.sc x && notStar e && chk cc t e
    | none => false
  | .rng2 t u, _, e => match call2 e with
    | some (x, e, e2) => decide (x = "range") && decide (x ∈ cc.pn.free) && glb cc.sc x && notStar e && notStar e2 && chk cc t e && chk cc u e2
    | none => false
  | .enum t, tg, e => match call1 e with
    | some (x, e) => decide (x = "enumerate") && decide (x ∈ cc.pn.free) && glb cc.sc x && isTup tg && notStar e && chk cc t e
    | none => false
end
structure Good (A : Ad) (P : Pg) (C : Nat → List D → Sto → Out D) (X : Cx) (E : XK) (k : Nat) (cc : CC) : Prop where
  hK : A.K = X.K
  hW : A.w = X.w
  gd : X.A.guards = some []
  calm : X.calm = true
  hy : SysK X.K
  room : Room (k + 2) X.A
  nd : X.N.Nodup
  tk : Takes X (fun cls d _ H => E cls d H)
  pass : PassesOwn (model X.prog X.w) X.A X.env X.xe
  facts : Facts A P cc.pn X.K X.mg
  fns : ∀ j, j < cc.pn.nfn → ∃ fd ps, FnG X.prog X.w X.K X.mg X.base (L2.CX X.prog X.w) k (A.fn j) fd ps (spC A ps.length (C j)) ∧ Binds X.K fd ps [] ∧ (∀ ds S, ds.length ≠ ps.length → C j ds S = .bad) ∧ ∀ n ks pm, (j, n, ks, pm) ∈ cc.pn.kbs → KB X.K fd ps n ks pm
  hN : X.N = cc.N
  sc : X.env.scope = cc.sc
  fn : X.fn = cc.fn
  stm : cc.stm = true → X.stack = X.env :: X.outer ∧ X.env.frame = some X.env.locals
  xfn : ∀ q ∈ cc.pn.xns, X.mg q.2.1 = some (.ref (A.cl q.1)) ∧ ∃ BC fI fd ps, Xin X.K (A.cl q.1) BC fI q.2.2 ∧ FnOk X.prog X.w X.K X.mg X.base (L2.CX X.prog X.w) 1 fI fd ps (spIni (A.cl q.1) q.2.2) ∧ Binds X.K fd ps []
section
variable {A : Ad} {P : Pg} {C : Nat → List D → Sto → Out D} {X : Cx} {E : XK} {k : Nat} {cc : CC}
theorem Good.blk (G : Good A P C X E k cc) (s : Shared) (H : Hp) (scope : Scope) (Ca : Addr) (cl : List (Str × Addr)) (fp : List Addr) : Good A P C (X.blk s H scope (compEnvC scope cl Ca X.env) fp) EF k (cc.blk scope) where
  hK := G.hK
  hW := G.hW
  gd := G.gd
  calm := G.calm
  hy := G.hy
  room := G.room
  nd := G.nd
  tk := takes0
  pass := PassesOwn.never
  facts := G.facts
  fns := G.fns
  hN := G.hN
  sc := by
    show relabel scope X.env = relS scope cc.sc
    rw [← G.sc] <;> rfl
  fn := rfl
  stm := fun h => by cases h
  xfn := G.xfn
theorem Good.hu (G : Good A P C X E k cc) : X.A.units + 64 < cLine := G.room.units
theorem Good.vis (G : Good A P C X E k cc) {x : Str} (h : vis cc.sc x = true) : Vis X.env.scope x := by
  rw [G.sc]
  unfold DI.vis at h
  split at h
  · exact .inl (by assumption)
  · exact .inr (.inl (by assumption))
  · exact .inr (.inr (by assumption))
  · cases h
theorem Good.glb (G : Good A P C X E k cc) {x : Str} (h : glb cc.sc x = true) : Gl X x := by
  show X.env.scope.names.lookup x = _
  rw [G.sc]
  unfold DI.glb at h
  split at h
  · assumption
  · cases h
theorem Good.lcl (G : Good A P C X E k cc) {x : Str} (h : lcl cc x = true) : Loc X.env.scope x ∧ (X.fn x = true ∨ X.env.scope.names.lookup x = some .local) := by
  rw [G.sc, G.fn]
  unfold DI.lcl at h
  split at h
  · exact ⟨.inl (by assumption), .inr (by assumption)⟩
  · exact ⟨.inr (by assumption), .inl h⟩
  · cases h
theorem noDbg_ {x : Str} (h : noDbg x = true) : (x == ("__debug__" : Str)) = false ∧ (x == ("__classdict__" : Str)) = false ∧ x ≠ "__name__" := by
  simp only [noDbg, Bool.and_eq_true, Bool.not_eq_true', beq_eq_false_iff_ne] at h
  exact ⟨beq_eq_false_iff_ne.mpr h.1.1, beq_eq_false_iff_ne.mpr h.1.2, h.2⟩
theorem base_ok {o : Expr} {f : Str} {env : Env} {w : Sem Value} (h : okBase o = true) : attributeBase o f env w = w := by
  cases o <;> first | rfl | skip
  rename_i fn args kws pos
  cases args with
  | nil => cases kws with
    | nil => cases fn <;> first | rfl | cases h
    | cons _ _ => cases fn <;> rfl
  | cons _ _ => cases fn <;> rfl
theorem star_ok {e : Expr} {es : List Expr} {env : Env} (h : notStar e = true) : starEach (e :: es) env = (false, eval e env) :: starEach es env := by
  cases e <;> first | rfl | cases h
theorem slice_ok {e : Expr} (h : notSlice e = true) : PlainIx e := by
  intro o i
  cases e <;> first | rfl | cases h
theorem set_ok {e : Expr} {env : Env} (h : notSet e = true) : ∀ x, foldedSetIterable e env x = pure x := by
  intro x
  cases e <;> first | rfl | cases h
theorem chks_star : ∀ {ts : Exs} {es : List Expr}, chks cc ts es = true → ∀ e ∈ es, notStar e = true
  | .nil, [], _, e, he => by cases he
  | .nil, _ :: _, h, _, _ => by simp [chks] at h
  | .cons _ _, [], h, _, _ => by simp [chks] at h
  | .cons t ts, e :: es, h, x, hx => by
    simp only [chks, Bool.and_eq_true] at h
    rcases List.mem_cons.mp hx with rfl | hx
    · exact h.1.1
    · exact chks_star h.2 x hx
theorem star_any : ∀ {es : List Expr} {env : Env} {pos : Pos}, (∀ e ∈ es, notStar e = true) → (backTo pos (starEach es env)).any (·.1) = false
  | [], _, _, _ => rfl
  | e :: es, env, pos, h => by
    rw [star_ok (h e List.mem_cons_self)]
    show (false || (backTo pos (starEach es env)).any (·.1)) = false
    rw [star_any fun x hx => h x (List.mem_cons_of_mem _ hx)] <;> rfl
theorem star_all : ∀ {es : List Expr} {env : Env} {pos : Pos}, (∀ e ∈ es, notStar e = true) → (backTo pos (starEach es env)).all (fun x => !x.1) = true
  | [], _, _, _ => rfl
  | e :: es, env, pos, h => by
    rw [star_ok (h e List.mem_cons_self)]
    show (true && (backTo pos (starEach es env)).all (fun x => !x.1)) = true
    rw [star_all fun x hx => h x (List.mem_cons_of_mem _ hx)] <;> rfl
theorem few_ok {es : List Expr} {env : Env} {pos : Pos} (h : ∀ e ∈ es, notStar e = true) (hl : es.length < 30) :
    ((backTo pos (starEach es env)).all (fun x => !x.1) && (backToKw pos (keywordEach [] env)).all (fun x => x.1.isSome)
      && decide (es.length + ([] : List Keyword).length + (if ([] : List Keyword).isEmpty then 0 else 1) < 30)) = true := by
  rw [star_all h]
  show (true && true && decide (es.length < 30)) = true
  rw [decide_eq_true hl] <;> rfl
theorem meth_ok {o : Expr} {m : Str} {apos pos : Pos} {es : List Expr} {env : Env} (hb : okBase o = true) (hl : (apos.endLine == pos.line) = true) (hs : ∀ e ∈ es, notStar e = true) (hn : es.length < 30) :
    eval (.Call (.Attribute o m apos) es [] pos) env = (do
      let ov ← eval o env
      standAt apos.atName
      let (f, first) ← holding [ov] (getMethod ov m (plainOf o env))
      callWith pos f first (backTo pos (starEach es env)) (backToKw pos (keywordEach [] env))) := by
  have hf : methodCallForm (es.length + ([] : List Keyword).length) (backTo pos (starEach es env)) (backToKw pos (keywordEach [] env)) = true := by
    unfold methodCallForm
    rw [star_all hs]
    show (true && true && decide (es.length < 30)) = true
    rw [decide_eq_true hn] <;> rfl
  show (do
    let ov ← attributeBase o m env (eval o env)
    standAt apos.atName
    methodCall o m apos pos env ov (es.length + ([] : List Keyword).length) (backTo pos (starEach es env)) (backToKw pos (keywordEach [] env))) = _
  rw [base_ok hb]
  congr 1
  funext ov
  congr 1
  funext _
  exact mcall_line hf hl
theorem trees1 {e : Expr} {env : Env} {pos : Pos} (h : notStar e = true) : backTo pos (starEach [e] env) = [(false, eval e env)] := by
  rw [star_ok h] <;> rfl
theorem trees2 {e f : Expr} {env : Env} {pos : Pos} (h : notStar e = true) (g : notStar f = true) : backTo pos (starEach [e, f] env) = [(false, eval e env), (false, eval f env)] := by
  rw [star_ok h, star_ok g] <;> rfl
theorem m1_ok {X : Cx} {o e : Expr} {m : Str} {apos pos : Pos} (hb : okBase o = true) (hl : (apos.endLine == pos.line) = true) (h : notStar e = true) : M1 X o m apos e pos :=
  ⟨base_ok hb, few_ok (fun z hz => by rw [List.mem_singleton] at hz; subst hz; exact h) (by show 1 < 30; decide), hl, trees1 h⟩
theorem m2_ok {X : Cx} {o e f : Expr} {m : Str} {apos pos : Pos} (hb : okBase o = true) (hl : (apos.endLine == pos.line) = true) (h : notStar e = true) (g : notStar f = true) : M2 X o m apos e f pos :=
  ⟨base_ok hb, few_ok (fun z hz => by
    rcases List.mem_cons.mp hz with rfl | hz
    · exact h
    · rw [List.mem_singleton] at hz; subst hz; exact g) (by show 2 < 30; decide), hl, trees2 h g⟩
theorem chkD_keys {cc : CC} : ∀ {ks : List Str} {ts : Exs} {keys : List (Option Expr)} {es : List Expr}, chkD cc ks ts keys es = true → keys.all (·.isSome) = true ∧ keys.length = es.length
  | [], .nil, [], [], _ => ⟨rfl, rfl⟩
  | k :: ks, .cons t ts, some (.Constant (.str x) _ _) :: keys, e :: es, h => by
    simp only [chkD, Bool.and_eq_true] at h
    obtain ⟨i1, i2⟩ := chkD_keys h.2
    exact ⟨by rw [List.all_cons, i1] <;> rfl, by rw [List.length_cons, List.length_cons, i2]⟩
theorem kw_names {cc : CC} {env : Env} {pos : Pos} : ∀ {ks : List Str} {ts : Exs} {kws : List Keyword}, chkK cc ks ts kws = true → (backToKw pos (keywordEach kws env)).all (·.1.isSome) = true ∧ (backToKw pos (keywordEach kws env)).filterMap (·.1) = ks ∧ (backToKw pos (keywordEach kws env)).any (·.1.isNone) = false
  | [], .nil, [], _ => ⟨rfl, rfl, rfl⟩
  | k :: ks, .cons t ts, ⟨nm, e, p⟩ :: kws, h => by
    simp only [chkK, Bool.and_eq_true, decide_eq_true_eq] at h
    obtain ⟨⟨⟨rfl, h2⟩, h3⟩, h4⟩ := h
    obtain ⟨i1, i2, i3⟩ := kw_names (env := env) (pos := pos) h4
    refine ⟨?_, ?_, ?_⟩
    · show (true && (backToKw pos (keywordEach kws env)).all (·.1.isSome)) = true
      rw [i1]; rfl
    · show k :: (backToKw pos (keywordEach kws env)).filterMap (·.1) = k :: ks
      rw [i2]
    · show (false || (backToKw pos (keywordEach kws env)).any (·.1.isNone)) = false
      rw [i3]; rfl
  | [], .nil, _ :: _, h => by simp [chkK] at h
  | [], .cons _ _, _, h => by simp [chkK] at h
  | _ :: _, .nil, _, h => by simp [chkK] at h
  | _ :: _, .cons _ _, [], h => by simp [chkK] at h
theorem meth_okK {o : Expr} {m : Str} {apos pos : Pos} {es : List Expr} {kws : List Keyword} {env : Env} (hb : okBase o = true) (hl : (apos.endLine == pos.line) = true) (hs : ∀ e ∈ es, notStar e = true) (hn : es.length + kws.length < 29) (hk : (backToKw pos (keywordEach kws env)).all (·.1.isSome) = true) :
    eval (.Call (.Attribute o m apos) es kws pos) env = (do
      let ov ← eval o env
      standAt apos.atName
      let (f, first) ← holding [ov] (getMethod ov m (plainOf o env))
      callWith pos f first (backTo pos (starEach es env)) (backToKw pos (keywordEach kws env))) := by
  have hf : methodCallForm (es.length + kws.length) (backTo pos (starEach es env)) (backToKw pos (keywordEach kws env)) = true := by
    unfold methodCallForm
    rw [star_all hs, hk]
    show (true && true && decide (es.length + kws.length + (if (backToKw pos (keywordEach kws env)).isEmpty = true then 0 else 1) < 30)) = true
    rw [decide_eq_true (by split <;> omega)] <;> rfl
  show (do
    let ov ← attributeBase o m env (eval o env)
    standAt apos.atName
    methodCall o m apos pos env ov (es.length + kws.length) (backTo pos (starEach es env)) (backToKw pos (keywordEach kws env))) = _
  rw [base_ok hb]
  congr 1
  funext ov
  congr 1
  funext _
  exact mcall_line hf hl
theorem tg_nm (G : Good A P C X E k cc) {i : Nat} {e : Expr} (h : chkNm cc i e = true) : PG X e (gName i) ∧ ∀ es env, assignEach (e :: es) env = (false, assign e env) :: assignEach es env := by
  cases e <;> simp only [chkNm, Bool.and_eq_true, decide_eq_true_eq] at h <;> first | (cases h; done) | skip
  obtain ⟨h1, h2⟩ := G.lcl h.2
  exact ⟨pg_name G.nd (by rw [G.hN]; exact h.1) h1 h2, fun _ _ => rfl⟩
theorem tg_nms (G : Good A P C X E k cc) : ∀ {is : List Nat} {es : List Expr}, chkNms cc is es = true → PGs X es (gNames is) ∧ ∀ env, (assignEach es env).length = is.length ∧ (assignEach es env).findIdx? (·.1) = none
  | [], [], _ => ⟨pgs_nil, fun _ => ⟨rfl, rfl⟩⟩
  | [], _ :: _, h => by simp [chkNms] at h
  | _ :: _, [], h => by simp [chkNms] at h
  | i :: is, e :: es, h => by
    simp only [chkNms, Bool.and_eq_true] at h
    obtain ⟨a1, a2⟩ := tg_nm G h.1
    obtain ⟨b1, b2⟩ := tg_nms G h.2
    refine ⟨pgs_cons a1 b1 ?_, fun env => ?_⟩
    · rw [a2] <;> rfl
    · rw [a2]
      obtain ⟨c1, c2⟩ := b2 env
      refine ⟨by rw [List.length_cons, List.length_cons, c1], ?_⟩
      rw [List.findIdx?_cons]
      simp [c2]
theorem s_tg (G : Good A P C X E k cc) {tg : Tg} {e : Expr} (h : chkTg cc tg e = true) : PG X e (gOf X.K tg) := by
  cases tg with
  | nm i => exact (tg_nm G h).1
  | tp is =>
    cases e <;> first | (cases h; done) | skip
    obtain ⟨b1, b2⟩ := tg_nms G h
    exact pg_tup G.calm b1 (b2 _).1 (b2 _).2
end
end DI

set_option Elab.async false
set_option linter.all false
set_option maxRecDepth 100000
set_option maxHeartbeats 4000000
/-! Every text of the language does what the language says: expressions. -/
namespace DI
open L2 PySem PySem.Spec PyProof.Rows
section
variable {A : Ad} {P : Pg} {C : Nat → List D → Sto → Out D}
abbrev Trip (A : Ad) (P : Pg) (C : Nat → List D → Sto → Out D) (X : Cx) (E : XK) (t : Ex) (e : Expr) : Prop :=
  PE X e (tE A E (de P C t false)) ∧ PT X e (tT A E (de P C t true)) ∧ (isBO e = true → PW X e (tT A E (de P C t true)))
theorem trip {X : Cx} {E : XK} {t : Ex} {e : Expr} {f : Sl → Sto → Out D} (hK : A.K = X.K) (h : PE X e (tE A E f)) (he : ∀ whole, isTrue e X.env whole = (do let v ← whole; standAt e.pos; holding [v] (truthy v))) (hb : isBO e = false)
    (ht : ∀ b, de P C t b = fun σ S => fin b (f σ S)) : Trip A P C X E t e := by
  refine ⟨?_, ?_, fun z => by rw [hb] at z; cases z⟩
  · rw [ht]; exact h
  · rw [ht]; exact s_plain hK h he
theorem chks_nil {cc : CC} {es : Exs} (h : chks cc es [] = true) : es = .nil := by
  cases es with
  | nil => rfl
  | cons _ _ => simp [chks] at h
theorem chks_des0 {cc : CC} {es : Exs} (h : chks cc es [] = true) : des P C es = fun _ S => .ok [] S := by
  rw [chks_nil h]; funext σ S; simp only [des]
/-- what is shown of each part of a text -/
def ME (A : Ad) (P : Pg) (C : Nat → List D → Sto → Out D) (t : Ex) : Prop := ∀ {X : Cx} {E : XK} {k : Nat} {cc : CC} {e : Expr}, Good A P C X E k cc → chk cc t e = true → Trip A P C X E t e
def MS (A : Ad) (P : Pg) (C : Nat → List D → Sto → Out D) (ts : Exs) : Prop :=
  (∀ {X : Cx} {E : XK} {k : Nat} {cc : CC} {es : List Expr}, Good A P C X E k cc → chks cc ts es = true → PA X es (tAs A E (des P C ts))) ∧
  (∀ {X : Cx} {E : XK} {k : Nat} {cc : CC} {es : List Expr}, Good A P C X E k cc → chkF cc ts es = true → PTs X es (tG A E RE (deT P C ts))) ∧
  ∀ {X : Cx} {E : XK} {k : Nat} {cc : CC} {ks : List Str} {kws : List Keyword}, Good A P C X E k cc → chkK cc ks ts kws = true → PK X kws (tAs A E (des P C ts))
/-- .. and of a display's pairs -/
def MD (A : Ad) (P : Pg) (C : Nat → List D → Sto → Out D) (ts : Exs) : Prop := ∀ {X : Cx} {E : XK} {k : Nat} {cc : CC} {ks : List Str} {keys : List (Option Expr)} {es : List Expr} {pos : Pos}, Good A P C X E k cc → chkD cc ks ts keys es = true → PDs X A E pos ks keys es (des P C ts)
def MSS (A : Ad) (P : Pg) (C : Nat → List D → Sto → Out D) (ts : Exs) : Prop := MS A P C ts ∧ MD A P C ts
def MO (A : Ad) (P : Pg) (C : Nat → List D → Sto → Out D) (o : Ox) : Prop := ∀ {X : Cx} {E : XK} {k : Nat} {cc : CC} {e : Option Expr}, Good A P C X E k cc → chkO cc o e = true → L2.PO X e (tOx A E (deO P C o))
def MI (A : Ad) (P : Pg) (C : Nat → List D → Sto → Out D) (it : Ir) : Prop := ∀ {X : Cx} {E : XK} {k : Nat} {cc : CC} {tg e : Expr}, Good A P C X E k cc → chkI cc it tg e = true → PI X tg e (tI A E (deI P C it))
theorem c_cst (l : Lit) : ME A P C (.cst l) := by
    intro X E k cc e G h
    cases e <;> (try simp only [chk] at h) <;> first | (cases h; done) | skip
    rename_i c j pos
    refine trip (f := fun _ S => .ok l.d S) G.hK ?_ (fun _ => rfl) rfl (fun b => by funext σ S; simp only [de] <;> rfl)
    cases l <;> cases c <;> (try simp only [chkLit, decide_eq_true_eq, beq_iff_eq] at h) <;> first | (cases h; done) | skip
    · exact s_cst pe_non fun _ _ => .non
    · subst h; exact s_cst pe_bl fun _ _ => .bl _
    · subst h; exact s_cst pe_int fun _ _ => .int _
    · subst h; exact s_cst pe_str fun _ _ => .str _
theorem c_var (i : Nat) : ME A P C (.var i) := by
    intro X E k cc e G h
    cases e <;> (try simp only [chk, Bool.and_eq_true, decide_eq_true_eq] at h) <;> first | (cases h; done) | skip
    obtain ⟨⟨h1, h2⟩, h3⟩ := h
    obtain ⟨n1, n2, n3⟩ := noDbg_ h3
    exact trip G.hK (s_var (pe_var (by rw [G.hN]; exact h1) (G.vis h2) n1 n2)) (fun _ => rfl) rfl (fun b => by funext σ S; simp only [de] <;> rfl)
theorem c_glo (y : Str) : ME A P C (.glo y) := by
    intro X E k cc e G h
    cases e <;> (try simp only [chk, Bool.and_eq_true, decide_eq_true_eq] at h) <;> first | (cases h; done) | skip
    obtain ⟨⟨rfl, h2⟩, h3⟩ := h
    obtain ⟨n1, n2, n3⟩ := noDbg_ h3
    rename_i x pos
    cases hd : P.glo x with
    | none =>
      refine trip (f := fun _ S => .bad) G.hK ⟨fun _ _ _ _ _ _ ⟨_, _, _, _, _, p⟩ => p.elim⟩ (fun _ => rfl) rfl (fun b => by funext σ S; simp only [de, hd] <;> rfl)
    | some d =>
      obtain ⟨v, u, g1, g2, g3⟩ := G.facts.dat x d hd
      exact trip G.hK (s_cst (pe_glob (G.glb h2) g1 g2 n1) g3) (fun _ => rfl) rfl (fun b => by funext σ S; simp only [de, hd] <;> rfl)
theorem c_bty (n : String) : ME A P C (.bty n) := by
    intro X E k cc e G h
    cases e <;> (try simp only [chk, Bool.and_eq_true, decide_eq_true_eq] at h) <;> first | (cases h; done) | skip
    obtain ⟨⟨⟨⟨rfl, h2⟩, h3⟩, h4⟩, h5⟩ := h
    obtain ⟨n1, n2, n3⟩ := noDbg_ h3
    exact trip G.hK (s_cst (pe_bltn (v := .ty n) (G.glb h2) (G.facts.free _ h4) h5 rfl n3 n1) fun _ _ => .ty n) (fun _ => rfl) rfl (fun b => by funext σ S; simp only [de] <;> rfl)
theorem c_bin (o : Operator) {a : Ex} {b : Ex} (i_a : ME A P C a) (i_b : ME A P C b) : ME A P C (.bin o a b) := by
    intro X E k cc e G h
    cases e <;> (try simp only [chk, Bool.and_eq_true, decide_eq_true_eq] at h) <;> first | (cases h; done) | skip
    obtain ⟨⟨rfl, h1⟩, h2⟩ := h
    exact trip G.hK (s_bin G.hK (i_a G h1).1 (i_b G h2).1) (fun _ => rfl) rfl (fun b => by funext σ S; simp only [de] <;> rfl)
theorem c_neg  {a : Ex} (i_a : ME A P C a) : ME A P C (.neg a) := by
    intro X E k cc e G h
    cases e <;> (try simp only [chk] at h) <;> first | (cases h; done) | skip
    rename_i op e pos
    cases op <;> (try simp only [chk] at h) <;> first | (cases h; done) | skip
    exact trip G.hK (s_neg (i_a G h).1) (fun _ => rfl) rfl (fun b => by funext σ S; simp only [de] <;> rfl)
theorem c_cmp (o : CmpOp) {a : Ex} {b : Ex} (i_a : ME A P C a) (i_b : ME A P C b) : ME A P C (.cmp o a b) := by
    intro X E k cc e G h
    cases e <;> (try simp only [chk] at h) <;> first | (cases h; done) | skip
    rename_i l ops rs pos
    match ops, rs, h with
    | [op], [r], h =>
      simp only [chk, Bool.and_eq_true, decide_eq_true_eq, Bool.not_eq_true'] at h
      obtain ⟨⟨⟨rfl, h1⟩, h2⟩, h3⟩ := h
      refine ⟨?_, ?_, fun z => by cases z⟩
      · have e1 : de P C (.cmp o a b) false = fun σ S => (de P C a false σ S).bind fun x S => (de P C b false σ S).bind fun y S => .at S ((cmpSem o x y S).map D.bl) := by funext σ S; simp only [de] <;> rfl
        rw [e1]; exact s_cmp G.hK G.hW G.hu (i_a G h1).1 (i_b G h2).1 h3
      · have e1 : de P C (.cmp o a b) true = fun σ S => (de P C a false σ S).bind fun x S => (de P C b false σ S).bind fun y S => .at S ((cmpSem o x y S).map D.bl) := by funext σ S; simp only [de] <;> rfl
        rw [e1]; exact s_cmpT G.hK G.hW G.hu (i_a G h1).1 (i_b G h2).1 h3
    | [], _, h => simp [chk] at h
    | _ :: _ :: _, _, h => simp [chk] at h
    | [_], [], h => simp [chk] at h
    | [_], _ :: _ :: _, h => simp [chk] at h
theorem c_chn (o o' : CmpOp) {a : Ex} {b : Ex} {c : Ex} (i_a : ME A P C a) (i_b : ME A P C b) (i_c : ME A P C c) : ME A P C (.chn o o' a b c) := by
    intro X E k cc e G h
    cases e <;> (try simp only [chk] at h) <;> first | (cases h; done) | skip
    rename_i l ops rs pos
    match ops, rs, h with
    | [op, op'], [r, r'], h =>
      simp only [chk, Bool.and_eq_true, decide_eq_true_eq, Bool.not_eq_true'] at h
      obtain ⟨⟨⟨⟨⟨rfl, rfl⟩, h1⟩, h2⟩, h3⟩, h4⟩ := h
      refine ⟨?_, ?_, fun z => by cases z⟩
      · have e1 : de P C (.chn o o' a b c) false = fun σ S => (de P C a false σ S).bind fun x S => (de P C b false σ S).bind fun y S => match cmpSem o x y S with
          | some true => (de P C c false σ S).bind fun z S => .at S ((cmpSem o' y z S).map D.bl)
          | some false => .ok (.bl false) S
          | none => .bad := by funext σ S; simp only [de] <;> rfl
        rw [e1]; exact s_chn G.hK G.hW G.hu (i_a G h1).1 (i_b G h2).1 (i_c G h3).1 h4
      · have e1 : de P C (.chn o o' a b c) true = fun σ S => (de P C a false σ S).bind fun x S => (de P C b false σ S).bind fun y S => match cmpSem o x y S with
          | some true => (de P C c false σ S).bind fun z S => .at S ((cmpSem o' y z S).map D.bl)
          | some false => .ok (.bl false) S
          | none => .bad := by funext σ S; simp only [de] <;> rfl
        rw [e1]; exact s_chnT G.hK G.hW G.hu (i_a G h1).1 (i_b G h2).1 (i_c G h3).1 h4
    | [], _, h => simp [chk] at h
    | [_], _, h => simp [chk] at h
    | _ :: _ :: _ :: _, _, h => simp [chk] at h
    | [_, _], [], h => simp [chk] at h
    | [_, _], [_], h => simp [chk] at h
    | [_, _], _ :: _ :: _ :: _, h => simp [chk] at h
theorem c_and_  {a : Ex} {b : Ex} (i_a : ME A P C a) (i_b : ME A P C b) : ME A P C (.and_ a b) := by
    intro X E k cc e G h
    cases e <;> (try simp only [chk] at h) <;> first | (cases h; done) | skip
    rename_i op es pos
    have e1 : ∀ k, de P C (.and_ a b) k = fun σ S => (de P C a k σ S).bind fun x S => match truSem x S with | some true => de P C b k σ S | some false => .ok x S | none => .bad := fun k => by funext σ S; simp only [de] <;> rfl
    match op, es, h with
    | .Or, _, h => simp [chk] at h
    | .And, [], h => simp [chk] at h
    | .And, [_], h => simp [chk] at h
    | .And, [e, e2], h =>
      simp only [chk, Bool.and_eq_true] at h
      have ha := i_a G h.1
      have hb := i_b G h.2
      have hw := s_andT (pos := pos) ha.2.1 (PWi (pw_and1 hb.2.1) fun σ H Q z => z)
      refine ⟨?_, ?_, fun _ => ?_⟩
      · rw [e1]; exact s_and G.hK ha.1 (pe_one hb.1)
      · rw [e1]; exact hw.pt
      · rw [e1]; exact hw
    | .And, e :: e2 :: e3 :: r, h =>
      simp only [chk, Bool.and_eq_true] at h
      have ha := i_a G h.1
      have hb := i_b G h.2
      have hw := s_andT ha.2.1 (hb.2.2 rfl)
      refine ⟨?_, ?_, fun _ => ?_⟩
      · rw [e1]; exact s_and G.hK ha.1 hb.1
      · rw [e1]; exact hw.pt
      · rw [e1]; exact hw
theorem c_or_  {a : Ex} {b : Ex} (i_a : ME A P C a) (i_b : ME A P C b) : ME A P C (.or_ a b) := by
    intro X E k cc e G h
    cases e <;> (try simp only [chk] at h) <;> first | (cases h; done) | skip
    rename_i op es pos
    have e1 : ∀ k, de P C (.or_ a b) k = fun σ S => (de P C a k σ S).bind fun x S => match truSem x S with | some true => .ok x S | some false => de P C b k σ S | none => .bad := fun k => by funext σ S; simp only [de] <;> rfl
    match op, es, h with
    | .And, _, h => simp [chk] at h
    | .Or, [], h => simp [chk] at h
    | .Or, [_], h => simp [chk] at h
    | .Or, [e, e2], h =>
      simp only [chk, Bool.and_eq_true] at h
      have ha := i_a G h.1
      have hb := i_b G h.2
      have hw := s_orT (pos := pos) ha.2.1 (PWi (pw_or1 hb.2.1) fun σ H Q z => z)
      refine ⟨?_, ?_, fun _ => ?_⟩
      · rw [e1]; exact s_or G.hK ha.1 (pe_one hb.1)
      · rw [e1]; exact hw.pt
      · rw [e1]; exact hw
    | .Or, e :: e2 :: e3 :: r, h =>
      simp only [chk, Bool.and_eq_true] at h
      have ha := i_a G h.1
      have hb := i_b G h.2
      have hw := s_orT ha.2.1 (hb.2.2 rfl)
      refine ⟨?_, ?_, fun _ => ?_⟩
      · rw [e1]; exact s_or G.hK ha.1 hb.1
      · rw [e1]; exact hw.pt
      · rw [e1]; exact hw
theorem c_not_  {a : Ex} (i_a : ME A P C a) : ME A P C (.not_ a) := by
    intro X E k cc e G h
    cases e <;> (try simp only [chk] at h) <;> first | (cases h; done) | skip
    rename_i op e pos
    cases op <;> (try simp only [chk] at h) <;> first | (cases h; done) | skip
    have e1 : ∀ k, de P C (.not_ a) k = fun σ S => (de P C a k σ S).bind fun x S => .at S ((truSem x S).map fun b => D.bl (!b)) := fun k => by funext σ S; simp only [de] <;> rfl
    have ha := i_a G h
    refine ⟨?_, ?_, fun z => by cases z⟩
    · rw [e1]; exact s_not G.hK ha.1
    · rw [e1]; exact s_notT ha.2.1
theorem c_ite  {t : Ex} {a : Ex} {b : Ex} (i_t : ME A P C t) (i_a : ME A P C a) (i_b : ME A P C b) : ME A P C (.ite t a b) := by
    intro X E k cc e G h
    cases e <;> (try simp only [chk, Bool.and_eq_true] at h) <;> first | (cases h; done) | skip
    have ht := i_t G h.1.1
    have ha := i_a G h.1.2
    have hb := i_b G h.2
    have e1 : ∀ k, de P C (.ite t a b) k = fun σ S => (tstO (de P C t true σ S)).bind fun t S => if t = true then de P C a k σ S else de P C b k σ S := fun k => by funext σ S; simp only [de] <;> rfl
    refine ⟨?_, ?_, fun z => by cases z⟩
    · rw [e1]; exact s_ite ht.2.1 ha.1 hb.1
    · rw [e1]; exact s_iteT ht.2.1 ha.2.1 hb.2.1
theorem c_fld (c : Nat) (f : Str) {o : Ex} (i_o : ME A P C o) : ME A P C (.fld c o f) := by
    intro X E k cc e G h
    cases e <;> (try simp only [chk, Bool.and_eq_true, decide_eq_true_eq] at h) <;> first | (cases h; done) | skip
    obtain ⟨⟨⟨⟨rfl, h1⟩, h2⟩, h3⟩, h4⟩ := h
    exact trip G.hK (s_fld (G.facts.cls c h1) (G.facts.fld _ h2) (i_o G h4).1 (base_ok h3)) (fun _ => rfl) rfl (fun b => by funext σ S; simp only [de] <;> rfl)
theorem c_ix  {o : Ex} {i : Ex} (i_o : ME A P C o) (i_i : ME A P C i) : ME A P C (.ix o i) := by
    intro X E k cc e G h
    cases e <;> (try simp only [chk, Bool.and_eq_true] at h) <;> first | (cases h; done) | skip
    exact trip G.hK (s_ix G.hK G.hW G.hu (i_o G h.1.2).1 (i_i G h.2).1 (slice_ok h.1.1)) (fun _ => rfl) rfl (fun b => by funext σ S; simp only [de] <;> rfl)
theorem c_sl  {o : Ex} {lo : Ox} {hi : Ox} (i_o : ME A P C o) (i_lo : MO A P C lo) (i_hi : MO A P C hi) : ME A P C (.sl o lo hi) := by
    intro X E k cc e G h
    cases e <;> (try simp only [chk] at h) <;> first | (cases h; done) | skip
    rename_i e s pos
    cases s <;> (try simp only [chk] at h) <;> first | (cases h; done) | skip
    rename_i l u st p2
    cases st <;> (try simp only [chk, Bool.and_eq_true] at h) <;> first | (cases h; done) | skip
    exact trip G.hK (s_slice G.hK (i_o G h.1.1).1 (i_lo G h.1.2) (i_hi G h.2)) (fun _ => rfl) rfl (fun b => by funext σ S; simp only [de] <;> rfl)
theorem c_tup  {es : Exs} (i_es : MS A P C es) : ME A P C (.tup es) := by
    intro X E k cc e G h
    cases e <;> (try simp only [chk] at h) <;> first | (cases h; done) | skip
    exact trip G.hK (s_tup (i_es.1 G h)) (fun _ => rfl) rfl (fun b => by funext σ S; simp only [de] <;> rfl)
theorem c_lst  {es : Exs} (i_es : MS A P C es) : ME A P C (.lst es) := by
    intro X E k cc e G h
    cases e <;> (try simp only [chk] at h) <;> first | (cases h; done) | skip
    exact trip G.hK (s_lst (i_es.1 G h)) (fun _ => rfl) rfl (fun b => by funext σ S; simp only [de] <;> rfl)
theorem c_dct0 (t : Bool) : ME A P C (.dct0 t) := by
    intro X E k cc e G h
    cases e <;> (try simp only [chk] at h) <;> first | (cases h; done) | skip
    rename_i ks vs pos
    match ks, vs, h with
    | [], [], h => exact trip G.hK (s_dct0 t) (fun _ => rfl) rfl (fun b => by funext σ S; simp only [de] <;> rfl)
    | _ :: _, _, h => simp [chk] at h
    | [], _ :: _, h => simp [chk] at h
theorem c_cal (j : Nat) {es : Exs} (i_es : MS A P C es) : ME A P C (.cal j es) := by
    intro X E k cc e G h
    cases e <;> (try simp only [chk] at h) <;> first | (cases h; done) | skip
    rename_i fn l kws pos
    cases fn <;> (try simp only [chk] at h) <;> first | (cases h; done) | skip
    rename_i x p
    cases kws <;> (try simp only [chk, Bool.and_eq_true, decide_eq_true_eq] at h) <;> first | (cases h; done) | skip
    obtain ⟨⟨⟨⟨h1, h2⟩, h3⟩, h4⟩, h5⟩ := h
    obtain ⟨n1, n2, n3⟩ := noDbg_ h4
    obtain ⟨m1, m2⟩ := G.facts.fn _ h1
    obtain ⟨fd, ps, F, hb, har, _⟩ := G.fns j h2
    have hr : Room k X.A := G.room.mono (Nat.le_add_right _ 2)
    cases l with
    | nil =>
      refine trip G.hK (s_call0 G.gd F hr (G.glb h3) m1 m2 hb G.tk har n1) (fun _ => rfl) rfl (fun b => by funext σ S; simp only [de, chks_des0 h5] <;> rfl)
    | cons e l =>
      have hs := chks_star h5
      exact trip G.hK (s_call G.gd F hr (G.glb h3) m1 m2 hb G.tk har (i_es.1 G h5) n1 (star_ok (hs e List.mem_cons_self)) (star_any fun z hz => hs z (List.mem_cons_of_mem _ hz))) (fun _ => rfl) rfl (fun b => by funext σ S; simp only [de] <;> rfl)
theorem c_mk (c j : Nat) {es : Exs} (i_es : MS A P C es) : ME A P C (.mk c j es) := by
    intro X E k cc e G h
    cases e <;> (try simp only [chk] at h) <;> first | (cases h; done) | skip
    rename_i fn l kws pos
    cases fn <;> (try simp only [chk] at h) <;> first | (cases h; done) | skip
    rename_i x p
    cases kws <;> (try simp only [chk, Bool.and_eq_true, decide_eq_true_eq] at h) <;> first | (cases h; done) | skip
    obtain ⟨⟨⟨⟨⟨h1, h2⟩, h2'⟩, h3⟩, h4⟩, h5⟩ := h
    obtain ⟨n1, n2, n3⟩ := noDbg_ h4
    have m1 := G.facts.cll _ h1
    have M := G.facts.ini _ h2
    obtain ⟨fd, ps, F, hb, har, _⟩ := G.fns j h2'
    cases l with
    | nil =>
      refine trip G.hK (s_make0 M G.gd F (G.room.mono (Nat.le_succ _)) (G.glb h3) m1 hb G.tk har n1) (fun _ => rfl) rfl (fun b => by funext σ S; simp only [de, chks_des0 h5] <;> rfl)
    | cons e l =>
      have hs := chks_star h5
      exact trip G.hK (s_make M G.gd F (G.room.mono (Nat.le_succ _)) (G.glb h3) m1 hb G.tk har (i_es.1 G h5) n1 (star_ok (hs e List.mem_cons_self)) (star_any fun z hz => hs z (List.mem_cons_of_mem _ hz))) (fun _ => rfl) rfl (fun b => by funext σ S; simp only [de] <;> rfl)
theorem c_mth (c j : Nat) (m : Str) {o : Ex} {es : Exs} (i_o : ME A P C o) (i_es : MS A P C es) : ME A P C (.mth c j o m es) := by
    intro X E k cc e G h
    cases e <;> (try simp only [chk] at h) <;> first | (cases h; done) | skip
    rename_i fn l kws pos
    cases fn <;> (try simp only [chk] at h) <;> first | (cases h; done) | skip
    rename_i e0 m' apos
    cases kws <;> (try simp only [chk, Bool.and_eq_true, decide_eq_true_eq] at h) <;> first | (cases h; done) | skip
    obtain ⟨⟨⟨⟨⟨⟨⟨⟨rfl, h1⟩, h2⟩, h3⟩, h4⟩, h5⟩, h6⟩, h7⟩, h8⟩ := h
    have m2 := G.facts.cls c h2
    have M := G.facts.mt _ h1
    obtain ⟨fd, ps, F, hb, har, _⟩ := G.fns j h3
    have hr : Room k X.A := G.room.mono (Nat.le_add_right _ 2)
    have hs := chks_star h8
    cases l with
    | nil =>
      refine trip G.hK (s_meth0 (i_o G h7).1 m2 M G.gd F hr hb G.tk har (meth_ok h4 h5 hs h6)) (fun _ => rfl) rfl (fun b => by funext σ S; simp only [de, chks_des0 h8] <;> rfl)
    | cons e l =>
      exact trip G.hK (s_meth (i_o G h7).1 m2 M G.gd F hr hb G.tk har (i_es.1 G h8) (star_ok (hs e List.mem_cons_self)) (star_any fun z hz => hs z (List.mem_cons_of_mem _ hz)) (meth_ok h4 h5 hs h6)) (fun _ => rfl) rfl (fun b => by funext σ S; simp only [de] <;> rfl)
theorem c_bi (f : BI) {es : Exs} (i_es : MS A P C es) : ME A P C (.bi f es) := by
    intro X E k cc e G h
    cases e <;> (try simp only [chk] at h) <;> first | (cases h; done) | skip
    rename_i fn l kws pos
    cases fn <;> (try simp only [chk] at h) <;> first | (cases h; done) | skip
    rename_i x p
    cases kws <;> (try simp only [chk, Bool.and_eq_true, decide_eq_true_eq, Bool.not_eq_true'] at h) <;> first | (cases h; done) | skip
    obtain ⟨⟨⟨⟨rfl, h2⟩, h3⟩, h4⟩, h5⟩ := h
    cases l with
    | nil => cases h4
    | cons e l =>
      have hs := chks_star h5
      exact trip G.hK (s_bi f G.hK G.calm G.hy G.gd G.hu (G.glb h3) (G.facts.free _ h2) (i_es.1 G h5) (star_ok (hs e List.mem_cons_self)) (star_any fun z hz => hs z (List.mem_cons_of_mem _ hz))) (fun _ => rfl) rfl (fun b => by funext σ S; simp only [de] <;> rfl)
theorem c_bm (f : BM) {o : Ex} {es : Exs} (i_o : ME A P C o) (i_es : MS A P C es) : ME A P C (.bm f o es) := by
    intro X E k cc e G h
    cases e <;> (try simp only [chk] at h) <;> first | (cases h; done) | skip
    rename_i fn l kws pos
    cases fn <;> (try simp only [chk] at h) <;> first | (cases h; done) | skip
    rename_i e0 m' apos
    cases kws <;> (try simp only [chk, Bool.and_eq_true, decide_eq_true_eq] at h) <;> first | (cases h; done) | skip
    obtain ⟨⟨⟨⟨⟨rfl, h4⟩, h5⟩, h6⟩, h7⟩, h8⟩ := h
    have hs := chks_star h8
    cases l with
    | nil =>
      refine trip G.hK (s_bm0 f (i_o G h7).1 (base_ok h4) h5) (fun _ => rfl) rfl (fun b => by funext σ S; simp only [de, chks_des0 h8] <;> rfl)
    | cons e l =>
      exact trip G.hK (s_bm f (i_o G h7).1 (i_es.1 G h8) (base_ok h4) (few_ok hs h6) h5 (star_ok (hs e List.mem_cons_self)) (star_any fun z hz => hs z (List.mem_cons_of_mem _ hz))) (fun _ => rfl) rfl (fun b => by funext σ S; simp only [de] <;> rfl)
theorem c_lc (own : List (Str × Nat)) (tg : Tg) {it : Ir} {ifs : Exs} {elt : Ex} (i_it : MI A P C it) (i_ifs : MS A P C ifs) (i_elt : ME A P C elt) : ME A P C (.lc own tg it ifs elt) := by
    intro X E k cc e G h
    cases e <;> (try simp only [chk] at h) <;> first | (cases h; done) | skip
    rename_i e gs scope pos
    match gs, h with
    | [⟨t, iter, fs, a⟩], h =>
      simp only [chk, Bool.and_eq_true, decide_eq_true_eq] at h
      obtain ⟨⟨⟨⟨⟨⟨⟨rfl, h1⟩, h2⟩, h3⟩, h4⟩, h5⟩, h6⟩, h7⟩ := h
      have hB : BlkOk X.N X.env.scope scope own := by rw [G.hN, G.sc]; exact blkOk_by h1
      have htg : ∀ i ∈ tg.slots, i ∈ own.map (·.2) := fun i hi => of_decide_eq_true (List.all_eq_true.mp h3 i hi)
      exact trip G.hK (PEi (pe_lc G.calm G.nd (i_it (tg := t) G h5) hB (fun s H Ca cl fp => s_tg (G.blk s H scope Ca cl fp) h2) (fun s H Ca cl fp => i_ifs.2.1 (G.blk s H scope Ca cl fp) h6) (fun s H Ca cl fp => (i_elt (G.blk s H scope Ca cl fp) h7).1) (set_ok h4))
        (lc_in G.hK htg)) (fun _ => rfl) rfl (fun b => by funext σ S; simp only [de] <;> rfl)
    | [], h => simp [chk] at h
    | _ :: _ :: _, h => simp [chk] at h
theorem c_lrg {a b : Ex} (i_a : ME A P C a) (i_b : ME A P C b) : ME A P C (.lrg a b) := by
    intro X E k cc e G h
    cases e <;> (try simp only [chk] at h) <;> first | (cases h; done) | skip
    rename_i fn l kws pos
    cases fn <;> (try simp only [chk] at h) <;> first | (cases h; done) | skip
    rename_i x p
    match l, kws, h with
    | [e], [], h =>
      simp only [chk, Bool.and_eq_true, decide_eq_true_eq] at h
      obtain ⟨⟨⟨⟨rfl, h2⟩, h3⟩, h4⟩, h5⟩ := h
      cases hc : call2 e with
      | none => rw [hc] at h5; cases h5
      | some xa =>
        obtain ⟨y, u, v⟩ := xa
        obtain ⟨p', pos', rfl⟩ := call2_eq hc
        rw [hc] at h5
        simp only [Bool.and_eq_true, decide_eq_true_eq] at h5
        obtain ⟨⟨⟨⟨⟨⟨rfl, k2⟩, k3⟩, k4⟩, k5⟩, k6⟩, k7⟩ := h5
        exact trip G.hK (s_lrg G.calm (G.glb h3) (G.facts.free _ h2) (G.glb k3) (G.facts.free _ k2) (i_a G k6).1 (i_b G k7).1 (star_ok k4) (star_ok k5) (star_ok h4)) (fun _ => rfl) rfl (fun b => by funext σ S; simp only [de] <;> rfl)
    | [], _, h => simp [chk] at h
    | [_], _ :: _, h => simp [chk] at h
    | _ :: _ :: _, _, h => simp [chk] at h
theorem c_calK (j n : Nat) (ks : List Str) (pm : List Nat) {es kes : Exs} (i_es : MS A P C es) (i_kes : MS A P C kes) : ME A P C (.calK j n ks pm es kes) := by
    intro X E k cc e G h
    cases e <;> (try simp only [chk] at h) <;> first | (cases h; done) | skip
    rename_i fn l kws pos
    cases fn <;> (try simp only [chk] at h) <;> first | (cases h; done) | skip
    rename_i x p
    simp only [Bool.and_eq_true, decide_eq_true_eq] at h
    obtain ⟨⟨⟨⟨⟨⟨⟨h1, h2⟩, hq⟩, h3⟩, h4⟩, h5⟩, h6⟩, _⟩ := h
    obtain ⟨n1, n2, n3⟩ := noDbg_ h4
    obtain ⟨m1, m2⟩ := G.facts.fn _ h1
    obtain ⟨fd, ps, F, hb, har, hkb⟩ := G.fns j h2
    have hr : Room k X.A := G.room.mono (Nat.le_add_right _ 2)
    obtain ⟨w1, w2, w3⟩ := kw_names (env := X.env) (pos := pos) h6
    subst w2
    cases l with
    | nil =>
      refine trip G.hK (s_callK0 G.gd F hr (G.glb h3) m1 m2 (hkb _ _ _ hq) G.tk har (i_kes.2.2 G h6) n1 w1 rfl (by rw [w3]; rfl)) (fun _ => rfl) rfl (fun b => by funext σ S; simp only [de, chks_des0 h5] <;> rfl)
    | cons e l =>
      have hs := chks_star h5
      exact trip G.hK (s_callK G.gd F hr (G.glb h3) m1 m2 (hkb _ _ _ hq) G.tk har (i_es.1 G h5) (i_kes.2.2 G h6) n1 w1 rfl (star_ok (hs e List.mem_cons_self)) (by rw [star_any hs, w3]; rfl)) (fun _ => rfl) rfl (fun b => by funext σ S; simp only [de] <;> rfl)
theorem c_mthK (c j : Nat) (m : Str) (n : Nat) (ks : List Str) (pm : List Nat) {o : Ex} {es kes : Exs} (i_o : ME A P C o) (i_es : MS A P C es) (i_kes : MS A P C kes) : ME A P C (.mthK c j o m n ks pm es kes) := by
    intro X E k cc e G h
    cases e <;> (try simp only [chk] at h) <;> first | (cases h; done) | skip
    rename_i fn l kws pos
    cases fn <;> (try simp only [chk] at h) <;> first | (cases h; done) | skip
    rename_i e0 m' apos
    simp only [Bool.and_eq_true, decide_eq_true_eq] at h
    obtain ⟨⟨⟨⟨⟨⟨⟨⟨⟨⟨⟨rfl, h1⟩, h2⟩, h3⟩, hq⟩, h4⟩, h5⟩, h6⟩, h7⟩, h8⟩, h9⟩, _⟩ := h
    have m2 := G.facts.cls c h2
    have M := G.facts.mt _ h1
    obtain ⟨fd, ps, F, hb, har, hkb⟩ := G.fns j h3
    have hr : Room k X.A := G.room.mono (Nat.le_add_right _ 2)
    have hs := chks_star h8
    obtain ⟨w1, w2, w3⟩ := kw_names (env := X.env) (pos := pos) h9
    subst w2
    cases l with
    | nil =>
      refine trip G.hK (s_methK0 (i_o G h7).1 m2 M G.gd F hr (hkb _ _ _ hq) G.tk har (i_kes.2.2 G h9) w1 rfl (by rw [w3]; rfl) (meth_okK h4 h5 hs h6 w1)) (fun _ => rfl) rfl (fun b => by funext σ S; simp only [de, chks_des0 h8] <;> rfl)
    | cons e l =>
      exact trip G.hK (s_methK (i_o G h7).1 m2 M G.gd F hr (hkb _ _ _ hq) G.tk har (i_es.1 G h8) (i_kes.2.2 G h9) w1 rfl (star_ok (hs e List.mem_cons_self)) (by rw [star_any hs, w3]; rfl) (meth_okK h4 h5 hs h6 w1)) (fun _ => rfl) rfl (fun b => by funext σ S; simp only [de] <;> rfl)
theorem c_nil : MS A P C .nil := by
  refine ⟨?_, ?_, ?_⟩
  · intro X E k cc es G h
    cases es with
    | nil =>
      have e1 : des P C .nil = fun _ S => .ok [] S := by funext σ S; simp only [des] <;> rfl
      rw [e1]; exact s_nil
    | cons _ _ => simp [chks] at h
  · intro X E k cc es G h
    cases es with
    | nil =>
      have e1 : deT P C .nil = fun _ S => .ok true S := by funext σ S; simp only [deT] <;> rfl
      rw [e1]; exact s_pts0
    | cons _ _ => simp [chkF] at h
  · intro X E k cc ks kws G h
    have e1 : des P C .nil = fun _ S => .ok [] S := by funext σ S; simp only [des] <;> rfl
    match ks, kws, h with
    | [], [], h => rw [e1]; exact k_nil
    | [], _ :: _, h => simp [chkK] at h
    | _ :: _, _, h => simp [chkK] at h
theorem c_cons {t : Ex} {ts : Exs} (i_t : ME A P C t) (i_ts : MS A P C ts) : MS A P C (.cons t ts) := by
  refine ⟨?_, ?_, ?_⟩
  · intro X E k cc es G h
    cases es with
    | nil => simp [chks] at h
    | cons e es =>
      simp only [chks, Bool.and_eq_true] at h
      have e1 : des P C (.cons t ts) = fun σ S => (de P C t false σ S).bind fun d S => (des P C ts σ S).bind fun ds S => .ok (d :: ds) S := by funext σ S; simp only [des] <;> rfl
      rw [e1]; exact s_cons (i_t G h.1.2).1 (i_ts.1 G h.2) (star_ok h.1.1)
  · intro X E k cc es G h
    cases ts with
    | cons _ _ => simp [chkF] at h
    | nil =>
    match es, h with
    | [e], h =>
      simp only [chkF] at h
      have e1 : deT P C (.cons t .nil) = fun σ S => tstO (de P C t true σ S) := by funext σ S; simp only [deT] <;> rfl
      rw [e1]; exact s_pts1 (i_t G h).2.1
    | [], h => simp [chkF] at h
    | _ :: _ :: _, h => simp [chkF] at h
  · intro X E k cc ks kws G h
    have e1 : des P C (.cons t ts) = fun σ S => (de P C t false σ S).bind fun d S => (des P C ts σ S).bind fun ds S => .ok (d :: ds) S := by funext σ S; simp only [des] <;> rfl
    match ks, kws, h with
    | k1 :: ks, ⟨nm, e, p⟩ :: kws, h =>
      simp only [chkK, Bool.and_eq_true, decide_eq_true_eq] at h
      rw [e1]; exact k_cons (i_t G h.1.2).1 (i_ts.2.2 G h.2)
    | [], _, h => simp [chkK] at h
    | _ :: _, [], h => simp [chkK] at h
theorem c_nilS : MSS A P C .nil := ⟨c_nil, by
  intro X E k cc ks keys es pos G h
  have e1 : des P C .nil = fun _ S => .ok [] S := by funext σ S; simp only [des] <;> rfl
  match ks, keys, es, h with
  | [], [], [], _ => rw [e1]; exact pds_nil
  | _ :: _, _, _, h => simp [chkD] at h
  | [], _ :: _, _, h => simp [chkD] at h
  | [], [], _ :: _, h => simp [chkD] at h⟩
theorem c_consS {t : Ex} {ts : Exs} (i_t : ME A P C t) (i_ts : MSS A P C ts) : MSS A P C (.cons t ts) := ⟨c_cons i_t i_ts.1, by
  intro X E k cc ks keys es pos G h
  have e1 : des P C (.cons t ts) = fun σ S => (de P C t false σ S).bind fun d S => (des P C ts σ S).bind fun ds S => .ok (d :: ds) S := by funext σ S; simp only [des] <;> rfl
  unfold chkD at h
  split at h
  · rename_i hq; cases hq
  · rename_i hq
    cases hq
    simp only [Bool.and_eq_true, decide_eq_true_eq] at h
    obtain ⟨⟨rfl, h2⟩, h3⟩ := h
    rw [e1]; exact pds_cons (i_t G h2).1 (i_ts.2 G h3)
  · cases h⟩
theorem c_dctK (ks : List Str) {es : Exs} (i_es : MSS A P C es) : ME A P C (.dctK ks es) := by
    intro X E k cc e G h
    cases e <;> (try simp only [chk] at h) <;> first | (cases h; done) | skip
    rename_i keys vals pos
    simp only [Bool.and_eq_true, decide_eq_true_eq, Bool.not_eq_true', List.isEmpty_eq_false_iff] at h
    obtain ⟨⟨h1, h2⟩, h3⟩ := h
    obtain ⟨w1, w2⟩ := chkD_keys h1
    exact trip G.hK (s_dctK (i_es.2 G h1) w1 w2 h2 h3) (fun _ => rfl) rfl (fun b => by funext σ S; simp only [de] <;> rfl)
theorem c_dct1 {t u : Ex} (i_t : ME A P C t) (i_u : ME A P C u) : ME A P C (.dct1 t u) := by
    intro X E k cc e G h
    cases e <;> (try simp only [chk] at h) <;> first | (cases h; done) | skip
    rename_i keys vals pos
    match keys, vals, h with
    | [some ke], [ve], h =>
      simp only [chk, Bool.and_eq_true] at h
      exact trip G.hK (s_dct1 (i_t G h.1).1 (i_u G h.2).1) (fun _ => rfl) rfl (fun b => by funext σ S; simp only [de] <;> rfl)
theorem c_calV (js : List Nat) (i : Nat) {es : Exs} (i_es : MS A P C es) : ME A P C (.calV js i es) := by
    intro X E k cc e G h
    cases e <;> (try simp only [chk] at h) <;> first | (cases h; done) | skip
    rename_i fn l kws pos
    cases fn <;> (try simp only [chk] at h) <;> first | (cases h; done) | skip
    rename_i x p
    cases kws <;> (try simp only [chk, Bool.and_eq_true, decide_eq_true_eq, Bool.not_eq_true'] at h) <;> first | (cases h; done) | skip
    obtain ⟨⟨⟨⟨⟨h1, h2⟩, h3⟩, h4⟩, h5⟩, h6⟩ := h
    obtain ⟨n1, n2, n3⟩ := noDbg_ h3
    cases l with
    | nil => cases h6
    | cons e l =>
      have hs := chks_star h5
      refine trip G.hK (s_calV (js := js) G.gd (G.room.mono (Nat.le_add_right _ 2)) (by rw [G.hN]; exact h1) (G.vis h2) (fun j hj => ?_) G.tk (i_es.1 G h5) n1 n2 (star_ok (hs e List.mem_cons_self)) (star_any fun z hz => hs z (List.mem_cons_of_mem _ hz))) (fun _ => rfl) rfl (fun b => by funext σ S; simp only [de] <;> rfl)
      have hj2 := List.all_eq_true.mp h4 j hj
      simp only [Bool.and_eq_true, decide_eq_true_eq, List.any_eq_true, beq_iff_eq] at hj2
      obtain ⟨j1, q, hq, rfl⟩ := hj2
      obtain ⟨fd, ps, F, hb, har, _⟩ := G.fns q.1 j1
      exact ⟨(G.facts.fn q hq).2, fd, ps, F, hb, har⟩
theorem c_dget1 {o q : Ex} (i_o : ME A P C o) (i_q : ME A P C q) : ME A P C (.dget1 o q) := by
    intro X E k cc e G h
    cases e <;> (try simp only [chk] at h) <;> first | (cases h; done) | skip
    rename_i fn l kws pos
    cases fn <;> (try simp only [chk] at h) <;> first | (cases h; done) | skip
    rename_i e0 m apos
    match l, kws, h with
    | [a], [], h =>
      simp only [chk, Bool.and_eq_true, decide_eq_true_eq] at h
      obtain ⟨⟨⟨⟨⟨rfl, h2⟩, h3⟩, h4⟩, h5⟩, h6⟩ := h
      exact trip G.hK (s_dget1 (by have := G.hu; omega) (i_o G h5).1 (i_q G h6).1 (m1_ok h2 h3 h4)) (fun _ => rfl) rfl (fun b => by funext σ S; simp only [de] <;> rfl)
    | [], _, h => simp [chk] at h
    | [_], _ :: _, h => simp [chk] at h
    | _ :: _ :: _, _, h => simp [chk] at h
theorem c_dget2 {o q r : Ex} (i_o : ME A P C o) (i_q : ME A P C q) (i_r : ME A P C r) : ME A P C (.dget2 o q r) := by
    intro X E k cc e G h
    cases e <;> (try simp only [chk] at h) <;> first | (cases h; done) | skip
    rename_i fn l kws pos
    cases fn <;> (try simp only [chk] at h) <;> first | (cases h; done) | skip
    rename_i e0 m apos
    match l, kws, h with
    | [a, b], [], h =>
      simp only [chk, Bool.and_eq_true, decide_eq_true_eq] at h
      obtain ⟨⟨⟨⟨⟨⟨⟨rfl, h2⟩, h3⟩, h4⟩, h4'⟩, h5⟩, h6⟩, h7⟩ := h
      exact trip G.hK (s_dget2 (by have := G.hu; omega) (i_o G h5).1 (i_q G h6).1 (i_r G h7).1 (m2_ok h2 h3 h4 h4')) (fun _ => rfl) rfl (fun b => by funext σ S; simp only [de] <;> rfl)
    | [], _, h => simp [chk] at h
    | [_], _, h => simp [chk] at h
    | [_, _], _ :: _, h => simp [chk] at h
    | _ :: _ :: _ :: _, _, h => simp [chk] at h
theorem c_dpop2 {o q r : Ex} (i_o : ME A P C o) (i_q : ME A P C q) (i_r : ME A P C r) : ME A P C (.dpop2 o q r) := by
    intro X E k cc e G h
    cases e <;> (try simp only [chk] at h) <;> first | (cases h; done) | skip
    rename_i fn l kws pos
    cases fn <;> (try simp only [chk] at h) <;> first | (cases h; done) | skip
    rename_i e0 m apos
    match l, kws, h with
    | [a, b], [], h =>
      simp only [chk, Bool.and_eq_true, decide_eq_true_eq] at h
      obtain ⟨⟨⟨⟨⟨⟨⟨rfl, h2⟩, h3⟩, h4⟩, h4'⟩, h5⟩, h6⟩, h7⟩ := h
      exact trip G.hK (s_dpop2 (i_o G h5).1 (i_q G h6).1 (i_r G h7).1 (m2_ok h2 h3 h4 h4')) (fun _ => rfl) rfl (fun b => by funext σ S; simp only [de] <;> rfl)
    | [], _, h => simp [chk] at h
    | [_], _, h => simp [chk] at h
    | [_, _], _ :: _, h => simp [chk] at h
    | _ :: _ :: _ :: _, _, h => simp [chk] at h
theorem c_rev {o : Ex} (i_o : ME A P C o) : ME A P C (.rev o) := by
    intro X E k cc e G h
    cases e <;> (try simp only [chk] at h) <;> first | (cases h; done) | skip
    rename_i e' s pos
    cases s <;> (try simp only [chk] at h) <;> first | (cases h; done) | skip
    rename_i lo hi st p2
    cases lo <;> cases hi <;> cases st <;> (try simp only [chk] at h) <;> first | (cases h; done) | skip
    simp only [Bool.and_eq_true] at h
    obtain ⟨k', p1, p3, rfl⟩ := isM1_eq h.1
    exact trip G.hK (s_rev G.hK (i_o G h.2).1) (fun _ => rfl) rfl (fun b => by funext σ S; simp only [de] <;> rfl)
theorem c_join {o q : Ex} (i_o : ME A P C o) (i_q : ME A P C q) : ME A P C (.join o q) := by
    intro X E k cc e G h
    cases e <;> (try simp only [chk] at h) <;> first | (cases h; done) | skip
    rename_i fn l kws pos
    cases fn <;> (try simp only [chk] at h) <;> first | (cases h; done) | skip
    rename_i e0 m apos
    match l, kws, h with
    | [a], [], h =>
      simp only [chk, Bool.and_eq_true, decide_eq_true_eq] at h
      obtain ⟨⟨⟨⟨⟨rfl, h2⟩, h3⟩, h4⟩, h5⟩, h6⟩ := h
      exact trip G.hK (s_join G.hK (i_o G h5).1 (i_q G h6).1 (by rw [star_ok h4] <;> rfl) (base_ok h2) h3) (fun _ => rfl) rfl (fun b => by funext σ S; simp only [de] <;> rfl)
    | [], _, h => simp [chk] at h
    | [_], _ :: _, h => simp [chk] at h
    | _ :: _ :: _, _, h => simp [chk] at h
theorem c_no : MO A P C .no := by
    intro X E k cc e G h
    cases e with
    | none =>
      have e1 : deO P C .no = fun _ S => .ok none S := by funext σ S; simp only [deO] <;> rfl
      rw [e1]; exact s_po0
    | some _ => simp [chkO] at h
theorem c_so {t : Ex} (i_t : ME A P C t) : MO A P C (.so t) := by
    intro X E k cc e G h
    cases e with
    | none => simp [chkO] at h
    | some e =>
      simp only [chkO] at h
      have e1 : deO P C (.so t) = fun σ S => (de P C t false σ S).bind fun d S => cutOf d S := by funext σ S; simp only [deO] <;> rfl
      rw [e1]; exact s_po1 (i_t G h).1
theorem c_iex {t : Ex} (i_t : ME A P C t) : MI A P C (.ex t) := by
    intro X E k cc tg e G h
    simp only [chkI] at h
    have e1 : deI P C (.ex t) = fun σ S => (de P C t false σ S).bind fun x S => .at S (walkOf x S) := by funext σ S; simp only [deI] <;> rfl
    rw [e1]; exact s_iter G.hK G.hW (i_t G h).1
theorem c_irng1 {t : Ex} (i_t : ME A P C t) : MI A P C (.rng1 t) := by
  intro X E k cc tg e G h
  simp only [chkI] at h
  cases hc : call1 e with
  | none => rw [hc] at h; cases h
  | some xa =>
    obtain ⟨x, a⟩ := xa
    obtain ⟨p, pos, rfl⟩ := call1_eq hc
    rw [hc] at h
    simp only [Bool.and_eq_true, decide_eq_true_eq] at h
    obtain ⟨⟨⟨⟨rfl, h2⟩, h3⟩, h4⟩, h5⟩ := h
    have e1 : deI P C (.rng1 t) = fun σ S => (de P C t false σ S).bind fun x S => match x with | .int j => if rngOk 0 j = true then .ok (.rng 0 j.toNat) S else .bad | _ => .bad := by funext σ S; simp only [deI] <;> rfl
    rw [e1]; exact s_rng1 (G.glb h3) (G.facts.free _ h2) (i_t G h5).1 (star_ok h4)
theorem c_irng2 {t u : Ex} (i_t : ME A P C t) (i_u : ME A P C u) : MI A P C (.rng2 t u) := by
  intro X E k cc tg e G h
  simp only [chkI] at h
  cases hc : call2 e with
  | none => rw [hc] at h; cases h
  | some xa =>
    obtain ⟨x, a, b⟩ := xa
    obtain ⟨p, pos, rfl⟩ := call2_eq hc
    rw [hc] at h
    simp only [Bool.and_eq_true, decide_eq_true_eq] at h
    obtain ⟨⟨⟨⟨⟨⟨rfl, h2⟩, h3⟩, h4⟩, h4'⟩, h5⟩, h6⟩ := h
    have e1 : deI P C (.rng2 t u) = fun σ S => (de P C t false σ S).bind fun x S => (de P C u false σ S).bind fun y S => match x, y with
      | .int i, .int j => if rngOk i j = true then .ok (.rng i (j - i).toNat) S else .bad
      | _, _ => .bad := by funext σ S; simp only [deI] <;> rfl
    rw [e1]; exact s_rng2 (G.glb h3) (G.facts.free _ h2) (i_t G h5).1 (i_u G h6).1 (star_ok h4) (star_ok h4')
theorem c_ienum {t : Ex} (i_t : ME A P C t) : MI A P C (.enum t) := by
  intro X E k cc tg e G h
  simp only [chkI] at h
  cases hc : call1 e with
  | none => rw [hc] at h; cases h
  | some xa =>
    obtain ⟨x, a⟩ := xa
    obtain ⟨p, pos, rfl⟩ := call1_eq hc
    rw [hc] at h
    simp only [Bool.and_eq_true, decide_eq_true_eq] at h
    obtain ⟨⟨⟨⟨⟨rfl, h2⟩, h3⟩, h3'⟩, h4⟩, h5⟩ := h
    cases tg <;> first | (cases h3'; done) | skip
    have e1 : deI P C (.enum t) = fun σ S => (de P C t false σ S).bind fun x S => match walkL x S with | some w => .ok (.en w) S | none => .bad := by funext σ S; simp only [deI] <;> rfl
    rw [e1]; exact s_enum G.hK (G.glb h3) (G.facts.free _ h2) (i_t G h5).1 (star_ok h4)
theorem sAll : (∀ t, ME A P C t) ∧ (∀ ts, MSS A P C ts) ∧ (∀ o, MO A P C o) ∧ ∀ it, MI A P C it := by
  refine ⟨fun t => ?_, fun t => ?_, fun t => ?_, fun t => ?_⟩
  · exact @Ex.rec (ME A P C) (MSS A P C) (MO A P C) (MI A P C) (fun l => c_cst l) (fun i => c_var i) (fun x => c_glo x) (fun n => c_bty n) (fun o _ _ a b => c_bin o a b) (fun _ a => c_neg a) (fun o _ _ a b => c_cmp o a b) (fun o o' _ _ _ a b c => c_chn o o' a b c) (fun _ _ a b => c_and_ a b) (fun _ _ a b => c_or_ a b) (fun _ a => c_not_ a) (fun _ _ _ t a b => c_ite t a b) (fun c _ f o => c_fld c f o) (fun _ _ o i => c_ix o i) (fun _ _ _ o l h => c_sl o l h) (fun _ es => c_tup es.1) (fun _ es => c_lst es.1) (fun t => c_dct0 t) (fun j _ es => c_cal j es.1) (fun c j _ es => c_mk c j es.1) (fun c j _ m _ o es => c_mth c j m o es.1) (fun b _ es => c_bi b es.1) (fun b _ _ o es => c_bm b o es.1) (fun own tg _ _ _ it ifs elt => c_lc own tg it ifs.1 elt) (fun _ _ a b => c_lrg a b) (fun ks _ es => c_dctK ks es) (fun js i _ es => c_calV js i es.1) (fun _ _ a b => c_dget1 a b) (fun _ _ _ a b c => c_dget2 a b c) (fun _ _ _ a b c => c_dpop2 a b c) (fun _ a => c_rev a) (fun _ _ a b => c_join a b) (fun j n ks pm _ _ a b => c_calK j n ks pm a.1 b.1) (fun c j _ m n ks pm _ _ o a b => c_mthK c j m n ks pm o a.1 b.1) (fun _ _ a b => c_dct1 a b) c_nilS (fun _ _ a b => c_consS a b) c_no (fun _ a => c_so a) (fun _ a => c_iex a) (fun _ a => c_irng1 a) (fun _ _ a b => c_irng2 a b) (fun _ a => c_ienum a) t
  · exact @Exs.rec (ME A P C) (MSS A P C) (MO A P C) (MI A P C) (fun l => c_cst l) (fun i => c_var i) (fun x => c_glo x) (fun n => c_bty n) (fun o _ _ a b => c_bin o a b) (fun _ a => c_neg a) (fun o _ _ a b => c_cmp o a b) (fun o o' _ _ _ a b c => c_chn o o' a b c) (fun _ _ a b => c_and_ a b) (fun _ _ a b => c_or_ a b) (fun _ a => c_not_ a) (fun _ _ _ t a b => c_ite t a b) (fun c _ f o => c_fld c f o) (fun _ _ o i => c_ix o i) (fun _ _ _ o l h => c_sl o l h) (fun _ es => c_tup es.1) (fun _ es => c_lst es.1) (fun t => c_dct0 t) (fun j _ es => c_cal j es.1) (fun c j _ es => c_mk c j es.1) (fun c j _ m _ o es => c_mth c j m o es.1) (fun b _ es => c_bi b es.1) (fun b _ _ o es => c_bm b o es.1) (fun own tg _ _ _ it ifs elt => c_lc own tg it ifs.1 elt) (fun _ _ a b => c_lrg a b) (fun ks _ es => c_dctK ks es) (fun js i _ es => c_calV js i es.1) (fun _ _ a b => c_dget1 a b) (fun _ _ _ a b c => c_dget2 a b c) (fun _ _ _ a b c => c_dpop2 a b c) (fun _ a => c_rev a) (fun _ _ a b => c_join a b) (fun j n ks pm _ _ a b => c_calK j n ks pm a.1 b.1) (fun c j _ m n ks pm _ _ o a b => c_mthK c j m n ks pm o a.1 b.1) (fun _ _ a b => c_dct1 a b) c_nilS (fun _ _ a b => c_consS a b) c_no (fun _ a => c_so a) (fun _ a => c_iex a) (fun _ a => c_irng1 a) (fun _ _ a b => c_irng2 a b) (fun _ a => c_ienum a) t
  · exact @Ox.rec (ME A P C) (MSS A P C) (MO A P C) (MI A P C) (fun l => c_cst l) (fun i => c_var i) (fun x => c_glo x) (fun n => c_bty n) (fun o _ _ a b => c_bin o a b) (fun _ a => c_neg a) (fun o _ _ a b => c_cmp o a b) (fun o o' _ _ _ a b c => c_chn o o' a b c) (fun _ _ a b => c_and_ a b) (fun _ _ a b => c_or_ a b) (fun _ a => c_not_ a) (fun _ _ _ t a b => c_ite t a b) (fun c _ f o => c_fld c f o) (fun _ _ o i => c_ix o i) (fun _ _ _ o l h => c_sl o l h) (fun _ es => c_tup es.1) (fun _ es => c_lst es.1) (fun t => c_dct0 t) (fun j _ es => c_cal j es.1) (fun c j _ es => c_mk c j es.1) (fun c j _ m _ o es => c_mth c j m o es.1) (fun b _ es => c_bi b es.1) (fun b _ _ o es => c_bm b o es.1) (fun own tg _ _ _ it ifs elt => c_lc own tg it ifs.1 elt) (fun _ _ a b => c_lrg a b) (fun ks _ es => c_dctK ks es) (fun js i _ es => c_calV js i es.1) (fun _ _ a b => c_dget1 a b) (fun _ _ _ a b c => c_dget2 a b c) (fun _ _ _ a b c => c_dpop2 a b c) (fun _ a => c_rev a) (fun _ _ a b => c_join a b) (fun j n ks pm _ _ a b => c_calK j n ks pm a.1 b.1) (fun c j _ m n ks pm _ _ o a b => c_mthK c j m n ks pm o a.1 b.1) (fun _ _ a b => c_dct1 a b) c_nilS (fun _ _ a b => c_consS a b) c_no (fun _ a => c_so a) (fun _ a => c_iex a) (fun _ a => c_irng1 a) (fun _ _ a b => c_irng2 a b) (fun _ a => c_ienum a) t
  · exact @Ir.rec (ME A P C) (MSS A P C) (MO A P C) (MI A P C) (fun l => c_cst l) (fun i => c_var i) (fun x => c_glo x) (fun n => c_bty n) (fun o _ _ a b => c_bin o a b) (fun _ a => c_neg a) (fun o _ _ a b => c_cmp o a b) (fun o o' _ _ _ a b c => c_chn o o' a b c) (fun _ _ a b => c_and_ a b) (fun _ _ a b => c_or_ a b) (fun _ a => c_not_ a) (fun _ _ _ t a b => c_ite t a b) (fun c _ f o => c_fld c f o) (fun _ _ o i => c_ix o i) (fun _ _ _ o l h => c_sl o l h) (fun _ es => c_tup es.1) (fun _ es => c_lst es.1) (fun t => c_dct0 t) (fun j _ es => c_cal j es.1) (fun c j _ es => c_mk c j es.1) (fun c j _ m _ o es => c_mth c j m o es.1) (fun b _ es => c_bi b es.1) (fun b _ _ o es => c_bm b o es.1) (fun own tg _ _ _ it ifs elt => c_lc own tg it ifs.1 elt) (fun _ _ a b => c_lrg a b) (fun ks _ es => c_dctK ks es) (fun js i _ es => c_calV js i es.1) (fun _ _ a b => c_dget1 a b) (fun _ _ _ a b c => c_dget2 a b c) (fun _ _ _ a b c => c_dpop2 a b c) (fun _ a => c_rev a) (fun _ _ a b => c_join a b) (fun j n ks pm _ _ a b => c_calK j n ks pm a.1 b.1) (fun c j _ m n ks pm _ _ o a b => c_mthK c j m n ks pm o a.1 b.1) (fun _ _ a b => c_dct1 a b) c_nilS (fun _ _ a b => c_consS a b) c_no (fun _ a => c_so a) (fun _ a => c_iex a) (fun _ a => c_irng1 a) (fun _ _ a b => c_irng2 a b) (fun _ a => c_ienum a) t
theorem sE (t : Ex) : ME A P C t := sAll.1 t
theorem sEs (ts : Exs) : MS A P C ts := (sAll.2.1 ts).1
theorem sO (o : Ox) : MO A P C o := sAll.2.2.1 o
theorem sI (it : Ir) : MI A P C it := sAll.2.2.2 it
end
end DI

set_option Elab.async false
set_option linter.all false
set_option maxRecDepth 100000
set_option maxHeartbeats 4000000
/-! Statements by what the language says: one lemma a construct. -/
namespace DI
open L2 PySem PySem.Spec PyProof.Rows

def PostS (A : Ad) (E : XK) (m : List Addr) (H : Hp) (o : OutS) (D : Ends) : Prop :=
  match o with
  | .nx σD S' => ∀ m' H' σ', Ext A m H m' H' → Rep A m' S' H' → RepS A m' H' σD σ' → D.nx σ' H'
  | .bk σD S' => ∀ m' H' σ', Ext A m H m' H' → Rep A m' S' H' → RepS A m' H' σD σ' → D.bk σ' H'
  | .ct σD S' => ∀ m' H' σ', Ext A m H m' H' → Rep A m' S' H' → RepS A m' H' σD σ' → D.ct σ' H'
  | .rt d S' => ∀ m' H' v, Ext A m H m' H' → Rep A m' S' H' → RepD A m' H' d v → D.rt v H'
  | .err c fs _ S' => ∀ m' H' dd, Ext A m H m' H' → Rep A m' S' H' → RepX A m' H' fs dd → E (.ref (A.cl c)) dd H'
  | .bad => False
def tS (A : Ad) (E : XK) (f : Sl → Sto → OutS) : TS := fun D σ H => ∃ m S σD, Rep A m S H ∧ RepS A m H σD σ ∧ PostS A E m H (f σD S) D
section
variable {A : Ad} {E : XK} {m m' : List Addr} {H H' : Hp} {De : Ends}
theorem PostS.base {o : OutS} (p : PostS A E m H o De) (e : Ext A m H m' H') : PostS A E m' H' o De := by
  cases o <;> first | exact p | exact fun m2 H2 b e2 r x => p m2 H2 b (e.trans e2) r x
theorem PostS.thn {α β : Type} {R : List Addr → Hp → α → β → Prop} {o : Out α} {σD : Sl} {f : α → Sto → OutS} (p : PostS A E m H (o.thn σD f) De) :
    Post A E R m H o (fun b H1 => ∃ m1 S1 a, Ext A m H m1 H1 ∧ Rep A m1 S1 H1 ∧ R m1 H1 a b ∧ PostS A E m1 H1 (f a S1) De) := by
  cases o with
  | ok a S => exact fun m1 H1 b e r x => ⟨m1, S, a, e, r, x, PostS.base (o := f a S) p e⟩
  | err c fs S => exact p
  | bad => exact p
theorem PostS.tst {o : Out D} {σD : Sl} {f : Bool → Sto → OutS} (p : PostS A E m H ((tstO o).thn σD f) De) :
    Post A E RB m H o (fun b H1 => ∃ m1 S1, Ext A m H m1 H1 ∧ Rep A m1 S1 H1 ∧ PostS A E m1 H1 (f b S1) De) := by
  cases o with
  | ok d S1 =>
    intro m1 H1 x e1 R1 rx
    have e : d = .bl x := rx
    subst e
    exact ⟨m1, S1, e1, R1, PostS.base (o := f x S1) p e1⟩
  | err c fs S1 => exact p
  | bad => exact p
end
section
variable {X : Cx} {A : Ad} {E : XK} {a b c e o i : Expr} {fa fb fc fe fo fi : Sl → Sto → Out D} {pos pos' : Pos} {f g : Sl → Sto → OutS}
theorem ss_nil : PSs X [] (tS A E fun σ S => .nx σ S) := PSsi pss_nil fun D σ H ⟨m, S, σD, R, Rs, p⟩ => p m H σ Ext.refl R Rs
theorem ss_cons {st : Stmt} {sts : List Stmt} (h1 : PS X st (tS A E f)) (h2 : PSs X sts (tS A E g)) : PSs X (st :: sts) (tS A E fun σ S => (f σ S).nxt g) :=
  PSsi (pss_cons h1 h2) fun D σ H ⟨m, S, σD, R, Rs, p⟩ => ⟨m, S, σD, R, Rs, by
    revert p
    dsimp only
    cases f σD S with
    | nx σ1 S1 => exact fun p m1 H1 σ' e1 R1 Rs1 => ⟨m1, S1, σ1, R1, Rs1, PostS.base (o := g σ1 S1) p e1⟩
    | rt d S1 => exact fun p => p
    | bk d S1 => exact fun p => p
    | ct d S1 => exact fun p => p
    | err c fs d S1 => exact fun p => p
    | bad => exact fun p => p⟩
theorem ss_set {x : Str} {k : Nat} (he : PS X (.Assign [.Name x pos'] e pos) (tAsg (tE A E fe) (gName k))) : PS X (.Assign [.Name x pos'] e pos) (tS A E fun σ S => (fe σ S).thn σ fun d S => .nx (σ.set k (some d)) S) :=
  PSi he fun D σ H ⟨m, S, σD, R, Rs, p⟩ => ⟨m, S, σD, R, Rs, p.thn.mono fun x H1 ⟨m1, S1, d, e1, R1, rx, p1⟩ => p1 m1 H1 _ Ext.refl R1 ((Rs.mono e1).set rx k)⟩
theorem ss_setT {t : Expr} {is : List Nat} (hK : A.K = X.K) (he : PE X e (tE A E fe)) (hg : PG X t (gOf X.K (.tp is))) (hs : swapsWithSole [t] e pos.line X.env = pure false) (hw : swappedStores [t] e X.env = pure none)
    (h1 : (assignEach [t] X.env).map (·.2) = [assign t X.env]) :
    PS X (.Assign [t] e pos) (tS A E fun σ S => (fe σ S).thn σ fun d S => match setTg (.tp is) d σ with | some σ' => .nx σ' S | none => .bad) :=
  PSi (ps_asg he hg hs hw h1) fun D σ H ⟨m, S, σD, R, Rs, p⟩ => ⟨m, S, σD, R, Rs, p.thn.mono fun x H1 ⟨m1, S1, d, e1, R1, rx, p1⟩ => by
    cases hs : setTg (.tp is) d σD with
    | none => rw [hs] at p1; exact p1.elim
    | some σ' =>
      rw [hs] at p1
      exact gOf_in hK (fun _ => True) _ hs rx (Rs.mono e1) (fun _ _ _ _ _ => trivial) trivial fun σ2 Rs2 _ => p1 m1 H1 σ2 Ext.refl R1 Rs2⟩
theorem ss_par {x y : Str} {i j : Nat} {px py pt pt2 : Pos} {kt k2 : Nat} (hc : X.calm = true) (hN : X.N.Nodup) (hi : X.N[i]? = some x) (hj : X.N[j]? = some y) (hij : i ≠ j)
    (hx : X.env.scope.names.lookup x = some .local) (hy : X.env.scope.names.lookup y = some .local) (ha : PE X a (tE A E fa)) (hb : PE X b (tE A E fb)) (s1 : starEach [a, b] X.env = (false, eval a X.env) :: starEach [b] X.env) (s2 : starEach [b] X.env = (false, eval b X.env) :: starEach [] X.env)
    (hw : swappedStores [.Tuple [.Name x px, .Name y py] kt pt] (.Tuple [a, b] k2 pt2) X.env = pure (some [x, y])) :
    PS X (.Assign [.Tuple [.Name x px, .Name y py] kt pt] (.Tuple [a, b] k2 pt2) pos) (tS A E fun σ S => (fa σ S).thn σ fun x S => (fb σ S).thn σ fun y S => .nx ((σ.set i (some x)).set j (some y)) S) :=
  PSi (ps_par hc hN hi hj hij hx hy (pa_cons ha (pa_cons hb pa_nil s2) s1) hw) fun D σ H ⟨m, S, σD, R, Rs, p⟩ =>
    ⟨m, S, σD, R, Rs, p.thn.mono fun x H1 ⟨m1, S1, d, e1, R1, rx, p1⟩ => ⟨m1, S1, σD, R1, Rs.mono e1, p1.thn.mono fun y H2 ⟨m2, S2, d2, e2, R2, ry, p2⟩ =>
      ⟨x, y, rfl, p2 m2 H2 _ Ext.refl R2 (((Rs.mono (e1.trans e2)).set (rx.mono e2) i).set ry j)⟩⟩⟩
theorem ss_fld {cI : Nat} {n : Str} (cl : Cls X.K (A.cl cI)) (na : NoAttr X.K (A.cl cI) n) (ho : PE X o (tE A E fo)) (he : PE X e (tE A E fe)) (hs : swapsWith e (some (.Attribute o n pos')) pos.line X.env = pure false) :
    PS X (.Assign [.Attribute o n pos'] e pos) (tS A E fun σ S => (fe σ S).thn σ fun d S => (fo σ S).thn σ fun x S => match putSem x cI n d S with | some S' => .nx σ S' | none => .bad) :=
  PSi (ps_fld ho he hs) fun D σ H ⟨m, S, σD, R, Rs, p⟩ => ⟨m, S, σD, R, Rs, p.thn.mono fun y H1 ⟨m1, S1, d, e1, R1, ry, p1⟩ => ⟨m1, S1, σD, R1, Rs.mono e1, p1.thn.mono fun x H2 ⟨m2, S2, dx, e2, R2, rx, p2⟩ => by
    cases hc : putSem dx cI n d S2 with
    | none => rw [hc] at p2; exact p2.elim
    | some S' =>
      rw [hc] at p2
      cases rx with
      | @loc i ad ei =>
        simp only [putSem] at hc
        split at hc
        · rename_i c' fs hx
          split at hc
          · rename_i hcc
            obtain ⟨rfl, hl⟩ := hcc
            cases hc
            obtain ⟨a1, dx, ws, m1', g1, l1⟩ := R2.ins hx
            rw [ei] at m1'; cases m1'
            have ex : Ext A m2 H2 m2 (upd H2 ad (.ins (A.cl c') dx (putF n y ws))) := Ext.write g1 (fun _ z => by cases z) fun _ _ z => by cases z
            have R' := R2.write (c := .ins c' (putA n d fs)) ei ex (.ins upd_same (RepK.mono ex (RepK.putA (ry.mono e2) l1)))
            exact ⟨_, _, dx, ws, rfl, g1, cl, na, by rw [RepK.length l1]; exact hl, p2 m2 _ σ ex R' ((Rs.mono (e1.trans e2)).mono ex)⟩
          · cases hc
        · cases hc
      | _ => cases hc⟩⟩
theorem assign_sub {o i : Expr} {pos : Pos} {env : Env} (h : notSlice i = true) : ∀ v, assign (.Subscript o i pos) env v = (do
      let ov ← holding [v] (eval o env)
      let iv ← holding [v, ov] (eval i env)
      standAt pos
      holding [v, ov, iv] (setItem ov iv v)
      release [v, ov, iv] []) := by
  intro v
  cases i <;> first | rfl | cases h
theorem ss_sub (hn : notSlice i = true) (hu : X.A.units + 1 < cLine) (ho : PE X o (tE A E fo)) (hi : PE X i (tE A E fi)) (he : PE X e (tE A E fe)) (hs : swapsWithSole [.Subscript o i pos'] e pos.line X.env = pure false) (hw : swappedStores [.Subscript o i pos'] e X.env = pure none) :
    PS X (.Assign [.Subscript o i pos'] e pos) (tS A E fun σ S => (fe σ S).thn σ fun d S => (fo σ S).thn σ fun x S => (fi σ S).thn σ fun y S => match setSem x y d S with | some S' => .nx σ S' | none => .bad) :=
  PSi (ps_asg he (pg_sub ho hi (seti_ok (A := A) hu) (assign_sub hn)) hs hw) fun D σ H ⟨m, S, σD, R, Rs, p⟩ => ⟨m, S, σD, R, Rs, p.thn.mono fun d H1 ⟨m1, S1, dd, e1, R1, rd, p1⟩ =>
    ⟨m1, S1, σD, R1, Rs.mono e1, p1.thn.mono fun x H2 ⟨m2, S2, dx, e2, R2, rx, p2⟩ => ⟨m2, S2, σD, R2, Rs.mono (e1.trans e2), p2.thn.mono fun y H3 ⟨m3, S3, dy, e3, R3, ry, p3⟩ => by
      refine ⟨m3, S3, dx, dy, dd, R3, rx.mono e3, ry, rd.mono (e2.trans e3), ?_⟩
      cases hc : setSem dx dy dd S3 with
      | none => rw [hc] at p3; exact p3.elim
      | some S' =>
        rw [hc] at p3
        exact fun m4 H4 e4 R4 => p3 m4 H4 σ e4 R4 (Rs.mono (((e1.trans e2).trans e3).trans e4))⟩⟩⟩
theorem ss_aug {x : Str} {k : Nat} {op : Operator} {h : Int → Int → Int} (hN : X.N.Nodup) (hi : X.N[k]? = some x) (hx : Loc X.env.scope x) (he : PE X e (tE A E fe)) (ho : PIp X op (ipI h)) (hf : X.fn x = true ∨ X.env.scope.names.lookup x = some .local)
    {F : D → D → Sl → Sto → OutS} (hF : ∀ x y σ S, (∃ a b, x = .int a ∧ y = .int b ∧ F x y σ S = .nx (σ.set k (some (.int (h a b)))) S) ∨ F x y σ S = .bad) :
    PS X (.AugAssign (.Name x pos') op e pos) (tS A E fun σ S => match σ[k]? with
      | some (some x) => (fe σ S).thn σ fun y S => F x y σ S
      | _ => .bad) :=
  PSi (ps_aug hN hi hx he ho hf) fun D σ H ⟨m, S, σD, R, Rs, p⟩ => by
    dsimp only at p
    split at p
    · rename_i d hd
      obtain ⟨v, h1, h2⟩ := Rs.2 k d hd
      refine ⟨v, h1, m, S, σD, R, Rs, p.thn.mono fun y H1 ⟨m1, S1, dy, e1, R1, ry, p1⟩ => ?_⟩
      rcases hF d dy σD S1 with ⟨a, b, rfl, rfl, z⟩ | z
      · rw [z] at p1
        cases h2; cases ry
        exact ⟨a, b, rfl, rfl, p1 m1 H1 _ Ext.refl R1 ((Rs.mono e1).set (.int _) k)⟩
      · rw [z] at p1; exact p1.elim
    · exact p.elim
theorem ss_exp (he : PE X e (tE A E fe)) (hs : swapsWith e none pos.line X.env = pure false) : PS X (.Expr e pos) (tS A E fun σ S => (fe σ S).thn σ fun _ S => .nx σ S) :=
  PSi (ps_expr he hs) fun D σ H ⟨m, S, σD, R, Rs, p⟩ => ⟨m, S, σD, R, Rs, p.thn.mono fun x H1 ⟨m1, S1, d, e1, R1, rx, p1⟩ => p1 m1 H1 σ Ext.refl R1 (Rs.mono e1)⟩
theorem ss_ret (he : PE X e (tE A E fe)) : PS X (.Return (some e) pos) (tS A E fun σ S => (fe σ S).thn σ fun d S => .rt d S) :=
  PSi (ps_ret he) fun D σ H ⟨m, S, σD, R, Rs, p⟩ => ⟨m, S, σD, R, Rs, p.thn.mono fun x H1 ⟨m1, S1, d, e1, R1, rx, p1⟩ => p1 m1 H1 x Ext.refl R1 rx⟩
theorem ss_retN : PS X (.Return none pos) (tS A E fun _ S => .rt .non S) := PSi ps_retN fun D σ H ⟨m, S, σD, R, Rs, p⟩ => p m H .non Ext.refl R .non
theorem ss_pass : PS X (.Pass pos) (tS A E fun σ S => .nx σ S) := PSi ps_pass fun D σ H ⟨m, S, σD, R, Rs, p⟩ => p m H σ Ext.refl R Rs
theorem ss_brk : PS X (.Break pos) (tS A E fun σ S => .bk σ S) := PSi ps_break fun D σ H ⟨m, S, σD, R, Rs, p⟩ => p m H σ Ext.refl R Rs
theorem ss_cnt : PS X (.Continue pos) (tS A E fun σ S => .ct σ S) := PSi ps_continue fun D σ H ⟨m, S, σD, R, Rs, p⟩ => p m H σ Ext.refl R Rs
theorem ss_ite {sa sb : List Stmt} (hc : PT X c (tT A E fc)) (ha : PSs X sa (tS A E f)) (hb : PSs X sb (tS A E g)) :
    PS X (.If c sa sb pos) (tS A E fun σ S => (tstO (fc σ S)).thn σ fun t S => if t = true then f σ S else g σ S) :=
  PSi (ps_if hc ha hb) fun D σ H ⟨m, S, σD, R, Rs, p⟩ => ⟨m, S, σD, R, Rs, p.tst.mono fun x H1 ⟨m1, S1, e1, R1, p1⟩ => by
    cases x with
    | true => exact iteT ⟨m1, S1, σD, R1, Rs.mono e1, p1⟩
    | false => exact iteF ⟨m1, S1, σD, R1, Rs.mono e1, p1⟩⟩
theorem ss_whl {sb : List Stmt} (hp : PassesOwn (model X.prog X.w) X.A X.env X.xe) (hc : PT X c (tT A E fc)) (hb : PSs X sb (tS A E f)) :
    PS X (.While c sb [] pos) (tS A E fun σ S => whl (fun σ S => tstO (fc σ S)) f σ S) :=
  PSi (ps_while hp hc hb) fun D σ H ⟨m, S, σD, R, Rs, p⟩ => by
    dsimp only at p
    unfold whl at p
    split at p
    · rename_i hn
      refine ⟨fun k σ H => ∃ m S σD, Rep A m S H ∧ RepS A m H σD σ ∧ PostS A E m H (whlN (fun σ S => tstO (fc σ S)) f k σD S) D, ⟨_, m, S, σD, R, Rs, p⟩, ?_⟩
      rintro k σ1 H1 ⟨m1, S1, σ1D, R1, Rs1, p1⟩
      cases k with
      | zero => exact p1.elim
      | succ k =>
        unfold whlN at p1
        refine ⟨m1, S1, σ1D, R1, Rs1, p1.tst.mono fun x H2 ⟨m2, S2, e2, R2, p2⟩ => ?_⟩
        cases x with
        | false => exact iteF (p2 m2 H2 σ1 Ext.refl R2 (Rs1.mono e2))
        | true =>
          refine iteT ⟨_, fun σ' H' hN => ⟨k, Nat.lt_succ_self k, hN⟩, m2, S2, σ1D, R2, Rs1.mono e2, ?_⟩
          have p3 : PostS A E m2 H2 (match f σ1D S2 with
            | .nx σ' S' => whlN (fun σ S => tstO (fc σ S)) f k σ' S'
            | .ct σ' S' => whlN (fun σ S => tstO (fc σ S)) f k σ' S'
            | .bk σ' S' => .nx σ' S'
            | x => x) D := p2
          revert p3
          cases f σ1D S2 with
          | nx σ3 S3 => exact fun p3 m4 H4 σ4 e4 R4 Rs4 => ⟨m4, S3, σ3, R4, Rs4, PostS.base p3 e4⟩
          | ct σ3 S3 => exact fun p3 m4 H4 σ4 e4 R4 Rs4 => ⟨m4, S3, σ3, R4, Rs4, PostS.base p3 e4⟩
          | bk σ3 S3 => exact fun p3 => p3
          | rt d S3 => exact fun p3 => p3
          | err c fs σ3 S3 => exact fun p3 => p3
          | bad => exact fun p3 => p3
    · exact p.elim
theorem ss_for {tg : Expr} {t : Tg} {it : Expr} {sb : List Stmt} {fi : Sl → Sto → Out Walk} (hK : A.K = X.K) (hp : PassesOwn (model X.prog X.w) X.A X.env X.xe) (hc : X.calm = true) (hi : PI X tg it (tI A E fi)) (hg : PG X tg (gOf X.K t)) (hb : PSs X sb (tS A E f))
    (hs : ∀ x, foldedSetIterable it X.env x = pure x) : PS X (.For tg it sb [] pos) (tS A E fun σ S => (fi σ S).thn σ fun w S => forN w t f (wlen w S) 0 σ S) :=
  PSi (ps_for hp hc hi hg hb hs) fun D σ H ⟨m, S, σD, R, Rs, p⟩ => ⟨m, S, σD, R, Rs, p.thn.mono fun J H1 ⟨m1, S1, w, e1, R1, rj, p1⟩ => by
    refine ⟨fun i k σ H => ∃ m S σD, Ext A m1 H1 m H ∧ Rep A m S H ∧ RepS A m H σD σ ∧ PostS A E m H (forN w t f k i σD S) D, ⟨wlen w S1, m1, S1, σD, Ext.refl, R1, Rs.mono e1, p1⟩, ?_⟩
    rintro i k σ2 H2 ⟨m2, S2, σ2D, e2, R2, Rs2, p2⟩
    have z := rj i m2 S2 H2 e2 R2
    cases hw : wgo w i S2 with
    | none =>
      exfalso
      cases k with
      | zero => simp only [forN, hw] at p2; exact p2
      | succ k => simp only [forN, hw] at p2; exact p2
    | some o =>
      rw [hw] at z
      cases o with
      | none =>
        refine .inl ⟨z, ?_⟩
        cases k with
        | zero => simp only [forN, hw] at p2; exact p2 m2 H2 σ2 Ext.refl R2 Rs2
        | succ k => simp only [forN, hw] at p2; exact p2 m2 H2 σ2 Ext.refl R2 Rs2
      | some d =>
        cases k with
        | zero => simp only [forN, hw] at p2; exact p2.elim
        | succ k =>
          obtain ⟨z1, z2⟩ := z
          refine .inr ⟨z1, _, fun σ' H' hN => ⟨k, Nat.lt_succ_self k, hN⟩, fun x H3 hy => ?_⟩
          obtain ⟨e3, R3, rx⟩ := z2 x H3 hy
          have p3 := PostS.base p2 e3
          simp only [forN, hw] at p3
          cases hs : setTg t d σ2D with
          | none => rw [hs] at p3; exact p3.elim
          | some σ' =>
            rw [hs] at p3
            dsimp only at p3
            refine gOf_in hK (fun _ => True) _ hs rx (Rs2.mono e3) (fun _ _ _ _ _ => trivial) trivial fun σ4 Rs4 _ => ?_
            refine ⟨m2, S2, σ', R3, Rs4, ?_⟩
            revert p3
            cases f σ' S2 with
            | nx σ5 S5 => exact fun p3 m6 H6 σ6 e6 R6 Rs6 => ⟨m6, S5, σ5, (e2.trans e3).trans e6, R6, Rs6, PostS.base p3 e6⟩
            | ct σ5 S5 => exact fun p3 m6 H6 σ6 e6 R6 Rs6 => ⟨m6, S5, σ5, (e2.trans e3).trans e6, R6, Rs6, PostS.base p3 e6⟩
            | bk σ5 S5 => exact fun p3 => p3
            | rt d S5 => exact fun p3 => p3
            | err c fs σ5 S5 => exact fun p3 => p3
            | bad => exact fun p3 => p3⟩
theorem ss_rai {c : Nat} {x ms : Str} {j : Nat} {p p2 p3 pos2 : Pos} (hc : X.calm = true) (tk : Takes X (fun cls d _ H => E cls d H)) (q : PySem.W.excIn X.K (A.cl c) [.type "ValueError", .type "Exception", .type "BaseException", .type "object"] "ValueError.__new__" = true)
    (gC : X.mg x = some (.ref (A.cl c))) (kC : PySem.W.keepIn X.K (.ref (A.cl c)) = true) (r : Raises X (.ref (A.cl c))) (hg : Gl X x) (hdb : (x == ("__debug__" : Str)) = false) :
    PS X (.Raise (some (.Call (.Name x p) [.Constant (.str ms) j p2] [] p3)) none pos2) (tS A E fun σ S => .err c none σ S) :=
  PSi (ps_raise hc tk (pmk_own PySem.F.excBase_ValueError q gC kC r hg hdb)) fun D σ H ⟨m, S, σD, R, Rs, p⟩ => p m H none Ext.refl R .no
/-! two subscripts stored at once -/
theorem swaps_subs {a i b j : Expr} {p1 p2 p3 : Pos} {kt : Nat} {v : Expr} {env : Env} : swappedStores [.Tuple [.Subscript a i p1, .Subscript b j p2] kt p3] v env = pure none := by
  cases v <;> first | rfl | skip
  rename_i vs k2 p4
  unfold swappedStores
  dsimp only
  split
  · rfl
  · split
    · rfl
    · rfl
theorem ss_sub2 {o1 i1 o2 i2 e1 e2 : Expr} {p1 p2 pt pv : Pos} {kt kv : Nat} {f1 g1 f2 g2 h1 h2 : Sl → Sto → Out D} (hK : A.K = X.K) (hc : X.calm = true) (hu : X.A.units + 1 < cLine) (n1 : notSlice i1 = true) (n2 : notSlice i2 = true)
    (ho1 : PE X o1 (tE A E f1)) (hi1 : PE X i1 (tE A E g1)) (ho2 : PE X o2 (tE A E f2)) (hi2 : PE X i2 (tE A E g2)) (he1 : PE X e1 (tE A E h1)) (he2 : PE X e2 (tE A E h2))
    (s1 : starEach [e1, e2] X.env = (false, eval e1 X.env) :: starEach [e2] X.env) (s2 : starEach [e2] X.env = (false, eval e2 X.env) :: starEach [] X.env) :
    PS X (.Assign [.Tuple [.Subscript o1 i1 p1, .Subscript o2 i2 p2] kt pt] (.Tuple [e1, e2] kv pv) pos) (tS A E fun σ S => (h1 σ S).thn σ fun d1 S => (h2 σ S).thn σ fun d2 S => (f1 σ S).thn σ fun x1 S => (g1 σ S).thn σ fun y1 S => match setSem x1 y1 d1 S with
      | some S => (f2 σ S).thn σ fun x2 S => (g2 σ S).thn σ fun y2 S => match setSem x2 y2 d2 S with | some S => .nx σ S | none => .bad
      | none => .bad) := by
  refine PSi (ps_asg (pe_tup (pa_cons he1 (pa_cons he2 pa_nil s2) s1)) (pg_tup hc (pgs_cons (pg_sub ho1 hi1 (seti_ok (A := A) hu) (assign_sub n1)) (pgs_cons (pg_sub ho2 hi2 (seti_ok (A := A) hu) (assign_sub n2)) pgs_nil))) rfl swaps_subs) fun D σ H ⟨m, S, σD, R, Rs, p⟩ => ?_
  refine ⟨m, S, σD, R, Rs, p.thn.mono fun v1 H1 ⟨m1, S1, d1, e1, R1, r1, p1⟩ => ⟨m1, S1, σD, R1, Rs.mono e1, p1.thn.mono fun v2 H2 ⟨m2, S2, d2, e2, R2, r2, p2⟩ => ⟨by show 2 ≤ sizeLine; decide, fun q hq => ?_⟩⟩⟩
  obtain ⟨R3, e3, r3⟩ := newTup R2 (ds := [d1, d2]) (vs := [v1, v2]) (.cons (r1.mono e2) (.cons r2 .nil)) hq
  have Rs3 := Rs.mono ((e1.trans e2).trans e3)
  refine ⟨q, [v1, v2], rfl, .inl (.inl upd_same), rfl, v1, [v2], rfl, m2, S2, σD, R3, Rs3, (PostS.base p2 e3).thn.mono fun x H4 ⟨m4, S4, dx, e4, R4, rx, p4⟩ => ⟨m4, S4, σD, R4, Rs3.mono e4, p4.thn.mono fun y H5 ⟨m5, S5, dy, e5, R5, ry, p5⟩ => ?_⟩⟩
  refine ⟨m5, S5, dx, dy, d1, R5, rx.mono e5, ry, r1.mono (((e2.trans e3).trans e4).trans e5), ?_⟩
  cases hs : setSem dx dy d1 S5 with
  | none => rw [hs] at p5; exact p5.elim
  | some S6 =>
    rw [hs] at p5
    intro m6 H6 e6 R6
    have Rs6 := Rs3.mono ((e4.trans e5).trans e6)
    refine ⟨v2, [], rfl, m6, S6, σD, R6, Rs6, (PostS.base p5 e6).thn.mono fun x2 H7 ⟨m7, S7, dx2, e7, R7, rx2, p7⟩ => ⟨m7, S7, σD, R7, Rs6.mono e7, p7.thn.mono fun y2 H8 ⟨m8, S8, dy2, e8, R8, ry2, p8⟩ => ?_⟩⟩
    refine ⟨m8, S8, dx2, dy2, d2, R8, rx2.mono e8, ry2, r2.mono (((((e3.trans e4).trans e5).trans e6).trans e7).trans e8), ?_⟩
    cases hs2 : setSem dx2 dy2 d2 S8 with
    | none => rw [hs2] at p8; exact p8.elim
    | some S9 =>
      rw [hs2] at p8
      exact fun m9 H9 e9 R9 => ⟨rfl, p8 m9 H9 σ e9 R9 (Rs6.mono ((e7.trans e8).trans e9))⟩
theorem ss_par3 {c : Expr} {fc : Sl → Sto → Out D} {x y z : Str} {i j l : Nat} {px py pz pt pt2 : Pos} {kt k2 : Nat} (hc : X.calm = true) (hN : X.N.Nodup) (hi : X.N[i]? = some x) (hj : X.N[j]? = some y) (hl : X.N[l]? = some z) (hij : i ≠ j) (hil : i ≠ l) (hjl : j ≠ l)
    (hx : X.env.scope.names.lookup x = some .local) (hy : X.env.scope.names.lookup y = some .local) (hz : X.env.scope.names.lookup z = some .local) (ha : PE X a (tE A E fa)) (hb : PE X b (tE A E fb)) (hcc : PE X c (tE A E fc))
    (s1 : starEach [a, b, c] X.env = (false, eval a X.env) :: starEach [b, c] X.env) (s2 : starEach [b, c] X.env = (false, eval b X.env) :: starEach [c] X.env) (s3 : starEach [c] X.env = (false, eval c X.env) :: starEach [] X.env)
    (hw : swappedStores [.Tuple [.Name x px, .Name y py, .Name z pz] kt pt] (.Tuple [a, b, c] k2 pt2) X.env = pure (some [x, y, z])) :
    PS X (.Assign [.Tuple [.Name x px, .Name y py, .Name z pz] kt pt] (.Tuple [a, b, c] k2 pt2) pos) (tS A E fun σ S => (fa σ S).thn σ fun x S => (fb σ S).thn σ fun y S => (fc σ S).thn σ fun z S => .nx (((σ.set i (some x)).set j (some y)).set l (some z)) S) :=
  PSi (ps_par3 hc hN hi hj hl hij hil hjl hx hy hz (pa_cons ha (pa_cons hb (pa_cons hcc pa_nil s3) s2) s1) hw) fun D σ H ⟨m, S, σD, R, Rs, p⟩ =>
    ⟨m, S, σD, R, Rs, p.thn.mono fun x H1 ⟨m1, S1, d, e1, R1, rx, p1⟩ => ⟨m1, S1, σD, R1, Rs.mono e1, p1.thn.mono fun y H2 ⟨m2, S2, d2, e2, R2, ry, p2⟩ =>
      ⟨m2, S2, σD, R2, Rs.mono (e1.trans e2), p2.thn.mono fun z H3 ⟨m3, S3, d3, e3, R3, rz, p3⟩ =>
      ⟨x, y, z, rfl, p3 m3 H3 _ Ext.refl R3 ((((Rs.mono ((e1.trans e2).trans e3)).set (rx.mono (e2.trans e3)) i).set (ry.mono e3) j).set rz l)⟩⟩⟩⟩
/-! three subscripts stored at once -/
theorem swaps_subs3 {a i b j c l : Expr} {p1 p2 p3 p4 : Pos} {kt : Nat} {v : Expr} {env : Env} : swappedStores [.Tuple [.Subscript a i p1, .Subscript b j p2, .Subscript c l p4] kt p3] v env = pure none := by
  cases v <;> first | rfl | skip
  rename_i vs k2 p4
  unfold swappedStores
  dsimp only
  split
  · rfl
  · split
    · rfl
    · rfl
theorem ss_sub3 {o1 i1 o2 i2 o3 i3 e1 e2 e3 : Expr} {p1 p2 p3 pt pv : Pos} {kt kv : Nat} {f1 g1 f2 g2 f3 g3 h1 h2 h3 : Sl → Sto → Out D} (hK : A.K = X.K) (hc : X.calm = true) (hu : X.A.units + 1 < cLine) (n1 : notSlice i1 = true) (n2 : notSlice i2 = true) (n3 : notSlice i3 = true)
    (ho1 : PE X o1 (tE A E f1)) (hi1 : PE X i1 (tE A E g1)) (ho2 : PE X o2 (tE A E f2)) (hi2 : PE X i2 (tE A E g2)) (ho3 : PE X o3 (tE A E f3)) (hi3 : PE X i3 (tE A E g3)) (he1 : PE X e1 (tE A E h1)) (he2 : PE X e2 (tE A E h2)) (he3 : PE X e3 (tE A E h3))
    (s1 : starEach [e1, e2, e3] X.env = (false, eval e1 X.env) :: starEach [e2, e3] X.env) (s2 : starEach [e2, e3] X.env = (false, eval e2 X.env) :: starEach [e3] X.env) (s3 : starEach [e3] X.env = (false, eval e3 X.env) :: starEach [] X.env) :
    PS X (.Assign [.Tuple [.Subscript o1 i1 p1, .Subscript o2 i2 p2, .Subscript o3 i3 p3] kt pt] (.Tuple [e1, e2, e3] kv pv) pos) (tS A E fun σ S => (h1 σ S).thn σ fun d1 S => (h2 σ S).thn σ fun d2 S => (h3 σ S).thn σ fun d3 S => (f1 σ S).thn σ fun x1 S => (g1 σ S).thn σ fun y1 S => match setSem x1 y1 d1 S with
      | some S => (f2 σ S).thn σ fun x2 S => (g2 σ S).thn σ fun y2 S => match setSem x2 y2 d2 S with
        | some S => (f3 σ S).thn σ fun x3 S => (g3 σ S).thn σ fun y3 S => match setSem x3 y3 d3 S with | some S => .nx σ S | none => .bad
        | none => .bad
      | none => .bad) := by
  refine PSi (ps_asg (pe_tup (pa_cons he1 (pa_cons he2 (pa_cons he3 pa_nil s3) s2) s1)) (pg_tup hc (pgs_cons (pg_sub ho1 hi1 (seti_ok (A := A) hu) (assign_sub n1)) (pgs_cons (pg_sub ho2 hi2 (seti_ok (A := A) hu) (assign_sub n2)) (pgs_cons (pg_sub ho3 hi3 (seti_ok (A := A) hu) (assign_sub n3)) pgs_nil)))) rfl swaps_subs3) fun D σ H ⟨m, S, σD, R, Rs, p⟩ => ?_
  refine ⟨m, S, σD, R, Rs, p.thn.mono fun v1 H1 ⟨m1, S1, d1, x1, R1, r1, p1⟩ => ⟨m1, S1, σD, R1, Rs.mono x1, p1.thn.mono fun v2 H2 ⟨m2, S2, d2, x2, R2, r2, p2⟩ => ⟨m2, S2, σD, R2, Rs.mono (x1.trans x2), p2.thn.mono fun v3 H3 ⟨m3, S3, d3, x3, R3, r3, p3⟩ => ⟨by show 3 ≤ sizeLine; decide, fun q hq => ?_⟩⟩⟩⟩
  obtain ⟨R4, x4, r4⟩ := newTup R3 (ds := [d1, d2, d3]) (vs := [v1, v2, v3]) (.cons (r1.mono (x2.trans x3)) (.cons (r2.mono x3) (.cons r3 .nil))) hq
  have a1 := r1.mono ((x2.trans x3).trans x4)
  have a2 := r2.mono (x3.trans x4)
  have a3 := r3.mono x4
  have Rs4 := Rs.mono (((x1.trans x2).trans x3).trans x4)
  refine ⟨q, [v1, v2, v3], rfl, .inl (.inl upd_same), rfl, v1, [v2, v3], rfl, m3, S3, σD, R4, Rs4, (PostS.base p3 x4).thn.mono fun x H5 ⟨m5, S5, dx, x5, R5, rx, p5⟩ => ⟨m5, S5, σD, R5, Rs4.mono x5, p5.thn.mono fun y H6 ⟨m6, S6, dy, x6, R6, ry, p6⟩ => ?_⟩⟩
  refine ⟨m6, S6, dx, dy, d1, R6, rx.mono x6, ry, a1.mono (x5.trans x6), ?_⟩
  cases hs : setSem dx dy d1 S6 with
  | none => rw [hs] at p6; exact p6.elim
  | some S7 =>
    rw [hs] at p6
    intro m7 H7 x7 R7
    have b2 := a2.mono ((x5.trans x6).trans x7)
    have b3 := a3.mono ((x5.trans x6).trans x7)
    have Rs7 := Rs4.mono ((x5.trans x6).trans x7)
    refine ⟨v2, [v3], rfl, m7, S7, σD, R7, Rs7, (PostS.base p6 x7).thn.mono fun xx H8 ⟨m8, S8, dx2, x8, R8, rx2, p8⟩ => ⟨m8, S8, σD, R8, Rs7.mono x8, p8.thn.mono fun yy H9 ⟨m9, S9, dy2, x9, R9, ry2, p9⟩ => ?_⟩⟩
    refine ⟨m9, S9, dx2, dy2, d2, R9, rx2.mono x9, ry2, b2.mono (x8.trans x9), ?_⟩
    cases hs2 : setSem dx2 dy2 d2 S9 with
    | none => rw [hs2] at p9; exact p9.elim
    | some S10 =>
      rw [hs2] at p9
      intro m10 H10 x10 R10
      have c3 := b3.mono ((x8.trans x9).trans x10)
      have Rs10 := Rs7.mono ((x8.trans x9).trans x10)
      refine ⟨v3, [], rfl, m10, S10, σD, R10, Rs10, (PostS.base p9 x10).thn.mono fun xx H11 ⟨m11, S11, dx3, x11, R11, rx3, p11⟩ => ⟨m11, S11, σD, R11, Rs10.mono x11, p11.thn.mono fun yy H12 ⟨m12, S12, dy3, x12, R12, ry3, p12⟩ => ?_⟩⟩
      refine ⟨m12, S12, dx3, dy3, d3, R12, rx3.mono x12, ry3, c3.mono (x11.trans x12), ?_⟩
      cases hs3 : setSem dx3 dy3 d3 S12 with
      | none => rw [hs3] at p12; exact p12.elim
      | some S13 =>
        rw [hs3] at p12
        exact fun m14 H14 x14 R14 => ⟨rfl, p12 m14 H14 σ x14 R14 (Rs10.mono ((x11.trans x12).trans x14))⟩
/-! raising an own exception that keeps a value -/
theorem ss_raiF {c : Nat} {x f : Str} {BC fI : Addr} {fd : FuncData} {ps : List Str} {p p3 pos2 : Pos} (hc : X.calm = true) (tk : Takes X (fun cls d _ H => E cls d H)) (T : Xin X.K (A.cl c) BC fI f)
    (F1 : FnOk X.prog X.w X.K X.mg X.base (L2.CX X.prog X.w) 1 fI fd ps (spIni (A.cl c) f)) (hr : Room 2 X.A) (hb : Binds X.K fd ps []) (hg : Gl X x) (hm : X.mg x = some (.ref (A.cl c))) (he : PE X e (tE A E fe)) (hdb : (x == ("__debug__" : Str)) = false)
    (hs : starEach [e] X.env = (false, eval e X.env) :: starEach [] X.env) :
    PS X (.Raise (some (.Call (.Name x p) [e] [] p3)) none pos2) (tS A E fun σ S => (fe σ S).thn σ fun d S => .err c (some [(f, d)]) σ S) :=
  PSi (ps_raise hc tk (pmk_oex T.oex T.ini T.tI F1 hr hb .nil (passes_call tk fun _ _ _ _ h => h.elim) hg hm (pa_cons he pa_nil hs) hdb hs rfl)) fun D σ H ⟨m, S, σD, R, Rs, p⟩ => ⟨m, S, σD, R, Rs, p.thn.mono fun v H1 ⟨m1, S1, d, e1, R1, rv, p1⟩ => by
    refine ⟨by show 1 ≤ 1000; decide, fun a ha => ⟨a, v, rfl, upd_same, fun dx hdx hne => ⟨rfl, dx, [(f, v)], upd_same, ?_, ?_, ?_⟩⟩⟩
    · rw [upd_ne hne]; exact upd_same
    · rw [← hdx, upd_ne hne]
    · have h1 : H1 dx = none := by rw [← hdx, upd_ne hne]
      have eq : upd (del (upd (upd (upd H1 a (exo a (A.cl c) none)) dx (exd dx [(f, v)])) a (exo a (A.cl c) (some dx))) a) dx (.xd [(f, v)]) = upd H1 dx (.xd [(f, v)]) := by
        funext b
        by_cases c1 : b = dx
        · rw [c1, upd_same, upd_same]
        · rw [upd_ne c1, upd_ne c1]
          by_cases c2 : b = a
          · rw [c2, del_same, ha]
          · rw [del_ne c2, upd_ne c2, upd_ne c1, upd_ne c2]
      rw [eq]
      have ex : Ext A m1 H1 m1 (upd H1 dx (.xd [(f, v)])) := Ext.new h1
      exact p1 m1 _ (some dx) ex (R1.new h1) (.so upd_same (.cons ⟨rfl, rv.mono ex⟩ .nil))⟩
/-! try: .. except X as n: return (lit, n.f) -/
theorem takes_len {X : Cx} {W : WX} (t : Takes X W) : Takes X (fun cls d _ H => ∀ σ, σ.length = X.N.length → W cls d σ H) :=
  fun u s' ⟨a, B, sI, pins, σ, H, cls, d, e, I, nb, up, sky, na, os, ag, w⟩ => t u s' ⟨a, B, sI, pins, σ, H, cls, d, e, I, nb, up, sky, na, os, ag, w σ I.len⟩
theorem ss_try1 {c i : Nat} {x n f lit : Str} {BC fI : Addr} {np pos' pr pt pc pa pn2 : Pos} {kt kc : Nat} {body : List Stmt} {fb : Sl → Sto → OutS} (T : Xin X.K (A.cl c) BC fI f) (hs : X.stack = X.env :: X.outer) (hf : X.env.frame = some X.env.locals) (hN : X.N.Nodup) (hi : X.N[i]? = some n)
    (hln : X.env.scope.names.lookup n = some .local) (hg : Gl X x) (hm : X.mg x = some (.ref (A.cl c))) (hdb : (x == ("__debug__" : Str)) = false) (hnd : (n == ("__debug__" : Str)) = false) (hnc : (n == ("__classdict__" : Str)) = false) (tk : Takes X (fun cls d _ H => E cls d H))
    (hb : ∀ (E' : XK) (pn : List (Addr × Obj)) (xe : Value → Shared → Prop), Takes (X.tr pn xe) (fun cls d _ H => E' cls d H) → PassesOwn (model X.prog X.w) X.A X.env xe → PSs (X.tr pn xe) body (tS A E' fb)) :
    PS X (.Try body [.ExceptHandler (some (.Name x np)) (some n) [.Return (some (.Tuple [.Constant (.str lit) kc pc, .Attribute (.Name n pn2) f pa] kt pt)) pr] pos'] [] [] pos) (tS A E fun σ S => match fb σ S with
      | .err c' fs _ S' => if c' = c then (match fs with
        | some l => match l.lookup f with
          | some d => .rt (.tup [.str lit, d]) S'
          | none => .bad
        | none => .bad) else .bad
      | x => x) := by
  refine PSi (ps_try_as (c := .ref (A.cl c)) (tb := fun W => tS A (fun cls d H => ∀ σ, σ.length = X.N.length → W cls d σ H) fb)
    (ts := fun a cls d => tRet (tTup (tCons (tC (.str lit)) (tCons (tXf a cls d (A.cl c) f (tVar i)) tNil)))) hs hf hN hi hln ⟨hg, hdb, .inl hm⟩ tk (fun W pn xe h1 h2 => hb _ pn xe (takes_len h1) h2)
    (fun a oe cls d pn hz hfl => pss_one (ps_ret (pe_tup (pa_cons pe_str (pa_cons (pe_xf T.xf T.no hz hfl (pe_var hi (.inl hln) hnd hnc)) pa_nil)))))) fun D σ H ⟨m, S, σD, R, Rs, p⟩ => ⟨m, S, σD, R, Rs, ?_⟩
  revert p
  dsimp only
  cases fb σD S with
  | nx σ1 S1 => exact fun p => p
  | rt d S1 => exact fun p => p
  | bk σ1 S1 => exact fun p => p
  | ct σ1 S1 => exact fun p => p
  | bad => exact fun p => p
  | err c' fs σ1 S1 =>
    intro p
    dsimp only at p
    split at p
    · rename_i hcc
      subst hcc
      split at p
      · rename_i l
        split at p
        · rename_i d hd
          intro m1 H1 dd e1 R1 rx σ2 hl
          cases rx with
          | @so _ dx ws g1 l1 =>
            refine ⟨true, T.exm, fun _ a ha => ?_, fun h => by cases h⟩
            obtain ⟨d', v, h1, h2, h3⟩ | ⟨h1, _⟩ := l1.lookup (f := f)
            · rw [hd] at h1; cases h1
              have hlt : i < σ2.length := by rw [hl]; exact (List.getElem?_eq_some_iff.mp hi).1
              refine ⟨.ref a, by rw [List.getElem?_set_self hlt], rfl, rfl, dx, ws, v, rfl, g1, h2, by show 2 ≤ sizeLine; decide, fun q hq => ?_⟩
              obtain ⟨R2, e2, r2⟩ := newTup R1 (ds := [.str lit, d]) (vs := [.str lit, v]) (.cons (.str _) (.cons h3 .nil)) hq
              exact p m1 _ _ (e1.trans e2) R2 r2
            · rw [hd] at h1; cases h1
        · exact p.elim
      · exact p.elim
    · exact p.elim
end
end DI

set_option Elab.async false
set_option linter.all false
set_option maxRecDepth 100000
set_option maxHeartbeats 4000000
/-! A walk over a dict's keys: the dict is locked meanwhile. -/
namespace DI
open L2 PySem PySem.Spec PyProof.Rows
/-- what stays of a heap but for locks -/
structure Ext0 (A : Ad) (m : List Addr) (H H' : Hp) : Prop where
  tup : ∀ a xs, SqT A.K H a xs → SqT A.K H' a xs
  rol : ∀ a xs, RoL A.K H a xs → RoL A.K H' a xs
section
variable {A : Ad} {m m' : List Addr} {H H' : Hp}
mutual
theorem RepD.mono0 (e : Ext0 A m H H') : ∀ {d : D} {v : V}, RepD A m H d v → RepD A m H' d v
  | _, _, .non => .non
  | _, _, .bl b => .bl b
  | _, _, .int i => .int i
  | _, _, .str x => .str x
  | _, _, .ty n => .ty n
  | _, _, .tup h l => .tup (e.tup _ _ h) (RepL.mono0 e l)
  | _, _, .rl h l => .rl (e.rol _ _ h) (RepL.mono0 e l)
  | _, _, .loc h => .loc h
  | _, _, .fn j => .fn j
  | _, _, .cl j => .cl j
  | _, _, .rd h g r => .rd h g (RepR.mono0 e r)
theorem RepR.mono0 (e : Ext0 A m H H') : ∀ {a : Addr} {kvs : List (Str × D)}, RepR A m H a kvs → RepR A m H' a kvs
  | _, _, .nil => .nil
  | _, _, .cons h g r t => .cons h g (RepD.mono0 e r) (RepR.mono0 e t)
theorem RepL.mono0 (e : Ext0 A m H H') : ∀ {ds : List D} {vs : List V}, RepL A m H ds vs → RepL A m H' ds vs
  | _, _, .nil => .nil
  | _, _, .cons a b => .cons (RepD.mono0 e a) (RepL.mono0 e b)
end
theorem RepK.mono0 {κ : Type} (e : Ext0 A m H H') : ∀ {kvs : List (κ × D)} {ws : List (κ × V)}, RepK A m H kvs ws → RepK A m H' kvs ws
  | _, _, .nil => .nil
  | _, _, .cons a b => .cons ⟨a.1, a.2.mono0 e⟩ (RepK.mono0 e b)
theorem RepC.mono0 {a : Addr} {c : Cell} (r : RepC A m H a c) (e : Ext0 A m H H') (h : H' a = H a) : RepC A m H' a c := by
  cases r with
  | lst x l => exact .lst (h.trans x) (l.mono0 e)
  | dk x l => exact .dk (h.trans x) (RepK.mono0 e l)
  | dt x l => exact .dt (h.trans x) (RepK.mono0 e l)
  | ins x l => exact .ins (h.trans x) (RepK.mono0 e l)
  | fk x l => exact .fk (h.trans x) (RepK.mono0 e l)
/-- a lock is taken away -/
theorem Ext0.unlock {d : Addr} {od : Obj} {ws : List (Key × V)} (h : H d = some (.frz od (.dK ws))) : Ext0 A m H (upd H d (.dK ws)) where
  tup := fun a xs q => by
    rcases q with (q | ⟨o, q⟩) | q
    · exact .inl (.inl (by rw [upd_ne (fun z => by rw [z, h] at q; cases q)]; exact q))
    · exact .inl (.inr ⟨o, by rw [upd_ne (fun z => by rw [z, h] at q; cases q)]; exact q⟩)
    · exact .inr q
  rol := fun a xs q => by
    rcases q with ⟨o, q⟩ | q
    · exact .inl ⟨o, by rw [upd_ne (fun z => by rw [z, h] at q; cases q)]; exact q⟩
    · exact .inr q
theorem RepS.mono0 {σD : Sl} {σ : L2.St} (h : RepS A m H σD σ) (e : Ext0 A m H H') : RepS A m H' σD σ := ⟨h.1, fun i d x => let ⟨v, a, b⟩ := h.2 i d x; ⟨v, a, b.mono0 e⟩⟩
/-- behind the walk -/
theorem unlock_rep {S S' : Sto} {i : Nat} {d : Addr} {od : Obj} {kvs kvs' : List (Key × D)} {ws : List (Key × V)} (R : Rep A m S H) (hi : m[i]? = some d) (hd : H d = some (.dK ws)) (hk : RepK A m H kvs ws)
    (e : Ext A m (upd H d (.frz od (.dK ws))) m' H') (R' : Rep A m' S' H') (hs : S'[i]? = some (.fk kvs')) :
    H' d = some (.frz od (.dK ws)) ∧ Ext0 A m' H' (upd H' d (.dK ws)) ∧ Ext A m H m' (upd H' d (.dK ws)) ∧ Rep A m' (S'.set i (.dk kvs)) (upd H' d (.dK ws)) := by
  have hl : H' d = some (.frz od (.dK ws)) := e.frz d od _ upd_same
  have e0 : Ext0 A m' H' (upd H' d (.dK ws)) := Ext0.unlock hl
  have ew : Ext A m H m (upd H d (.frz od (.dK ws))) := Ext.write hd (fun _ z => by cases z) fun _ _ z => by cases z
  have ex := ew.trans e
  have hi' : m'[i]? = some d := e.loc i d hi
  have ef : Ext A m H m' (upd H' d (.dK ws)) := ⟨ex.loc, fun a xs q => e0.tup _ _ (ex.tup _ _ q), fun a xs q => e0.rol _ _ (ex.rol _ _ q), fun a o u q => by
    rw [upd_ne (fun z => by rw [z, hd] at q; cases q)]; exact ex.frz a o u q⟩
  refine ⟨hl, e0, ef, ⟨fun j c hc => ?_, by rw [List.length_set]; exact R'.len, R'.nd⟩⟩
  by_cases hj : i = j
  · subst hj
    rw [List.getElem?_set_self (List.getElem?_eq_some_iff.mp hs).1] at hc
    cases hc
    exact ⟨d, hi', .dk upd_same (RepK.mono ef hk)⟩
  · rw [List.getElem?_set_ne hj] at hc
    obtain ⟨a, h1, h2⟩ := R'.cell j c hc
    refine ⟨a, h1, h2.mono0 e0 (upd_ne fun z => hj ?_)⟩
    subst z
    exact nd_ix R'.nd hi' h1
end
section
variable {X : Cx} {A : Ad} {E : XK} {f : Sl → Sto → OutS}
theorem for_in {fi : Sl → Sto → Out Walk} {t : Tg} (hK : A.K = X.K) : ∀ D σ H, tS A E (fun σ S => (fi σ S).thn σ fun w S => forN w t f (wlen w S) 0 σ S) D σ H → tFor (tI A E fi) (gOf X.K t) (tS A E f) D σ H := by
  intro D σ H ⟨m, S, σD, R, Rs, p⟩
  refine ⟨m, S, σD, R, Rs, p.thn.mono fun J H1 ⟨m1, S1, w, e1, R1, rj, p1⟩ => ?_⟩
  refine ⟨fun i k σ H => ∃ m S σD, Ext A m1 H1 m H ∧ Rep A m S H ∧ RepS A m H σD σ ∧ PostS A E m H (forN w t f k i σD S) D, ⟨wlen w S1, m1, S1, σD, Ext.refl, R1, Rs.mono e1, p1⟩, ?_⟩
  rintro i k σ2 H2 ⟨m2, S2, σ2D, e2, R2, Rs2, p2⟩
  have z := rj i m2 S2 H2 e2 R2
  cases hw : wgo w i S2 with
  | none =>
    exfalso
    cases k with
    | zero => simp only [forN, hw] at p2; exact p2
    | succ k => simp only [forN, hw] at p2; exact p2
  | some o =>
    rw [hw] at z
    cases o with
    | none =>
      refine .inl ⟨z, ?_⟩
      cases k with
      | zero => simp only [forN, hw] at p2; exact p2 m2 H2 σ2 Ext.refl R2 Rs2
      | succ k => simp only [forN, hw] at p2; exact p2 m2 H2 σ2 Ext.refl R2 Rs2
    | some d =>
      cases k with
      | zero => simp only [forN, hw] at p2; exact p2.elim
      | succ k =>
        obtain ⟨z1, z2⟩ := z
        refine .inr ⟨z1, _, fun σ' H' hN => ⟨k, Nat.lt_succ_self k, hN⟩, fun x H3 hy => ?_⟩
        obtain ⟨e3, R3, rx⟩ := z2 x H3 hy
        have p3 := PostS.base p2 e3
        simp only [forN, hw] at p3
        cases hs : setTg t d σ2D with
        | none => rw [hs] at p3; exact p3.elim
        | some σ' =>
          rw [hs] at p3
          dsimp only at p3
          refine gOf_in hK (fun _ => True) _ hs rx (Rs2.mono e3) (fun _ _ _ _ _ => trivial) trivial fun σ4 Rs4 _ => ?_
          refine ⟨m2, S2, σ', R3, Rs4, ?_⟩
          revert p3
          cases f σ' S2 with
          | nx σ5 S5 => exact fun p3 m6 H6 σ6 e6 R6 Rs6 => ⟨m6, S5, σ5, (e2.trans e3).trans e6, R6, Rs6, PostS.base p3 e6⟩
          | ct σ5 S5 => exact fun p3 m6 H6 σ6 e6 R6 Rs6 => ⟨m6, S5, σ5, (e2.trans e3).trans e6, R6, Rs6, PostS.base p3 e6⟩
          | bk σ5 S5 => exact fun p3 => p3
          | rt d S5 => exact fun p3 => p3
          | err c fs σ5 S5 => exact fun p3 => p3
          | bad => exact fun p3 => p3
/-- the keys of a locked dict -/
def fiK (v : Nat) (σ : Sl) (S : Sto) : Out Walk :=
  match σ[v]? with
  | some (some (.loc a)) => match S[a]? with
    | some (.fk kvs) => .ok (.vs (kvs.map fun kv => keyD' kv.1)) S
    | _ => .bad
  | _ => .bad
theorem pk_get {m : List Addr} {H : Hp} : ∀ {kvs : List (Key × D)} {ws : List (Key × V)} {i : Nat} {k : Key} {d : D}, RepK A m H kvs ws → kvs[i]? = some (k, d) → ∃ v, ws[i]? = some (k, v)
  | _, _, _, _, _, .nil, h => by simp at h
  | _, (k', v') :: _, 0, _, _, .cons a _, h => by
    rw [List.getElem?_cons_zero] at h
    cases h
    obtain ⟨e, _⟩ := a
    cases e
    exact ⟨v', rfl⟩
  | _, _, i + 1, _, _, .cons _ b, h => by
    rw [List.getElem?_cons_succ] at h ⊢
    exact pk_get b h
theorem rj_keys {m0 : List Addr} {H0 : Hp} {d : Addr} {o : Obj} {kvs : List (Key × D)} {ws : List (Key × V)} (h : H0 d = some (.frz o (.dK ws))) (l : RepK A m0 H0 kvs ws) : RJ A m0 H0 (.vs (kvs.map fun kv => keyD' kv.1)) (Itk d o ws) := by
  intro j m S H ex R
  have h' := ex.frz _ _ _ h
  have hl := RepK.length l
  show match some (kvs.map fun kv => keyD' kv.1)[j]? with
    | some none => (Itk d o ws).stop j H
    | some (some e) => (Itk d o ws).go j H ∧ ∀ x H', (Itk d o ws).yld j H x H' → Ext A m H m H' ∧ Rep A m S H' ∧ RepD A m H' e x
    | none => True
  rw [List.getElem?_map]
  cases hj : kvs[j]? with
  | none => exact ⟨h', by have := List.getElem?_eq_none_iff.mp hj; omega⟩
  | some e =>
    obtain ⟨k, dv⟩ := e
    obtain ⟨v, hv⟩ := pk_get l hj
    refine ⟨⟨h', by have := (List.getElem?_eq_some_iff.mp hj).1; omega⟩, fun x H' y => ?_⟩
    obtain ⟨rfl, k', v', h1, rfl⟩ := y
    rw [hv] at h1
    cases h1
    refine ⟨Ext.refl, R, ?_⟩
    cases k with
    | inl i => exact .int i
    | inr z => exact .str z
theorem pi_k {tg e : Expr} {v : Nat} (he : PE X e (tVar v)) : PI X tg e (tI A E (fiK v)) := by
  refine PIi (pi_keys he) fun σ H Q ⟨m, S, σD, R, Rs, p⟩ => ?_
  unfold fiK at p
  split at p
  · rename_i a hv
    obtain ⟨x, h1, h2⟩ := Rs.2 _ _ hv
    split at p
    · rename_i kvs hk
      obtain ⟨d, od, ws, g1, g2, g3⟩ := R.fk hk
      cases h2 with
      | loc ea =>
        rw [ea] at g1; cases g1
        exact ⟨_, h1, d, od, rfl, .inl ⟨ws, g2, p.ok R (rj_keys g2 g3)⟩⟩
    · exact p.elim
  · exact p.elim
theorem ss_forK {tg e : Expr} {t : Nat} {v : Nat} {sb : List Stmt} {pos : Pos} (hK : A.K = X.K) (hp : PassesOwn (model X.prog X.w) X.A X.env X.xe) (hc : X.calm = true) (he : PE X e (tVar v)) (hg : PG X tg (gOf X.K (.nm t))) (hb : PSs X sb (tS A E f))
    (hs : ∀ x, foldedSetIterable e X.env x = pure x) : PS X (.For tg e sb [] pos) (tS A E fun σ S => match σ[v]? with
      | some (some (.loc a)) => match S[a]? with
        | some (.dk kvs) => unfk a kvs (forN (.vs (kvs.map fun kv => keyD' kv.1)) (.nm t) f kvs.length 0 σ (S.set a (.fk kvs)))
        | _ => .bad
      | _ => .bad) := by
  refine PSi (ps_lock (ps_for hp hc (pi_k (A := A) (E := E) he) hg hb hs)) fun D σ H ⟨m, S, σD, R, Rs, p⟩ => ?_
  dsimp only at p
  split at p
  · rename_i a hv
    split at p
    · rename_i kvs hk
      obtain ⟨x, h1, h2⟩ := Rs.2 _ _ hv
      cases h2 with
      | loc ea =>
      rename_i d
      obtain ⟨d', ws, g1, g2, g3⟩ := R.dk hk
      rw [ea] at g1; cases g1
      refine ⟨d, .dK ws, g2, trivial, fun od => for_in hK _ _ _ ?_⟩
      have ew : Ext A m H m (upd H d (.frz od (.dK ws))) := Ext.write g2 (fun _ z => by cases z) fun _ _ z => by cases z
      have R1 : Rep A m (S.set a (.fk kvs)) (upd H d (.frz od (.dK ws))) := R.write ea ew (.fk upd_same (RepK.mono ew g3))
      refine ⟨m, _, σD, R1, Rs.mono ew, ?_⟩
      have hf : fiK v σD (S.set a (.fk kvs)) = .ok (.vs (kvs.map fun kv => keyD' kv.1)) (S.set a (.fk kvs)) := by
        unfold fiK
        rw [hv]
        dsimp only
        rw [List.getElem?_set_self (List.getElem?_eq_some_iff.mp hk).1]
      show PostS A E m _ ((fiK v σD (S.set a (.fk kvs))).thn σD fun w S => forN w (.nm t) f (wlen w S) 0 σD S) _
      rw [hf]
      show PostS A E m _ (forN (.vs (kvs.map fun kv => keyD' kv.1)) (.nm t) f (wlen (.vs (kvs.map fun kv => keyD' kv.1)) (S.set a (.fk kvs))) 0 σD (S.set a (.fk kvs))) _
      have hl : wlen (.vs (kvs.map fun kv => keyD' kv.1)) (S.set a (.fk kvs)) = kvs.length := by
        show (kvs.map fun kv => keyD' kv.1).length = _
        rw [List.length_map]
      rw [hl]
      revert p
      cases forN (.vs (kvs.map fun kv => keyD' kv.1)) (.nm t) f kvs.length 0 σD (S.set a (.fk kvs)) with
      | nx σ1 S1 =>
        intro p
        unfold unfk at p
        dsimp only at p
        split at p
        · rename_i kvs' hs'
          intro m1 H1 σ' e1 R' Rs'
          obtain ⟨q1, q2, q3, q4⟩ := unlock_rep R ea g2 g3 e1 R' hs'
          exact ⟨q1, p m1 _ σ' q3 q4 (Rs'.mono0 q2)⟩
        · exact p.elim
      | rt d1 S1 =>
        intro p
        unfold unfk at p
        dsimp only at p
        split at p
        · rename_i kvs' hs'
          intro m1 H1 v' e1 R' rv
          obtain ⟨q1, q2, q3, q4⟩ := unlock_rep R ea g2 g3 e1 R' hs'
          exact ⟨q1, p m1 _ v' q3 q4 (rv.mono0 q2)⟩
        · exact p.elim
      | bk σ1 S1 => exact fun p => p.elim
      | ct σ1 S1 => exact fun p => p.elim
      | err c fs σ1 S1 => exact fun p => p.elim
      | bad => exact fun p => p.elim
    · exact p.elim
  · exact p.elim
end
end DI

set_option Elab.async false
set_option linter.all false
set_option maxRecDepth 100000
set_option maxHeartbeats 4000000
/-! Every text of the language does what the language says: statements, defs. -/
namespace DI
open L2 PySem PySem.Spec PyProof.Rows
def notComp : Expr → Bool | .ListComp _ _ _ _ => false | .SetComp _ _ _ _ => false | .DictComp _ _ _ _ _ => false | _ => true
def isLc : Expr → Bool | .ListComp _ _ _ _ => true | _ => false
def isLoc (sc : Scope) (x : Str) : Bool := match sc.names.lookup x with | some .local => true | _ => false
def isCel (sc : Scope) (x : Str) : Bool := match sc.names.lookup x with | some .cell => true | _ => false
def isFun (sc : Scope) : Bool := match sc.kind with | .function => true | _ => false
/-- x = v: how it is stored -/
def okSet (cc : CC) (x : Str) (p : Pos) : Expr → Bool
  | .ListComp _ _ scope vp => (isFun cc.sc && isLoc cc.sc x && (p.line == vp.line) && !(scope.names.any fun (n, k) => n == x && (k == .local || k == .cell))) || isCel cc.sc x
  | v => notComp v
def notTup : Expr → Bool | .Tuple _ _ _ => false | _ => true
/-- a tuple display that is stored as a tuple -/
def okTup (sc : Scope) (ts : List Expr) : Expr → Bool
  | .Tuple vs _ _ => decide (4 ≤ ts.length) || vs.all (foldedForSure 8) || (ts.any fun t => match t with | .Name x _ => isCel sc x | _ => false)
  | _ => true
/-! a statement's shape -/
def asNm : Stmt → Option (Str × Pos × Expr × Pos) | .Assign [.Name x p] v pos => some (x, p, v, pos) | _ => none
def asTu : Stmt → Option (List Expr × Nat × Pos × Expr × Pos) | .Assign [.Tuple ts k p] v pos => some (ts, k, p, v, pos) | _ => none
def asP2 : Stmt → Option ((Str × Pos × Str × Pos × Nat × Pos) × (Expr × Expr × Nat × Pos) × Pos) | .Assign [.Tuple [.Name x px, .Name y py] k p] (.Tuple [v, w] k2 p2) pos => some ((x, px, y, py, k, p), (v, w, k2, p2), pos) | _ => none
def asAt : Stmt → Option (Expr × Str × Pos × Expr × Pos) | .Assign [.Attribute o f p] v pos => some (o, f, p, v, pos) | _ => none
def asSu : Stmt → Option (Expr × Expr × Pos × Expr × Pos) | .Assign [.Subscript o i p] v pos => some (o, i, p, v, pos) | _ => none
def agNm : Stmt → Option (Str × Pos × Operator × Expr × Pos) | .AugAssign (.Name x p) op v pos => some (x, p, op, v, pos) | _ => none
def asRa : Stmt → Option (Str × Pos × (Str × Nat × Pos) × Pos × Pos) | .Raise (some (.Call (.Name y p) [.Constant (.str m) j p2] [] p3)) none p4 => some (y, p, (m, j, p2), p3, p4) | _ => none
theorem asNm_eq {st : Stmt} {x : Str} {p : Pos} {v : Expr} {pos : Pos} (h : asNm st = some (x, p, v, pos)) : st = .Assign [.Name x p] v pos := by
  unfold asNm at h; split at h <;> cases h; rfl
theorem asTu_eq {st : Stmt} {ts : List Expr} {k : Nat} {p : Pos} {v : Expr} {pos : Pos} (h : asTu st = some (ts, k, p, v, pos)) : st = .Assign [.Tuple ts k p] v pos := by
  unfold asTu at h; split at h <;> cases h; rfl
theorem asP2_eq {st : Stmt} {x y : Str} {px py p p2 pos : Pos} {k k2 : Nat} {v w : Expr} (h : asP2 st = some ((x, px, y, py, k, p), (v, w, k2, p2), pos)) : st = .Assign [.Tuple [.Name x px, .Name y py] k p] (.Tuple [v, w] k2 p2) pos := by
  unfold asP2 at h; split at h <;> cases h; rfl
theorem asAt_eq {st : Stmt} {o : Expr} {f : Str} {p : Pos} {v : Expr} {pos : Pos} (h : asAt st = some (o, f, p, v, pos)) : st = .Assign [.Attribute o f p] v pos := by
  unfold asAt at h; split at h <;> cases h; rfl
theorem asSu_eq {st : Stmt} {o i : Expr} {p : Pos} {v : Expr} {pos : Pos} (h : asSu st = some (o, i, p, v, pos)) : st = .Assign [.Subscript o i p] v pos := by
  unfold asSu at h; split at h <;> cases h; rfl
theorem agNm_eq {st : Stmt} {x : Str} {p : Pos} {op : Operator} {v : Expr} {pos : Pos} (h : agNm st = some (x, p, op, v, pos)) : st = .AugAssign (.Name x p) op v pos := by
  unfold agNm at h; split at h <;> cases h; rfl
theorem asRa_eq {st : Stmt} {y m : Str} {p p2 p3 p4 : Pos} {j : Nat} (h : asRa st = some (y, p, (m, j, p2), p3, p4)) : st = .Raise (some (.Call (.Name y p) [.Constant (.str m) j p2] [] p3)) none p4 := by
  unfold asRa at h; split at h <;> cases h; rfl
def asRf : Stmt → Option (Str × Pos × Expr × Pos × Pos) | .Raise (some (.Call (.Name y p) [v] [] p3)) none p4 => some (y, p, v, p3, p4) | _ => none
theorem asRf_eq {st : Stmt} {y : Str} {v : Expr} {p p3 p4 : Pos} (h : asRf st = some (y, p, v, p3, p4)) : st = .Raise (some (.Call (.Name y p) [v] [] p3)) none p4 := by
  unfold asRf at h; split at h <;> cases h; rfl
structure TrD where
  body : List Stmt
  y : Str
  np : Pos
  n : Str
  lit : Str
  kc : Nat
  pc : Pos
  n2 : Str
  pn2 : Pos
  f : Str
  pa : Pos
  kt : Nat
  pt : Pos
  pr : Pos
  pos' : Pos
  pos : Pos
def asTr : Stmt → Option TrD
  | .Try body [.ExceptHandler (some (.Name y np)) (some n) [.Return (some (.Tuple [.Constant (.str lit) kc pc, .Attribute (.Name n2 pn2) f pa] kt pt)) pr] pos'] [] [] pos => some ⟨body, y, np, n, lit, kc, pc, n2, pn2, f, pa, kt, pt, pr, pos', pos⟩
  | _ => none
theorem asTr_eq {st : Stmt} {d : TrD} (h : asTr st = some d) : st = .Try d.body [.ExceptHandler (some (.Name d.y d.np)) (some d.n) [.Return (some (.Tuple [.Constant (.str d.lit) d.kc d.pc, .Attribute (.Name d.n2 d.pn2) d.f d.pa] d.kt d.pt)) d.pr] d.pos'] [] [] d.pos := by
  unfold asTr at h; split at h <;> cases h; rfl
structure S2D where
  o1 : Expr
  i1 : Expr
  p1 : Pos
  o2 : Expr
  i2 : Expr
  p2 : Pos
  kt : Nat
  pt : Pos
  e1 : Expr
  e2 : Expr
  kv : Nat
  pv : Pos
  pos : Pos
def asS2 : Stmt → Option S2D
  | .Assign [.Tuple [.Subscript o1 i1 p1, .Subscript o2 i2 p2] kt pt] (.Tuple [e1, e2] kv pv) pos => some ⟨o1, i1, p1, o2, i2, p2, kt, pt, e1, e2, kv, pv, pos⟩
  | _ => none
theorem asS2_eq {st : Stmt} {d : S2D} (h : asS2 st = some d) : st = .Assign [.Tuple [.Subscript d.o1 d.i1 d.p1, .Subscript d.o2 d.i2 d.p2] d.kt d.pt] (.Tuple [d.e1, d.e2] d.kv d.pv) d.pos := by
  unfold asS2 at h; split at h <;> cases h; rfl
structure S3D where
  o1 : Expr
  i1 : Expr
  p1 : Pos
  o2 : Expr
  i2 : Expr
  p2 : Pos
  o3 : Expr
  i3 : Expr
  p3 : Pos
  kt : Nat
  pt : Pos
  e1 : Expr
  e2 : Expr
  e3 : Expr
  kv : Nat
  pv : Pos
  pos : Pos
def asS3 : Stmt → Option S3D
  | .Assign [.Tuple [.Subscript o1 i1 p1, .Subscript o2 i2 p2, .Subscript o3 i3 p3] kt pt] (.Tuple [e1, e2, e3] kv pv) pos => some ⟨o1, i1, p1, o2, i2, p2, o3, i3, p3, kt, pt, e1, e2, e3, kv, pv, pos⟩
  | _ => none
theorem asS3_eq {st : Stmt} {d : S3D} (h : asS3 st = some d) : st = .Assign [.Tuple [.Subscript d.o1 d.i1 d.p1, .Subscript d.o2 d.i2 d.p2, .Subscript d.o3 d.i3 d.p3] d.kt d.pt] (.Tuple [d.e1, d.e2, d.e3] d.kv d.pv) d.pos := by
  unfold asS3 at h; split at h <;> cases h; rfl
structure P3D where
  x : Str
  px : Pos
  y : Str
  py : Pos
  z : Str
  pz : Pos
  kt : Nat
  pt : Pos
  e1 : Expr
  e2 : Expr
  e3 : Expr
  kv : Nat
  pv : Pos
  pos : Pos
def asP3 : Stmt → Option P3D
  | .Assign [.Tuple [.Name x px, .Name y py, .Name z pz] kt pt] (.Tuple [e1, e2, e3] kv pv) pos => some ⟨x, px, y, py, z, pz, kt, pt, e1, e2, e3, kv, pv, pos⟩
  | _ => none
theorem asP3_eq {st : Stmt} {d : P3D} (h : asP3 st = some d) : st = .Assign [.Tuple [.Name d.x d.px, .Name d.y d.py, .Name d.z d.pz] d.kt d.pt] (.Tuple [d.e1, d.e2, d.e3] d.kv d.pv) d.pos := by
  unfold asP3 at h; split at h <;> cases h; rfl
def chkV (cc : CC) (v : Nat) : Expr → Bool
  | .Name y _ => decide (cc.N[v]? = some y) && vis cc.sc y && noDbg y
  | _ => false
def asRe : Stmt → Option (Expr × Pos) | .Return (some v) pos => some (v, pos) | _ => none
def asRn : Stmt → Option Pos | .Return none pos => some pos | _ => none
def asWh : Stmt → Option (Expr × List Stmt × Pos) | .While t x [] pos => some (t, x, pos) | _ => none
def asFo : Stmt → Option (Expr × Expr × List Stmt × Pos) | .For t i x [] pos => some (t, i, x, pos) | _ => none
theorem asRe_eq {st : Stmt} {v : Expr} {pos : Pos} (h : asRe st = some (v, pos)) : st = .Return (some v) pos := by
  unfold asRe at h; split at h <;> cases h; rfl
theorem asRn_eq {st : Stmt} {pos : Pos} (h : asRn st = some pos) : st = .Return none pos := by
  unfold asRn at h; split at h <;> cases h; rfl
theorem asWh_eq {st : Stmt} {t : Expr} {x : List Stmt} {pos : Pos} (h : asWh st = some (t, x, pos)) : st = .While t x [] pos := by
  unfold asWh at h; split at h <;> cases h; rfl
theorem asFo_eq {st : Stmt} {t i : Expr} {x : List Stmt} {pos : Pos} (h : asFo st = some (t, i, x, pos)) : st = .For t i x [] pos := by
  unfold asFo at h; split at h <;> cases h; rfl
mutual
def chkS (cc : CC) : Sm → Stmt → Bool
  | .set i e, st => match asNm st with
    | some (x, p, v, _) => decide (cc.N[i]? = some x) && lcl cc x && okSet cc x p v && chk cc e v
    | none => false
  | .setT is e, st => match asTu st with
    | some (ts, _, _, v, _) => chkNms cc is ts && okTup cc.sc ts v && chk cc e v
    | none => false
  | .par i j a b, st => match asP2 st with
    | some ((x, px, y, py, _, _), (v, w, _, _), _) => decide (cc.N[i]? = some x) && decide (cc.N[j]? = some y) && decide (i ≠ j) && decide (x ≠ y) && isFun cc.sc && isLoc cc.sc x && isLoc cc.sc y && (px.line == py.line) &&
      !([v, w].all (foldedForSure 8)) && !([v, w].all (constantsAlone 8)) && notStar v && notStar w && chk cc a v && chk cc b w
    | none => false
  | .fld c o f e, st => match asAt st with
    | some (oe, f', _, v, _) => decide (f = f') && decide (c ∈ cc.pn.cls) && decide ((c, f) ∈ cc.pn.flds) && chk cc o oe && chk cc e v
    | none => false
  | .sub o i e, st => match asSu st with
    | some (oe, ie, _, v, _) => notSlice ie && chk cc o oe && chk cc i ie && chk cc e v
    | none => false
  | .aug i op e, st => match agNm st with
    | some (x, _, op', v, _) => decide (op = op') && (decide (op = .Add) || decide (op = .Sub)) && decide (cc.N[i]? = some x) && lcl cc x && chk cc e v
    | none => false
  | .exp e, .Expr v _ => notComp v && chk cc e v
  | .ret e, st => match asRe st with
    | some (v, _) => chk cc e v
    | none => false
  | .retN, st => (asRn st).isSome
  | .ite c a b, .If t x y _ => chk cc c t && chkSs cc a x && chkSs cc b y
  | .whl c b, st => match asWh st with
    | some (t, x, _) => chk cc c t && chkSs cc b x
    | none => false
  | .for_ tg it b, st => match asFo st with
    | some (t, i, x, _) => chkTg cc tg t && chkI cc it t i && notSet i && chkSs cc b x
    | none => false
  | .pass, .Pass _ => true
  | .brk, .Break _ => true
  | .cnt, .Continue _ => true
  | .rai c x, st => match asRa st with
    | some (y, _) => decide (x = y) && decide ((c, x) ∈ cc.pn.xcs) && glb cc.sc x && noDbg x
    | none => false
  | .raiF c x f e, st => match asRf st with
    | some (y, _, v, _) => decide (x = y) && decide ((c, x, f) ∈ cc.pn.xns) && glb cc.sc x && noDbg x && notStar v && chk cc e v
    | none => false
  | .try1 b c x i f lit, st => match asTr st with
    | some d => cc.stm && decide (x = d.y) && decide (f = d.f) && decide (lit = d.lit) && decide (d.n = d.n2) && decide ((c, x, f) ∈ cc.pn.xns) && decide (cc.N[i]? = some d.n) && isLoc cc.sc d.n && glb cc.sc x && noDbg x && noDbg d.n && chkSs cc b d.body
    | none => false
  | .forK i v b, st => match asFo st with
    | some (t, e, x, _) => chkTg cc (.nm i) t && chkV cc v e && chkSs cc b x
    | none => false
  | .par3 i j l a b c, st => match asP3 st with
    | some d => decide (cc.N[i]? = some d.x) && decide (cc.N[j]? = some d.y) && decide (cc.N[l]? = some d.z) && decide (i ≠ j ∧ i ≠ l ∧ j ≠ l) && decide (d.x ≠ d.y ∧ d.x ≠ d.z ∧ d.y ≠ d.z) && isFun cc.sc && isLoc cc.sc d.x && isLoc cc.sc d.y && isLoc cc.sc d.z && (d.px.line == d.py.line) && (d.px.line == d.pz.line) &&
      !([d.e1, d.e2, d.e3].all (foldedForSure 8)) && !([d.e1, d.e2, d.e3].all (constantsAlone 8)) && notStar d.e1 && notStar d.e2 && notStar d.e3 && chk cc a d.e1 && chk cc b d.e2 && chk cc c d.e3
    | none => false
  | .sub3 o1 i1 o2 i2 o3 i3 a b c, st => match asS3 st with
    | some d => notSlice d.i1 && notSlice d.i2 && notSlice d.i3 && notStar d.e1 && notStar d.e2 && notStar d.e3 && chk cc o1 d.o1 && chk cc i1 d.i1 && chk cc o2 d.o2 && chk cc i2 d.i2 && chk cc o3 d.o3 && chk cc i3 d.i3 && chk cc a d.e1 && chk cc b d.e2 && chk cc c d.e3
    | none => false
  | .sub2 o1 i1 o2 i2 a b, st => match asS2 st with
    | some d => notSlice d.i1 && notSlice d.i2 && notStar d.e1 && notStar d.e2 && chk cc o1 d.o1 && chk cc i1 d.i1 && chk cc o2 d.o2 && chk cc i2 d.i2 && chk cc a d.e1 && chk cc b d.e2
    | none => false
  | _, _ => false
def chkSs (cc : CC) : Sms → List Stmt → Bool
  | .nil, [] => true
  | .cons s ss, st :: sts => chkS cc s st && chkSs cc ss sts
  | _, _ => false
end
section
variable {A : Ad} {P : Pg} {C : Nat → List D → Sto → Out D} {X : Cx} {E : XK} {k : Nat} {cc : CC}
theorem swap_no {v : Expr} {t : Option Expr} {l : Nat} {env : Env} (h : notComp v = true) : swapsWith v t l env = pure false := by cases v <;> first | rfl | cases h
theorem swap_tup {v : Expr} {ts : List Expr} {kt : Nat} {tp : Pos} {l : Nat} {env : Env} : swapsWithSole [.Tuple ts kt tp] v l env = pure false := by cases v <;> rfl
theorem swap_sub {v o i : Expr} {tp : Pos} {l : Nat} {env : Env} : swapsWithSole [.Subscript o i tp] v l env = pure false := by cases v <;> rfl
theorem swap_att {v o : Expr} {f : Str} {tp : Pos} {l : Nat} {env : Env} : swapsWith v (some (.Attribute o f tp)) l env = pure false := by cases v <;> rfl
theorem swaps_sub {v o i : Expr} {tp : Pos} {env : Env} : swappedStores [.Subscript o i tp] v env = pure none := by cases v <;> rfl
theorem loc_eq {sc : Scope} {x : Str} (h : isLoc sc x = true) : sc.names.lookup x = some .local := by
  unfold isLoc at h; split at h
  · assumption
  · cases h
theorem cel_eq {sc : Scope} {x : Str} (h : isCel sc x = true) : sc.names.lookup x = some .cell := by
  unfold isCel at h; split at h
  · assumption
  · cases h
theorem fun_eq {sc : Scope} (h : isFun sc = true) : sc.kind = .function := by
  unfold isFun at h; split at h
  · assumption
  · cases h
theorem swap_cel {e : Expr} {gs : List Comprehension} {scope : Scope} {vp p : Pos} {x : Str} {l : Nat} {env : Env} (h : env.scope.names.lookup x = some .cell) : swapsWith (.ListComp e gs scope vp) (some (.Name x p)) l env = pure false := by
  have hk : env.kindOf x = some .cell := h
  show (pure (env.blockKind == .function && env.kindOf x == some .local && p.line == vp.line && !(scope.names.any fun (n, k) => n == x && (k == .local || k == .cell))) : Sem Bool) = pure false
  rw [hk]
  congr 1
  have : (some NameKind.cell == some NameKind.local) = false := rfl
  rw [this, Bool.and_false, Bool.false_and, Bool.false_and]
theorem swaps_none {ts : List Expr} {v : Expr} {kt : Nat} {tp : Pos} {env : Env} (h : okTup env.scope ts v = true) : swappedStores [.Tuple ts kt tp] v env = pure none := by
  cases v <;> first | rfl | skip
  rename_i vs k2 p2
  simp only [okTup, Bool.or_eq_true, decide_eq_true_eq] at h
  show (do
    if !(ts.length == 2 || ts.length == 3) || vs.length != ts.length || env.blockKind != .function then return none
    if vs.any fun | .Starred .. => true | _ => false then return none
    let line := (ts.head?.map (·.pos.line)).getD 0
    let names := ts.filterMap fun
      | .Name id pos => if env.kindOf id == some .local && pos.line == line then some id else none
      | _ => none
    if names.length != ts.length || names.eraseDups.length != names.length then return none
    if vs.all (foldedForSure 8) then return none
    if vs.all (constantsAlone 8) then unsupported "assign.tuple-of-constant-expressions:order-of-the-stores"
    return some names : Sem (Option (List Str))) = pure none
  have hn : ∀ line : Nat, (ts.any fun t => match t with | .Name x _ => isCel env.scope x | _ => false) = true → ((ts.filterMap fun
      | .Name id pos => if env.kindOf id == some .local && pos.line == line then some id else none
      | _ => none).length != ts.length) = true := by
    intro line h
    obtain ⟨t, ht, hc⟩ := List.any_eq_true.mp h
    rw [bne_iff_ne]
    intro e
    have := List.filterMap_length_eq_length.mp e t ht
    cases t <;> first | (cases hc; done) | skip
    rename_i x p
    have hk : env.kindOf x = some .cell := cel_eq hc
    dsimp only at this
    rw [hk] at this
    exact absurd this (by simp)
  by_cases c1 : (!(ts.length == 2 || ts.length == 3) || vs.length != ts.length || env.blockKind != .function) = true
  · rw [if_pos c1] <;> rfl
  · rw [if_neg c1]
    rcases h with (h | h) | h
    · exfalso
      apply c1
      have e2 : (ts.length == 2) = false := by rw [beq_eq_false_iff_ne]; omega
      have e3 : (ts.length == 3) = false := by rw [beq_eq_false_iff_ne]; omega
      rw [e2, e3] <;> rfl
    · by_cases c2 : (vs.any fun | .Starred .. => true | _ => false) = true
      · simp only [c2, if_true] <;> rfl
      · simp only [c2, h, if_true]
        split <;> first | rfl | (split <;> rfl)
    · by_cases c2 : (vs.any fun | .Starred .. => true | _ => false) = true
      · simp only [c2, if_true] <;> rfl
      · have z := hn ((ts.head?.map (·.pos.line)).getD 0) h
        simp only [c2, z, Bool.true_or, if_true] <;> rfl
theorem swaps_two {x y : Str} {px py pt pt2 : Pos} {kt k2 : Nat} {v w : Expr} {env : Env} (hxy : x ≠ y) (hf : env.scope.kind = .function) (hx : env.scope.names.lookup x = some .local) (hy : env.scope.names.lookup y = some .local)
    (hl : (px.line == py.line) = true) (h1 : ([v, w].all (foldedForSure 8)) = false) (h2 : ([v, w].all (constantsAlone 8)) = false) (s1 : notStar v = true) (s2 : notStar w = true) :
    swappedStores [.Tuple [.Name x px, .Name y py] kt pt] (.Tuple [v, w] k2 pt2) env = pure (some [x, y]) := by
  have kx : env.kindOf x = some .local := hx
  have ky : env.kindOf y = some .local := hy
  have hb : env.blockKind = .function := by unfold Env.blockKind; rw [hf] <;> rfl
  have es : ([v, w].any fun | .Starred .. => true | _ => false) = false := by
    cases v <;> first | (cases s1; done) | (cases w <;> first | rfl | (cases s2; done))
  have el : (py.line == px.line) = true := by rw [beq_iff_eq] at hl ⊢; exact hl.symm
  show (do
    if !(2 == 2 || 2 == 3) || 2 != 2 || env.blockKind != .function then return none
    if [v, w].any fun | .Starred .. => true | _ => false then return none
    let names := [Expr.Name x px, Expr.Name y py].filterMap fun
      | .Name id pos => if env.kindOf id == some .local && pos.line == px.line then some id else none
      | _ => none
    if names.length != 2 || names.eraseDups.length != names.length then return none
    if [v, w].all (foldedForSure 8) then return none
    if [v, w].all (constantsAlone 8) then unsupported "assign.tuple-of-constant-expressions:order-of-the-stores"
    return some names : Sem (Option (List Str))) = pure (some [x, y])
  have en : ([Expr.Name x px, Expr.Name y py].filterMap fun
      | .Name id pos => if env.kindOf id == some .local && pos.line == px.line then some id else none
      | _ => none) = [x, y] := by
    have el' : py.line = px.line := by simpa using el
    rw [List.filterMap_cons_some (b := x) (by dsimp only; rw [kx]; simp), List.filterMap_cons_some (b := y) (by dsimp only; rw [ky, el']; simp)] <;> rfl
  have ee : ([x, y].eraseDups.length != [x, y].length) = false := by
    have : [x, y].eraseDups = [x, y] := by
      rw [List.eraseDups_cons]
      have : [y].filter (fun b => !b == x) = [y] := by
        have : (y == x) = false := beq_eq_false_iff_ne.mpr (Ne.symm hxy)
        simp [this]
      rw [this] <;> rfl
    rw [this] <;> simp
  rw [hb, es, en]
  simp only [ee, h1, h2]
  rfl
theorem swaps_three {x y z : Str} {px py pz pt pt2 : Pos} {kt k2 : Nat} {v w u : Expr} {env : Env} (hxy : x ≠ y) (hxz : x ≠ z) (hyz : y ≠ z) (hf : env.scope.kind = .function) (hx : env.scope.names.lookup x = some .local) (hy : env.scope.names.lookup y = some .local) (hz : env.scope.names.lookup z = some .local)
    (hl : (px.line == py.line) = true) (hl2 : (px.line == pz.line) = true) (h1 : ([v, w, u].all (foldedForSure 8)) = false) (h2 : ([v, w, u].all (constantsAlone 8)) = false) (s1 : notStar v = true) (s2 : notStar w = true) (s3 : notStar u = true) :
    swappedStores [.Tuple [.Name x px, .Name y py, .Name z pz] kt pt] (.Tuple [v, w, u] k2 pt2) env = pure (some [x, y, z]) := by
  have kx : env.kindOf x = some .local := hx
  have ky : env.kindOf y = some .local := hy
  have kz : env.kindOf z = some .local := hz
  have hb : env.blockKind = .function := by unfold Env.blockKind; rw [hf] <;> rfl
  have es : ([v, w, u].any fun | .Starred .. => true | _ => false) = false := by
    cases v <;> first | (cases s1; done) | (cases w <;> first | (cases s2; done) | (cases u <;> first | rfl | (cases s3; done)))
  show (do
    if !(3 == 2 || 3 == 3) || 3 != 3 || env.blockKind != .function then return none
    if [v, w, u].any fun | .Starred .. => true | _ => false then return none
    let names := [Expr.Name x px, Expr.Name y py, Expr.Name z pz].filterMap fun
      | .Name id pos => if env.kindOf id == some .local && pos.line == px.line then some id else none
      | _ => none
    if names.length != 3 || names.eraseDups.length != names.length then return none
    if [v, w, u].all (foldedForSure 8) then return none
    if [v, w, u].all (constantsAlone 8) then unsupported "assign.tuple-of-constant-expressions:order-of-the-stores"
    return some names : Sem (Option (List Str))) = pure (some [x, y, z])
  have en : ([Expr.Name x px, Expr.Name y py, Expr.Name z pz].filterMap fun
      | .Name id pos => if env.kindOf id == some .local && pos.line == px.line then some id else none
      | _ => none) = [x, y, z] := by
    have el' : py.line = px.line := (beq_iff_eq.mp hl).symm
    have el2 : pz.line = px.line := (beq_iff_eq.mp hl2).symm
    rw [List.filterMap_cons_some (b := x) (by dsimp only; rw [kx]; simp), List.filterMap_cons_some (b := y) (by dsimp only; rw [ky, el']; simp), List.filterMap_cons_some (b := z) (by dsimp only; rw [kz, el2]; simp)] <;> rfl
  have ee : ([x, y, z].eraseDups.length != [x, y, z].length) = false := by
    have : [x, y, z].eraseDups = [x, y, z] := by
      rw [List.eraseDups_cons]
      have q1 : [y, z].filter (fun b => !b == x) = [y, z] := by
        have a1 : (y == x) = false := beq_eq_false_iff_ne.mpr (Ne.symm hxy)
        have a2 : (z == x) = false := beq_eq_false_iff_ne.mpr (Ne.symm hxz)
        simp [a1, a2]
      rw [q1, List.eraseDups_cons]
      have q2 : [z].filter (fun b => !b == y) = [z] := by
        have a1 : (z == y) = false := beq_eq_false_iff_ne.mpr (Ne.symm hyz)
        simp [a1]
      rw [q2] <;> rfl
    rw [this] <;> simp
  rw [hb, es, en]
  simp only [ee, h1, h2]
  rfl
end
end DI

set_option Elab.async false
set_option linter.all false
set_option maxRecDepth 100000
set_option maxHeartbeats 4000000
/-! Statements, defs, programs: each does what the language says. -/
namespace DI
open L2 PySem PySem.Spec PyProof.Rows
section
variable {A : Ad} {P : Pg} {C : Nat → List D → Sto → Out D}
def NS (A : Ad) (P : Pg) (C : Nat → List D → Sto → Out D) (s : Sm) : Prop := ∀ {X : Cx} {E : XK} {k : Nat} {cc : CC} {st : Stmt}, Good A P C X E k cc → chkS cc s st = true → PS X st (tS A E (dS P C s))
def NSs (A : Ad) (P : Pg) (C : Nat → List D → Sto → Out D) (ss : Sms) : Prop := ∀ {X : Cx} {E : XK} {k : Nat} {cc : CC} {sts : List Stmt}, Good A P C X E k cc → chkSs cc ss sts = true → PSs X sts (tS A E (dSs P C ss))
theorem tSeq_ {f g : Sl → Sto → OutS} {X : Cx} {E : XK} {st : Stmt} (h : PS X st (tS A E f)) (e : ∀ σ S, g σ S = f σ S) : PS X st (tS A E g) := by
  have : g = f := by funext σ S; exact e σ S
  rw [this]; exact h
theorem n_set (i : Nat) (e : Ex) : NS A P C (.set i e) := by
  intro X E k cc st G h
  simp only [chkS] at h
  cases ha : asNm st with
  | none => rw [ha] at h; cases h
  | some q =>
    obtain ⟨x, p, v, pos⟩ := q
    rw [ha] at h
    have := asNm_eq ha
    subst this
    clear ha
    simp only [Bool.and_eq_true, decide_eq_true_eq] at h
    obtain ⟨⟨⟨h1, h2⟩, h3⟩, h4⟩ := h
    obtain ⟨l1, l2⟩ := G.lcl h2
    refine tSeq_ (f := fun σ S => (de P C e false σ S).thn σ fun d S => .nx (σ.set i (some d)) S) (ss_set ?_) (fun σ S => by simp only [dS])
    by_cases hv : notComp v = true
    · exact ps_set G.nd (by rw [G.hN]; exact h1) l1 (sE e G h4).1 (swap_no hv) l2
    · cases v <;> first | (exact absurd rfl hv) | skip
      · rename_i elt gs scope vp
        simp only [okSet, Bool.or_eq_true, Bool.and_eq_true] at h3
        rcases h3 with ⟨⟨⟨k1, k2⟩, k3⟩, k4⟩ | k1
        · have hx : X.env.scope.names.lookup x = some .local := by rw [G.sc]; exact loc_eq k2
          cases e <;> (try simp only [chk] at h4) <;> first | (cases h4; done) | skip
          rename_i own tg it ifs el
          match gs, h4 with
          | [⟨t, iter, fs, a⟩], h4 =>
            simp only [chk, Bool.and_eq_true, decide_eq_true_eq] at h4
            obtain ⟨⟨⟨⟨⟨⟨⟨rfl, h1'⟩, h2'⟩, h3'⟩, h4'⟩, h5'⟩, h6'⟩, h7'⟩ := h4
            have hB : BlkOk X.N X.env.scope scope own := by rw [G.hN, G.sc]; exact blkOk_by h1'
            have htg : ∀ i ∈ tg.slots, i ∈ own.map (·.2) := fun i hi => of_decide_eq_true (List.all_eq_true.mp h3' i hi)
            refine PSi (ps_setLc (g := gOf X.K tg) (wi := tI A E (deI P C it)) (tt := tG A EF RE (deT P C ifs)) (te := tE A EF (de P C el false)) G.calm G.nd (by rw [G.hN]; exact h1) hx (sw_true (by rw [G.sc]; exact fun_eq k1) hx k3 (by simpa using k4)) (sI it (tg := t) G h5') hB (fun s H Ca cl fp => s_tg (G.blk s H scope Ca cl fp) h2') (fun s H Ca cl fp => (sEs ifs).2.1 (G.blk s H scope Ca cl fp) h6') (fun s H Ca cl fp => (sE el (G.blk s H scope Ca cl fp) h7').1) (set_ok h4')) ?_
            intro D σ H hw
            refine lc_in G.hK htg σ H _ ?_
            have e1 : de P C (.lc own tg it ifs el) false = fun σ S => (deI P C it σ S).bind fun w S =>
      (lcLoop w tg (wipeD σ (own.map (·.2))) S.length (fun σ S => deT P C ifs σ S) (fun σ S => de P C el false σ S) (wlen w S) 0 (S ++ [.lst []])).bind fun _ S' => .ok (.loc S.length) S' := by funext σ S; simp only [de] <;> rfl
            rw [e1] at hw
            exact hw
          | [], h4 => simp [chk] at h4
          | _ :: _ :: _, h4 => simp [chk] at h4
        · exact ps_set G.nd (by rw [G.hN]; exact h1) l1 (sE e G h4).1 (swap_cel (by rw [G.sc]; exact cel_eq k1)) l2
      · simp only [okSet] at h3; exact absurd h3 hv
      · simp only [okSet] at h3; exact absurd h3 hv
theorem n_setT (is : List Nat) (e : Ex) : NS A P C (.setT is e) := by
  intro X E k cc st G h
  simp only [chkS] at h
  cases hv : asTu st with
  | none => rw [hv] at h; cases h
  | some q =>
    obtain ⟨ts, kt, tp, v, pos⟩ := q
    rw [hv] at h
    have := asTu_eq hv
    subst this
    simp only [Bool.and_eq_true] at h
    obtain ⟨⟨h1, h2⟩, h3⟩ := h
    have hg : chkTg cc (.tp is) (.Tuple ts kt tp) = true := h1
    exact tSeq_ (ss_setT G.hK (sE e G h3).1 (s_tg G hg) swap_tup (swaps_none (by rw [G.sc]; exact h2)) rfl) (fun σ S => by simp only [dS] <;> rfl)
theorem n_par (i j : Nat) (a b : Ex) : NS A P C (.par i j a b) := by
  intro X E k cc st G h
  simp only [chkS] at h
  cases hv : asP2 st with
  | none => rw [hv] at h; cases h
  | some q =>
    obtain ⟨⟨x, px, y, py, kt, tp⟩, ⟨v, w, k2, p2⟩, pos⟩ := q
    rw [hv] at h
    have := asP2_eq hv
    subst this
    simp only [Bool.and_eq_true, decide_eq_true_eq, Bool.not_eq_true'] at h
    obtain ⟨⟨⟨⟨⟨⟨⟨⟨⟨⟨⟨⟨⟨h1, h2⟩, h3⟩, h4⟩, h5⟩, h6⟩, h7⟩, h8⟩, h9⟩, h10⟩, h11⟩, h12⟩, h13⟩, h14⟩ := h
    have hx := loc_eq h6
    have hy := loc_eq h7
    rw [← G.sc] at hx hy
    exact tSeq_ (ss_par G.calm G.nd (by rw [G.hN]; exact h1) (by rw [G.hN]; exact h2) h3 hx hy (sE a G h13).1 (sE b G h14).1 (star_ok h11) (star_ok h12) (swaps_two h4 (by rw [G.sc]; exact fun_eq h5) hx hy h8 h9 h10 h11 h12)) (fun σ S => by simp only [dS])
theorem n_fld (c : Nat) (o : Ex) (f : Str) (e : Ex) : NS A P C (.fld c o f e) := by
  intro X E k cc st G h
  simp only [chkS] at h
  cases hv : asAt st with
  | none => rw [hv] at h; cases h
  | some q =>
    obtain ⟨oe, f', p, v, pos⟩ := q
    rw [hv] at h
    have := asAt_eq hv
    subst this
    simp only [Bool.and_eq_true, decide_eq_true_eq] at h
    obtain ⟨⟨⟨⟨rfl, h1⟩, h2⟩, h3⟩, h4⟩ := h
    exact tSeq_ (ss_fld (G.facts.cls c h1) (G.facts.fld _ h2) (sE o G h3).1 (sE e G h4).1 swap_att) (fun σ S => by simp only [dS] <;> rfl)
theorem n_sub (o i e : Ex) : NS A P C (.sub o i e) := by
  intro X E k cc st G h
  simp only [chkS] at h
  cases hv : asSu st with
  | none => rw [hv] at h; cases h
  | some q =>
    obtain ⟨oe, ie, p, v, pos⟩ := q
    rw [hv] at h
    have := asSu_eq hv
    subst this
    simp only [Bool.and_eq_true] at h
    obtain ⟨⟨⟨h1, h2⟩, h3⟩, h4⟩ := h
    exact tSeq_ (ss_sub h1 (by have := G.hu; omega) (sE o G h2).1 (sE i G h3).1 (sE e G h4).1 swap_sub swaps_sub) (fun σ S => by simp only [dS] <;> rfl)
theorem n_aug (i : Nat) (op : Operator) (e : Ex) : NS A P C (.aug i op e) := by
  intro X E k cc st G h
  simp only [chkS] at h
  cases hv : agNm st with
  | none => rw [hv] at h; cases h
  | some q =>
    obtain ⟨x, p, op', v, pos⟩ := q
    rw [hv] at h
    have := agNm_eq hv
    subst this
    simp only [Bool.and_eq_true, Bool.or_eq_true, decide_eq_true_eq] at h
    obtain ⟨⟨⟨⟨rfl, h1⟩, h2⟩, h3⟩, h4⟩ := h
    obtain ⟨l1, l2⟩ := G.lcl h3
    rcases h1 with rfl | rfl
    · refine tSeq_ (ss_aug G.nd (by rw [G.hN]; exact h2) l1 (sE e G h4).1 ip_add l2 (F := fun x y σ S => match x, y with | .int a, .int b => .nx (σ.set i (some (.int (a + b)))) S | _, _ => .bad) ?_) (fun σ S => ?_)
      · intro x y σ S
        cases x <;> (try exact .inr rfl) <;> cases y <;> (try exact .inr rfl)
        exact .inl ⟨_, _, rfl, rfl, rfl⟩
      · cases hσ : σ[i]? with
        | none => simp only [dS, hσ]
        | some o =>
          cases o with
          | none => simp only [dS, hσ]
          | some x =>
            simp only [dS, hσ]
            congr 1
            funext y S
            cases x <;> first | rfl | (cases y <;> rfl)
    · refine tSeq_ (ss_aug G.nd (by rw [G.hN]; exact h2) l1 (sE e G h4).1 ip_sub l2 (F := fun x y σ S => match x, y with | .int a, .int b => .nx (σ.set i (some (.int (a - b)))) S | _, _ => .bad) ?_) (fun σ S => ?_)
      · intro x y σ S
        cases x <;> (try exact .inr rfl) <;> cases y <;> (try exact .inr rfl)
        exact .inl ⟨_, _, rfl, rfl, rfl⟩
      · cases hσ : σ[i]? with
        | none => simp only [dS, hσ]
        | some o =>
          cases o with
          | none => simp only [dS, hσ]
          | some x =>
            simp only [dS, hσ]
            congr 1
            funext y S
            cases x <;> first | rfl | (cases y <;> rfl)
theorem n_exp (e : Ex) : NS A P C (.exp e) := by
  intro X E k cc st G h
  cases st <;> (try simp only [chkS] at h) <;> first | (cases h; done) | skip
  simp only [Bool.and_eq_true] at h
  exact tSeq_ (ss_exp (sE e G h.2).1 (swap_no h.1)) (fun σ S => by simp only [dS])
theorem n_ret (e : Ex) : NS A P C (.ret e) := by
  intro X E k cc st G h
  simp only [chkS] at h
  cases hv : asRe st with
  | none => rw [hv] at h; cases h
  | some q =>
    obtain ⟨v, pos⟩ := q
    rw [hv] at h
    have := asRe_eq hv
    subst this
    exact tSeq_ (ss_ret (sE e G h).1) (fun σ S => by simp only [dS])
theorem n_retN : NS A P C .retN := by
  intro X E k cc st G h
  simp only [chkS] at h
  cases hv : asRn st with
  | none => rw [hv] at h; cases h
  | some pos =>
    have := asRn_eq hv
    subst this
    exact tSeq_ ss_retN (fun σ S => by simp only [dS])
theorem n_ite (c : Ex) {a b : Sms} (ia : NSs A P C a) (ib : NSs A P C b) : NS A P C (.ite c a b) := by
  intro X E k cc st G h
  cases st <;> (try simp only [chkS] at h) <;> first | (cases h; done) | skip
  simp only [Bool.and_eq_true] at h
  exact tSeq_ (ss_ite (sE c G h.1.1).2.1 (ia G h.1.2) (ib G h.2)) (fun σ S => by simp only [dS])
theorem n_whl (c : Ex) {b : Sms} (ib : NSs A P C b) : NS A P C (.whl c b) := by
  intro X E k cc st G h
  simp only [chkS] at h
  cases hv : asWh st with
  | none => rw [hv] at h; cases h
  | some q =>
    obtain ⟨t, x, pos⟩ := q
    rw [hv] at h
    have := asWh_eq hv
    subst this
    simp only [Bool.and_eq_true] at h
    exact tSeq_ (ss_whl G.pass (sE c G h.1).2.1 (ib G h.2)) (fun σ S => by simp only [dS])
theorem n_for (tg : Tg) (it : Ir) {b : Sms} (ib : NSs A P C b) : NS A P C (.for_ tg it b) := by
  intro X E k cc st G h
  simp only [chkS] at h
  cases hv : asFo st with
  | none => rw [hv] at h; cases h
  | some q =>
    obtain ⟨t, i, x, pos⟩ := q
    rw [hv] at h
    have := asFo_eq hv
    subst this
    simp only [Bool.and_eq_true] at h
    obtain ⟨⟨⟨h1, h2⟩, h3⟩, h4⟩ := h
    exact tSeq_ (ss_for G.hK G.pass G.calm (sI it G h2) (s_tg G h1) (ib G h4) (set_ok h3)) (fun σ S => by simp only [dS])
theorem n_pass : NS A P C .pass := by
  intro X E k cc st G h
  cases st <;> (try simp only [chkS] at h) <;> first | (cases h; done) | skip
  exact tSeq_ ss_pass (fun σ S => by simp only [dS])
theorem n_brk : NS A P C .brk := by
  intro X E k cc st G h
  cases st <;> (try simp only [chkS] at h) <;> first | (cases h; done) | skip
  exact tSeq_ ss_brk (fun σ S => by simp only [dS])
theorem n_cnt : NS A P C .cnt := by
  intro X E k cc st G h
  cases st <;> (try simp only [chkS] at h) <;> first | (cases h; done) | skip
  exact tSeq_ ss_cnt (fun σ S => by simp only [dS])
theorem n_rai (c : Nat) (x : Str) : NS A P C (.rai c x) := by
  intro X E k cc st G h
  simp only [chkS] at h
  cases hv : asRa st with
  | none => rw [hv] at h; cases h
  | some q =>
    obtain ⟨y, p, ⟨m, j, p2⟩, p3, p4⟩ := q
    rw [hv] at h
    have := asRa_eq hv
    subst this
    simp only [Bool.and_eq_true, decide_eq_true_eq] at h
    obtain ⟨⟨⟨rfl, h1⟩, h2⟩, h3⟩ := h
    obtain ⟨g1, g2, g3, g4, g5⟩ := G.facts.xc _ h1
    exact tSeq_ (ss_rai G.calm G.tk g2 g1 g3 (raises_own g4 g5) (G.glb h2) (noDbg_ h3).1) (fun σ S => by simp only [dS])
theorem Good.tr {X : Cx} {E E' : XK} {k : Nat} {cc : CC} (G : Good A P C X E k cc) {pn : List (Addr × Obj)} {xe : Value → Shared → Prop} (tk : Takes (X.tr pn xe) (fun cls d _ H => E' cls d H)) (pa : PassesOwn (model X.prog X.w) X.A X.env xe) : Good A P C (X.tr pn xe) E' k cc where
  hK := G.hK
  hW := G.hW
  gd := G.gd
  calm := G.calm
  hy := G.hy
  room := G.room
  nd := G.nd
  tk := tk
  pass := pa
  facts := G.facts
  fns := G.fns
  hN := G.hN
  sc := G.sc
  fn := G.fn
  stm := G.stm
  xfn := G.xfn
theorem n_raiF (c : Nat) (x f : Str) (e : Ex) : NS A P C (.raiF c x f e) := by
  intro X E k cc st G h
  simp only [chkS] at h
  cases hv : asRf st with
  | none => rw [hv] at h; cases h
  | some q =>
    obtain ⟨y, p, v, p3, p4⟩ := q
    rw [hv] at h
    have := asRf_eq hv
    subst this
    simp only [Bool.and_eq_true, decide_eq_true_eq] at h
    obtain ⟨⟨⟨⟨⟨rfl, h1⟩, h2⟩, h3⟩, h4⟩, h5⟩ := h
    obtain ⟨g1, BC, fI, fd, ps, T, F1, hb⟩ := G.xfn _ h1
    exact tSeq_ (ss_raiF G.calm G.tk T F1 (G.room.mono (Nat.le_add_left 2 k)) hb (G.glb h2) g1 (sE e G h5).1 (noDbg_ h3).1 (star_ok h4)) (fun σ S => by simp only [dS])
theorem n_raiF0 (c : Nat) (x f : Str) : NS A P C (.raiF0 c x f) := by
  intro X E k cc st G h
  simp [chkS] at h
theorem n_try1 {b : Sms} (c : Nat) (x : Str) (i : Nat) (f lit : Str) (ib : NSs A P C b) : NS A P C (.try1 b c x i f lit) := by
  intro X E k cc st G h
  simp only [chkS] at h
  cases hv : asTr st with
  | none => rw [hv] at h; cases h
  | some d =>
    rw [hv] at h
    have := asTr_eq hv
    subst this
    simp only [Bool.and_eq_true, decide_eq_true_eq] at h
    obtain ⟨⟨⟨⟨⟨⟨⟨⟨⟨⟨⟨h1, h2⟩, h3⟩, h4⟩, h5⟩, h6⟩, h7⟩, h8⟩, h9⟩, h10⟩, h11⟩, h12⟩ := h
    obtain ⟨y, np, n, lit', kc, pc, n2, pn2, f', pa, kt, pt, pr, pos', pos⟩ : Str × Pos × Str × Str × Nat × Pos × Str × Pos × Str × Pos × Nat × Pos × Pos × Pos × Pos := ⟨d.y, d.np, d.n, d.lit, d.kc, d.pc, d.n2, d.pn2, d.f, d.pa, d.kt, d.pt, d.pr, d.pos', d.pos⟩
    obtain ⟨g1, BC, fI, fd, ps, T, F1, hb⟩ := G.xfn _ h6
    obtain ⟨s1, s2⟩ := G.stm h1
    obtain ⟨dn1, dn2, dn3⟩ := noDbg_ h11
    rw [← h2, ← h3, ← h4, ← h5]
    exact tSeq_ (ss_try1 (A := A) (E := E) T s1 s2 G.nd (by rw [G.hN]; exact h7) (by rw [G.sc]; exact loc_eq h8) (G.glb h9) g1 (noDbg_ h10).1 dn1 dn2 G.tk (fun E' pn xe tk pa => ib (G.tr tk pa) h12)) (fun σ S => by simp only [dS] <;> rfl)
theorem n_forK (i v : Nat) {b : Sms} (ib : NSs A P C b) : NS A P C (.forK i v b) := by
  intro X E k cc st G h
  simp only [chkS] at h
  cases hv : asFo st with
  | none => rw [hv] at h; cases h
  | some q =>
    obtain ⟨t, e, x, pos⟩ := q
    rw [hv] at h
    have := asFo_eq hv
    subst this
    simp only [Bool.and_eq_true] at h
    obtain ⟨⟨h1, h2⟩, h3⟩ := h
    cases e <;> (try simp only [chkV] at h2) <;> first | (cases h2; done) | skip
    simp only [Bool.and_eq_true, decide_eq_true_eq] at h2
    obtain ⟨⟨k1, k2⟩, k3⟩ := h2
    obtain ⟨d1, d2, d3⟩ := noDbg_ k3
    exact tSeq_ (ss_forK G.hK G.pass G.calm (pe_var (by rw [G.hN]; exact k1) (G.vis k2) d1 d2) (s_tg G h1) (ib G h3) (fun _ => rfl)) (fun σ S => by simp only [dS] <;> rfl)
theorem n_sub2 (o1 i1 o2 i2 a b : Ex) : NS A P C (.sub2 o1 i1 o2 i2 a b) := by
  intro X E k cc st G h
  simp only [chkS] at h
  cases hv : asS2 st with
  | none => rw [hv] at h; cases h
  | some d =>
    rw [hv] at h
    have := asS2_eq hv
    subst this
    simp only [Bool.and_eq_true] at h
    obtain ⟨⟨⟨⟨⟨⟨⟨⟨⟨h1, h2⟩, h3⟩, h4⟩, h5⟩, h6⟩, h7⟩, h8⟩, h9⟩, h10⟩ := h
    exact tSeq_ (ss_sub2 G.hK G.calm (by have := G.hu; omega) h1 h2 (sE o1 G h5).1 (sE i1 G h6).1 (sE o2 G h7).1 (sE i2 G h8).1 (sE a G h9).1 (sE b G h10).1 (star_ok h3) (star_ok h4)) (fun σ S => by simp only [dS] <;> rfl)
theorem n_par3 (i j l : Nat) (a b c : Ex) : NS A P C (.par3 i j l a b c) := by
  intro X E k cc st G h
  simp only [chkS] at h
  cases hv : asP3 st with
  | none => rw [hv] at h; cases h
  | some d =>
    rw [hv] at h
    have := asP3_eq hv
    subst this
    simp only [Bool.and_eq_true, decide_eq_true_eq, Bool.not_eq_true'] at h
    obtain ⟨⟨⟨⟨⟨⟨⟨⟨⟨⟨⟨⟨⟨⟨⟨⟨⟨⟨h1, h2⟩, h3⟩, h4⟩, h5⟩, h6⟩, h7⟩, h8⟩, h9⟩, h10⟩, h11⟩, h12⟩, h13⟩, h14⟩, h15⟩, h16⟩, h17⟩, h18⟩, h19⟩ := h
    have hx := loc_eq h7
    have hy := loc_eq h8
    have hz := loc_eq h9
    rw [← G.sc] at hx hy hz
    exact tSeq_ (ss_par3 G.calm G.nd (by rw [G.hN]; exact h1) (by rw [G.hN]; exact h2) (by rw [G.hN]; exact h3) h4.1 h4.2.1 h4.2.2 hx hy hz (sE a G h17).1 (sE b G h18).1 (sE c G h19).1 (star_ok h14) (star_ok h15) (star_ok h16)
      (swaps_three h5.1 h5.2.1 h5.2.2 (by rw [G.sc]; exact fun_eq h6) hx hy hz h10 h11 h12 h13 h14 h15 h16)) (fun σ S => by simp only [dS])
theorem n_sub3 (o1 i1 o2 i2 o3 i3 a b c : Ex) : NS A P C (.sub3 o1 i1 o2 i2 o3 i3 a b c) := by
  intro X E k cc st G h
  simp only [chkS] at h
  cases hv : asS3 st with
  | none => rw [hv] at h; cases h
  | some d =>
    rw [hv] at h
    have := asS3_eq hv
    subst this
    simp only [Bool.and_eq_true] at h
    obtain ⟨⟨⟨⟨⟨⟨⟨⟨⟨⟨⟨⟨⟨⟨h1, h2⟩, h3⟩, h4⟩, h5⟩, h6⟩, h7⟩, h8⟩, h9⟩, h10⟩, h11⟩, h12⟩, h13⟩, h14⟩, h15⟩ := h
    exact tSeq_ (ss_sub3 G.hK G.calm (by have := G.hu; omega) h1 h2 h3 (sE o1 G h7).1 (sE i1 G h8).1 (sE o2 G h9).1 (sE i2 G h10).1 (sE o3 G h11).1 (sE i3 G h12).1 (sE a G h13).1 (sE b G h14).1 (sE c G h15).1 (star_ok h4) (star_ok h5) (star_ok h6)) (fun σ S => by simp only [dS] <;> rfl)
theorem n_nil : NSs A P C .nil := by
  intro X E k cc sts G h
  cases sts with
  | cons _ _ => simp [chkSs] at h
  | nil =>
    have e1 : dSs P C .nil = fun σ S => .nx σ S := by funext σ S; simp only [dSs]
    rw [e1]; exact ss_nil
theorem n_cons {s : Sm} {ss : Sms} (i1 : NS A P C s) (i2 : NSs A P C ss) : NSs A P C (.cons s ss) := by
  intro X E k cc sts G h
  cases sts with
  | nil => simp [chkSs] at h
  | cons st sts =>
    simp only [chkSs, Bool.and_eq_true] at h
    have e1 : dSs P C (.cons s ss) = fun σ S => (dS P C s σ S).nxt (dSs P C ss) := by funext σ S; simp only [dSs]
    rw [e1]; exact ss_cons (i1 G h.1) (i2 G h.2)
theorem sSs (ss : Sms) : NSs A P C ss := by
  exact @Sms.rec (NS A P C) (NSs A P C) (fun i e => n_set i e) (fun is e => n_setT is e) (fun i j a b => n_par i j a b) (fun c o f e => n_fld c o f e) (fun o i e => n_sub o i e) (fun i o e => n_aug i o e)
    (fun e => n_exp e) (fun e => n_ret e) n_retN (fun c _ _ a b => n_ite c a b) (fun c _ b => n_whl c b) (fun tg it _ b => n_for tg it b) n_pass n_brk n_cnt (fun c x => n_rai c x) (fun c x f e => n_raiF c x f e) (fun c x f => n_raiF0 c x f) (fun _ c x i f lit b => n_try1 c x i f lit b) (fun i v _ b => n_forK i v b) (fun o1 i1 o2 i2 a b => n_sub2 o1 i1 o2 i2 a b) (fun i j l a b c => n_par3 i j l a b c) (fun o1 i1 o2 i2 o3 i3 a b c => n_sub3 o1 i1 o2 i2 o3 i3 a b c) n_nil (fun _ _ a b => n_cons a b) ss
end
/-! ### defs -/
def startD (n : Nat) (ds : List D) : Sl := ds.map some ++ List.replicate (n - ds.length) none
noncomputable def runB (P : Pg) (C : Nat → List D → Sto → Out D) (n np : Nat) (T : Sms) (ds : List D) (S : Sto) : Out D :=
  if ds.length = np then match dSs P C T (startD n ds) S with
    | .nx _ S' => .ok .non S'
    | .rt v S' => .ok v S'
    | .err c fs _ S' => .err c fs S'
    | _ => .bad
  else .bad
theorem runB_len {P : Pg} {C : Nat → List D → Sto → Out D} {n np : Nat} {T : Sms} : ∀ ds S, ds.length ≠ np → runB P C n np T ds S = .bad := fun ds S h => by unfold runB; rw [if_neg h]
section
variable {A : Ad} {P : Pg} {C : Nat → List D → Sto → Out D} {Pr : Program} {w : World} {K : PySem.W.Frag} {mg : Str → Option Value} {base : Heap}
theorem start_rep {m : List Addr} {H : Hp} {N : List Str} : ∀ {ds : List D} {vs : List V}, RepL A m H ds vs → RepS A m H (startD N.length ds) (L2.start N vs) := by
  intro ds vs l
  have hl := l.length
  refine ⟨?_, fun i d h => ?_⟩
  · unfold startD L2.start
    simp only [List.length_append, List.length_map, List.length_replicate, hl]
  · unfold startD at h
    unfold L2.start
    by_cases c : i < ds.length
    · rw [List.getElem?_append_left (by rw [List.length_map]; exact c), List.getElem?_map] at h
      rw [List.getElem?_append_left (by rw [List.length_map, hl]; exact c), List.getElem?_map]
      cases hd : ds[i]? with
      | none => rw [hd] at h; cases h
      | some d' =>
        rw [hd] at h
        cases h
        obtain ⟨v, h1, h2⟩ := l.get hd
        exact ⟨v, by rw [h1]; rfl, h2⟩
    · rw [List.getElem?_append_right (by rw [List.length_map]; omega), List.getElem?_replicate] at h
      split at h <;> cases h
/-- the program's own exceptions with a value -/
abbrev XnOk (A : Ad) (Pr : Program) (w : World) (K : PySem.W.Frag) (mg : Str → Option Value) (base : Heap) (pn : PN) : Prop :=
  ∀ q ∈ pn.xns, mg q.2.1 = some (.ref (A.cl q.1)) ∧ ∃ BC fI fd ps, Xin K (A.cl q.1) BC fI q.2.2 ∧ FnOk Pr w K mg base (L2.CX Pr w) 1 fI fd ps (spIni (A.cl q.1) q.2.2) ∧ Binds K fd ps []
/-- a def of the language keeps its promise -/
theorem fn_ok {x qual : Str} {st : Stmt} {f : Addr} {fd : FuncData} {N ps : List Str} {k : Nat} {T : Sms} {pn : PN} {dvs : List V} {kws : List (Str × V)} (F : FunD K x qual (defArgs st) (defBody st) (defScope st) dvs kws f fd) (S : FnScope N ps (defScope st)) (hK : A.K = K) (hW : A.w = w) (hy : SysK K) (facts : Facts A P pn K mg)
    (hchk : chkSs ⟨N, defScope st, fun _ => true, pn, true⟩ T (defBody st) = true) (xn : XnOk A Pr w K mg base pn)
    (fns : ∀ j, j < pn.nfn → ∃ fd ps, FnG Pr w K mg base (L2.CX Pr w) k (A.fn j) fd ps (spC A ps.length (C j)) ∧ Binds K fd ps [] ∧ (∀ ds S, ds.length ≠ ps.length → C j ds S = .bad) ∧ ∀ n ks pm, (j, n, ks, pm) ∈ pn.kbs → KB K fd ps n ks pm) :
    FnG Pr w K mg base (L2.CX Pr w) (k + 3) f fd ps (spC A ps.length (runB P C N.length ps.length T)) := by
  refine FunD.okG F S (fun vs H Q E h => ?_) (fun cdv A' outer s H vs Q E gd hr h => ?_)
  · obtain ⟨m, S, ds, _, l, hl, _⟩ := h
    rw [l.length, hl]
  · obtain ⟨m, S0, ds, R, l, hl, p⟩ := h
    refine ⟨tS A E (dSs P C T), sSs T (k := k) (cc := ⟨N, defScope st, fun _ => true, pn, true⟩) ?_ hchk, m, S0, startD N.length ds, R, start_rep l, ?_⟩
    · exact {
        hK := hK
        hW := hW
        gd := gd
        calm := rfl
        hy := hy
        room := hr
        nd := S.nd
        tk := takes_of rfl rfl rfl rfl
        pass := passes_of rfl
        facts := facts
        fns := fns
        hN := rfl
        sc := rfl
        fn := rfl
        stm := fun _ => ⟨rfl, rfl⟩
        xfn := xn }
    · unfold runB at p
      rw [if_pos hl] at p
      revert p
      cases dSs P C T (startD N.length ds) S0 with
      | nx σ S1 => exact fun p m1 H1 σ' e1 R1 Rs1 => p m1 H1 .non e1 R1 .non
      | rt v S1 => exact fun p => p
      | err c fs σ S1 => exact fun p => p
      | bk σ S1 => exact fun p => p.elim
      | ct σ S1 => exact fun p => p.elim
      | bad => exact fun p => p
theorem fn_bad {k : Nat} {f : Addr} {fd : FuncData} {ps : List Str} {n : Nat} : FnG Pr w K mg base (L2.CX Pr w) k f fd ps (spC A n fun _ _ => .bad) :=
  FnG.bad fun vs H Q E ⟨_, _, _, _, _, _, p⟩ => p.elim
/-! ### programs -/
/-- a def of a program: where it stands, its text, its names, its parameters, what it is in the language -/
structure Df where
  at_ : Str × Option Str
  nm : Str
  qual : Str
  st : Stmt
  N : List Str
  ps : List Str
  T : Sms
def Df.dd (d : Df) : He.DefD := ⟨d.at_, d.nm, d.qual, defArgs d.st, defBody d.st, defScope d.st, [], []⟩
/-- what is to be seen of a def, whatever the head -/
structure DfOk (pn : PN) (d : Df) : Prop where
  sc : FnScope d.N d.ps (defScope d.st)
  ck : chkSs ⟨d.N, defScope d.st, fun _ => true, pn, true⟩ d.T (defBody d.st) = true
  bi : ∀ (kV doc pm : Value) (an : Option Addr) (cdv ct : Value) (us : List Value), us.length = d.ps.length → bindArgs (PySem.W.fnOf d.nm d.qual (defArgs d.st) (defBody d.st) (defScope d.st) .none kV doc pm an cdv ct) ⟨us, []⟩ = pure (d.ps.zip us)
/-- the program's calls, to a depth -/
noncomputable def calls (P : Pg) (ds : List Df) : Nat → Nat → List D → Sto → Out D
  | 0, _ => fun _ _ => .bad
  | d + 1, j => match ds[j]? with
    | some f => runB P (calls P ds d) f.N.length f.ps.length f.T
    | none => fun _ _ => .bad
theorem calls_len {P : Pg} {fs : List Df} {d j : Nat} {f : Df} (h : fs[j]? = some f) : ∀ ds S, ds.length ≠ f.ps.length → calls P fs d j ds S = .bad := by
  intro ds S hl
  cases d with
  | zero => rfl
  | succ d =>
    unfold calls
    rw [h]
    exact runB_len ds S hl
/-- each shape of a call with keywords binds -/
abbrev KbsOk (pn : PN) (fs : List Df) : Prop := ∀ j n ks pm, (j, n, ks, pm) ∈ pn.kbs → ∀ f, fs[j]? = some f → ∀ (kV doc pmv : Value) (an : Option Addr) (cdv ct : Value) (us ws : List Value), us.length = n → ws.length = ks.length → bindArgs (PySem.W.fnOf f.nm f.qual (defArgs f.st) (defBody f.st) (defScope f.st) .none kV doc pmv an cdv ct) ⟨us, ks.zip ws⟩ = pure (f.ps.zip (pmL pm (us ++ ws)))
theorem all_ok {fs : List Df} {pn : PN} (hn : pn.nfn = fs.length) (hK : A.K = K) (hW : A.w = w) (hy : SysK K) (xn : XnOk A Pr w K mg base pn) (facts : Facts A P pn K mg) (ok : ∀ f ∈ fs, DfOk pn f) (kbs : KbsOk pn fs)
    (fds : ∀ j f, fs[j]? = some f → ∃ fd, FunD K f.nm f.qual (defArgs f.st) (defBody f.st) (defScope f.st) [] [] (A.fn j) fd) :
    ∀ d j, j < pn.nfn → ∃ fd ps, FnG Pr w K mg base (L2.CX Pr w) (3 * d) (A.fn j) fd ps (spC A ps.length (calls P fs d j)) ∧ Binds K fd ps [] ∧ (∀ ds S, ds.length ≠ ps.length → calls P fs d j ds S = .bad) ∧ ∀ n ks pm, (j, n, ks, pm) ∈ pn.kbs → KB K fd ps n ks pm := by
  intro d
  induction d with
  | zero =>
    intro j hj
    rw [hn] at hj
    obtain ⟨f, hf⟩ : ∃ f, fs[j]? = some f := ⟨_, List.getElem?_eq_getElem hj⟩
    obtain ⟨fd, F⟩ := fds j f hf
    exact ⟨fd, f.ps, fn_bad, F.bindsN (ok f (List.mem_of_getElem? hf)).bi, fun _ _ _ => rfl, fun n ks pm hq => kb_of F (kbs j n ks pm hq f hf)⟩
  | succ d ih =>
    intro j hj
    rw [hn] at hj
    obtain ⟨f, hf⟩ : ∃ f, fs[j]? = some f := ⟨_, List.getElem?_eq_getElem hj⟩
    obtain ⟨fd, F⟩ := fds j f hf
    have o := ok f (List.mem_of_getElem? hf)
    have e : calls P fs (d + 1) j = runB P (calls P fs d) f.N.length f.ps.length f.T := by
      funext ds S
      show (match fs[j]? with
        | some f => runB P (calls P fs d) f.N.length f.ps.length f.T
        | none => fun _ _ => .bad) ds S = _
      rw [hf]
    refine ⟨fd, f.ps, ?_, F.bindsN o.bi, calls_len hf, fun n ks pm hq => kb_of F (kbs j n ks pm hq f hf)⟩
    rw [e]
    exact fn_ok F o.sc hK hW hy facts o.ck xn ih
/-- an own exception class with a value: its number, name, base's name, the value's name, the parameter's name -/
structure Xd where
  c : Nat
  x : Str
  b : Str
  f : Str
  p : Str
  qual : Str
  st : Stmt
def Xd.dd (d : Xd) : He.DefD := ⟨(d.x, some ("__init__" : Str)), ("__init__" : Str), d.qual, defArgs d.st, defBody d.st, defScope d.st, [.non], []⟩
def chkXi (b f p : Str) : List Stmt → Bool
  | [.Expr (.Call (.Attribute (.Name b' _) m p2) [.Name s1 _, .Constant (.str _) _ _] [] pos) _, .Assign [.Attribute (.Name s2 _) f' _] (.Name p' _) _] =>
    decide (b' = b) && decide (m = "__init__") && decide (s1 = "self") && decide (s2 = "self") && decide (f' = f) && decide (p' = p) && (p2.endLine == pos.line)
  | _ => false
structure XdOk (d : Xd) : Prop where
  sc : FnScope ["self", d.p] ["self", d.p] (defScope d.st)
  ck : chkXi d.b d.f d.p (defBody d.st) = true
  gb : glb (defScope d.st) d.b = true
  nb : noDbg d.b = true
  np : noDbg d.p = true
  vp : vis (defScope d.st) d.p = true
  vs : vis (defScope d.st) "self" = true
  bi : ∀ (T : Addr) (kV doc pm : Value) (an : Option Addr) (cdv ct : Value) (us its : List Value), us.length = 2 → its.length = 1 →
      ∃ k, bindArgs (PySem.W.fnOf "__init__" d.qual (defArgs d.st) (defBody d.st) (defScope d.st) (.ref T) kV doc pm an cdv ct) ⟨us, []⟩ = seqItems? (.ref T) >>= k ∧ k (some its.toArray) = pure ([("self" : Str), d.p].zip (us ++ its.drop 1))
theorem ini_ok {d : Xd} {C BC fI : Addr} {fd : FuncData} (F : FunD K "__init__" d.qual (defArgs d.st) (defBody d.st) (defScope d.st) [.non] [] fI fd) (o : XdOk d) (T : Xin K C BC fI d.f) (hm : mg d.b = some (.ref BC)) :
    FnOk Pr w K mg base (L2.CX Pr w) 1 fI fd ["self", d.p] (spIni C d.f) ∧ Binds K fd ["self", d.p] [] := by
  refine ⟨F.ok o.sc (fun vs H Q E ⟨a, v, h, _⟩ => by rw [h] <;> rfl) (fun cdv B out s H vs Q E hr ⟨a, v, hv, ha, q⟩ => ?_), ?_⟩
  · have hc := o.ck
    revert hc
    generalize hb : defBody d.st = body
    intro hc
    unfold chkXi at hc
    split at hc
    · rename_i b' p1 m p2 s1 q1 ms j q2 pos q3 s2 q4 f' q5 p' q6 q7
      simp only [Bool.and_eq_true, decide_eq_true_eq] at hc
      obtain ⟨⟨⟨⟨⟨⟨rfl, rfl⟩, rfl⟩, rfl⟩, rfl⟩, rfl⟩, hl⟩ := hc
      subst hv
      have gb : Gl (cxOf (L2.CX Pr w) Pr w K mg base ["self", d.p] d.qual (defScope d.st) fI cdv B out s H E) d.b := by
        have := o.gb
        unfold DI.glb at this
        split at this
        · assumption
        · cases this
      have vis_ : ∀ {x : Str}, vis (defScope d.st) x = true → Vis (cxOf (L2.CX Pr w) Pr w K mg base ["self", d.p] d.qual (defScope d.st) fI cdv B out s H E).env.scope x := by
        intro x h
        unfold DI.vis at h
        split at h
        · exact .inl (by assumption)
        · exact .inr (.inl (by assumption))
        · exact .inr (.inr (by assumption))
        · cases h
      obtain ⟨e1, e2, e3⟩ := noDbg_ o.np
      have ps_ : ∀ {pos : Pos}, PE (cxOf (L2.CX Pr w) Pr w K mg base ["self", d.p] d.qual (defScope d.st) fI cdv B out s H E) (.Name "self" pos) (tVar 0) := fun {pos} => pe_var (i := 0) rfl (vis_ o.vs)
      have pp_ : ∀ {pos : Pos}, PE (cxOf (L2.CX Pr w) Pr w K mg base ["self", d.p] d.qual (defScope d.st) fI cdv B out s H E) (.Name d.p pos) (tVar 1) := fun {pos} => pe_var (i := 1) rfl (vis_ o.vp) e1 e2
      refine ⟨_, pss_cons (ps_expr (pe_veinitC gb hm T.rd T.ga T.vi (pa_cons ps_ (pa_cons (pe_str (x := ms) (pos := q2)) pa_nil rfl) rfl) (noDbg_ o.nb).1 (meth_ok rfl hl (fun e he => by
        rcases List.mem_cons.mp he with rfl | he
        · rfl
        · rw [List.mem_singleton] at he; subst he; rfl) (by show 2 < 30; decide)) rfl rfl) rfl) (pss_one (ps_ost ps_ pp_ rfl)), ?_⟩
      refine ⟨.ref a, rfl, a, C, _, rfl, by show 1 ≤ 1000; decide, T.oex, ha, ?_⟩
      refine ⟨v, rfl, .ref a, rfl, a, C, rfl, T.oex, T.no, .inl ⟨ha, fun dx h1 h2 => q dx h1 h2⟩⟩
    · cases hc
  · obtain ⟨ds, h1, h2⟩ := F.binds1 2 1 (by simp) rfl (fun T kV doc pm an cdv ct us its l1 l2 => o.bi T kV doc pm an cdv ct us its l1 l2)
    cases h1
    exact h2
/-- the law's promise -/
theorem law_sp {fs : List Df} {d j : Nat} (hl : ∀ ns : List Int, ns.length ≤ 63 → ∃ S', calls P fs d j [.rl (ns.map D.int)] [] = .ok (.bl true) S') (H : Hp) (a : Addr) (ns : List Int) (h : ns.length ≤ 63) (hO : Only H) (hS : SqL A.K H a (ns.map V.int)) :
    spC A 1 (calls P fs d j) [.ref a] H (fun v _ => v = .bl true) fun _ _ _ => False := by
  refine ⟨[], [], [.rl (ns.map D.int)], ⟨fun i c h => by simp at h, rfl, List.nodup_nil⟩, .cons (.rl (RoL.of_only hO hS) (RepL.ints ns)) .nil, rfl, ?_⟩
  obtain ⟨S', e⟩ := hl ns h
  rw [e]
  intro m' H' v _ _ r
  cases r
  rfl
theorem says_all {fa : List He.Fa} {fn : List He.DefD} (c : He.SaysD fa fn K) : ∀ f ∈ fa, f.ok K = true := by
  intro f hf
  obtain ⟨i, hi, e⟩ := List.getElem_of_mem hf
  exact c.fact i (by rw [List.getElem?_eq_getElem hi, e])
end
end DI

set_option Elab.async false
set_option linter.all false
set_option maxRecDepth 100000
set_option maxHeartbeats 4000000
/-! The head: a program's facts by names, and the end. -/
namespace DI
open L2 PySem PySem.Spec PyProof.Rows
theorem walk_ofEw {l : PySem.W.OpenLaw} {n k : Nat} {q : Program} {loose : List Str} {XP : (Str → Option Value) → Heap → Prop} {YP : World → Heap → Prop} {d : DefRec} {CX : World → CXT} {x : Str}
    (hn : l.most = some n) (hn2 : n ≤ sizeLine) (hdf : d.params.defaults = []) (hr : Room k callerA)
    (F : ∀ (w : World) (mg : Str → Option Value) (fa : Addr) (h : Heap), YP w h → h.Ns mainGlobals mg → mg d.name = some (.ref fa) →
      ∃ (K : PySem.W.Frag) (fd : FuncData) (sp : Sp), K.In h ∧ (∀ (s : Shared) (u : Value), BindsTo s fd ⟨[u], []⟩ [(x, u)]) ∧
        (∀ (H : Hp) (a : Addr) (ns : List Int), ns.length ≤ n → Only H → SqL K H a (ns.map V.int) → sp [.ref a] H (fun v _ => v = .bl true) fun _ _ _ => False) ∧
        ∀ base : Heap, K.In base → base.Ns mainGlobals mg → FnG l.prog w K mg base (CX w) k fa fd [x] sp)
    (hCX : ∀ (w : World) (H : Hp) (s : Shared) (e : Value) (s' : Shared), CX w [] H s (fun _ _ _ => False) e s' → False) :
    PySem.W.WalkO q loose XP YP l.row.toRowW d [] (fun f vs => PySem.call f vs) := by
  refine Att.attach_call hn hdf fun w s₀ s₁ mg mb fa o pm cd doc a vs ns G Y ho hd hcd hmg hobj hints hlen hg => ?_
  obtain ⟨K, fd, sp, KX, hb, hsp, hF⟩ := F w mg fa _ Y G.T.g hmg
  exact law_callG KX G.T.g G.T.b G.T.builtins G.T.nolimit hg hobj hints (Nat.le_trans hlen hn2) hr hF hb (fun H hO hS => hsp H a ns hlen hO hS) fun H e s' => hCX w H s₁ e s'
def nmC (pn : PN) (c : Nat) : Str := match (pn.cll ++ (pn.xcs ++ pn.xns.map fun q => (q.1, q.2.1))).find? (fun p => p.1 == c) with | some p => p.2 | none => Str.empty
def AdOf (K : PySem.W.Frag) (w : World) (fs : List Df) (pn : PN) : Ad := ⟨K, w, fun j => match fs[j]? with | some f => He.fAd K f.at_ | none => 0, fun c => He.ga K (nmC pn c)⟩
def faOf (pn : PN) (xs : List Xd) : List He.Fa :=
  pn.fnl.map (fun p => .glo p.2) ++ (pn.fnl.map (fun p => .keep p.2) ++ (pn.cls.map (fun c => .cls (nmC pn c)) ++ (pn.cll.map (fun p => .glo p.2) ++ (pn.mts.map (fun p => .meth (nmC pn p.1) p.2.1) ++
  (pn.inis.map (fun p => .mkr (nmC pn p.1)) ++ (pn.flds.map (fun p => .noat (nmC pn p.1) p.2) ++ (pn.free.map (fun x => .free x) ++ (pn.xcs.map (fun p => .glo p.2) ++ (pn.xcs.map (fun p => .exc p.2) ++ (xs.map (fun d => .glo d.x) ++ xs.map (fun d => .glo d.b)))))))))))
def pnOk (fs : List Df) (pn : PN) (xs : List Xd) : Bool :=
  pn.fnl.all (fun p => match fs[p.1]? with | some f => decide (f.at_ = (p.2, none)) | none => false) &&
  (pn.mts.all (fun p => match fs[p.2.2]? with | some f => decide (f.at_ = (nmC pn p.1, some p.2.1)) | none => false) &&
  (pn.inis.all (fun p => match fs[p.2]? with | some f => decide (f.at_ = (nmC pn p.1, some ("__init__" : Str))) | none => false) &&
  (pn.cll.all (fun p => decide (nmC pn p.1 = p.2)) && (pn.xcs.all (fun p => decide (nmC pn p.1 = p.2)) && (xs.all (fun d => decide (nmC pn d.c = d.x)) && decide (pn.xns = xs.map fun d => (d.c, d.x, d.f)))))))
/-! ### the module's data -/
mutual
def datB (K : PySem.W.Frag) (fA : Nat → Addr) : D → Value → Bool
  | .non, .none => true
  | .bl b, .bool c => b == c
  | .int i, .int j _ => decide (i = j)
  | .str x, .str y _ => decide (x = y)
  | .tup xs, .ref a => match K.lookup a with
    | some ⟨.type c, _, .seq its _, _⟩ => decide (c = "tuple") && decide (its.size ≤ sizeLine) && datL K fA xs its.toList
    | _ => false
  | .fn j, .ref a => fA j == a
  | _, _ => false
def datL (K : PySem.W.Frag) (fA : Nat → Addr) : List D → List Value → Bool
  | [], [] => true
  | d :: ds, u :: us => datB K fA d u && datL K fA ds us
  | _, _ => false
end
section
variable {A : Ad}
mutual
theorem datB_ok : ∀ {d : D} {u : Value}, datB A.K A.fn d u = true → ∃ v, RelV v u ∧ ∀ m H, RepD A m H d v
  | .non, .none, _ => ⟨.non, rfl, fun _ _ => .non⟩
  | .bl b, .bool c, h => by
    simp only [datB, beq_iff_eq] at h
    subst h
    exact ⟨.bl b, rfl, fun _ _ => .bl b⟩
  | .int i, .int j t, h => by
    simp only [datB, decide_eq_true_eq] at h
    subst h
    exact ⟨.int i, ⟨t, rfl⟩, fun _ _ => .int i⟩
  | .str x, .str y t, h => by
    simp only [datB, decide_eq_true_eq] at h
    subst h
    exact ⟨.str x, ⟨t, rfl⟩, fun _ _ => .str x⟩
  | .fn j, .ref a, h => by
    simp only [datB, beq_iff_eq] at h
    subst h
    exact ⟨.ref _, rfl, fun _ _ => .fn j⟩
  | .tup xs, .ref a, h => by
    simp only [datB] at h
    split at h
    · rename_i c dd its n sl hk
      simp only [Bool.and_eq_true, decide_eq_true_eq] at h
      obtain ⟨⟨rfl, h2⟩, h3⟩ := h
      obtain ⟨vs, h4, h5⟩ := datL_ok h3
      exact ⟨.ref a, rfl, fun m H => .tup (.inr ⟨_, its, n, hk, rfl, rfl, h2, h4⟩) (h5 m H)⟩
    · cases h
theorem datL_ok : ∀ {ds : List D} {us : List Value}, datL A.K A.fn ds us = true → ∃ vs, Vals vs us ∧ ∀ m H, RepL A m H ds vs
  | [], [], _ => ⟨[], .nil, fun _ _ => .nil⟩
  | d :: ds, u :: us, h => by
    simp only [datL, Bool.and_eq_true] at h
    obtain ⟨v, h1, h2⟩ := datB_ok h.1
    obtain ⟨vs, h3, h4⟩ := datL_ok h.2
    exact ⟨v :: vs, .cons h1 h3, fun m H => .cons (h2 m H) (h4 m H)⟩
end
end
/-- a global: of plain data, or a dict of it -/
def gloB (K : PySem.W.Frag) (fA : Nat → Addr) (q : Str × D) : Bool :=
  match PySem.W.nsIn K mainGlobals q.1 with
  | some (some u) => (match q.2, u with
    | .rd kvs, .ref a => (a == He.ga K q.1) && kvs.all fun p => match PySem.W.nsIn K a p.1 with
      | some (some z) => datB K fA p.2 z
      | _ => false
    | d, u => datB K fA d u)
  | _ => false
def tabs (gs : List (Str × D)) : List He.Tab := gs.filterMap fun q => match q.2 with | .rd kvs => some (fun K => He.ga K q.1, kvs.map (·.1)) | _ => none
theorem dicW_okS {K : PySem.W.Frag} {w : World} {a : Addr} {kvs : List (Str × D)} (h : He.dicW K a = some (He.keysIn w.params (kvs.map (·.1)))) : ∃ es n, KDict K w a es n ∧ es.toList.map keyS = kvs.map fun p => some p.1 := by
  obtain ⟨es, n, D⟩ := He.dicW_ok h
  refine ⟨es, n, D, ?_⟩
  unfold He.dicW at h
  rw [D.at_] at h
  dsimp only at h
  split at h
  · have h1 : es.toList.map He.keyOf = He.keysIn w.params (kvs.map (·.1)) := Option.some.inj h
    have h2 := congrArg (List.map (Option.map Prod.fst)) h1
    rw [List.map_map] at h2
    have e1 : (Option.map Prod.fst) ∘ He.keyOf = keyS := by
      funext e
      obtain ⟨hash, key, val⟩ := e
      cases key <;> rfl
    rw [e1] at h2
    rw [h2]
    unfold He.keysIn
    rw [List.map_map, List.map_map]
    rfl
  · cases h
theorem keysIn_find {P : Params} {es : List DictEntry} {ks : List Str} (h : es.map He.keyOf = He.keysIn P ks) {x : Str} (hx : x ∉ ks) : es.find? (·.key.isStr x) = none ∧ es.any (·.refKey) = false := by
  induction es generalizing ks with
  | nil => exact ⟨rfl, rfl⟩
  | cons e r ih =>
    cases ks with
    | nil => cases h
    | cons k ks =>
      have h1 : He.keyOf e :: r.map He.keyOf = some (k, PyData.keyHash P k) :: He.keysIn P ks := h
      injection h1 with h2 h3
      obtain ⟨i1, i2⟩ := ih h3 (fun z => hx (List.mem_cons_of_mem _ z))
      unfold He.keyOf at h2
      split at h2
      · rename_i y t q
        obtain ⟨h5, h6⟩ := Prod.mk.inj (Option.some.inj h2)
        subst h5
        have e1 : e.key.isStr x = false := by
          rw [q, PySem.W.isStr_of]
          show (y == x) = false
          rw [beq_eq_false_iff_ne]
          exact fun z => hx (z ▸ List.mem_cons_self)
        have e2 : e.refKey = false := by unfold DictEntry.refKey; rw [q]
        refine ⟨by rw [List.find?_cons, e1]; exact i1, by rw [List.any_cons, e2, i2] <;> rfl⟩
      · cases h2
theorem dicW_none {K : PySem.W.Frag} {w : World} {a : Addr} {ks : List Str} (h : He.dicW K a = some (He.keysIn w.params ks)) {x : Str} (hx : x ∉ ks) : PySem.W.nsIn K a x = some none := by
  obtain ⟨es, n, kd⟩ := He.dicW_ok h
  have hz : es.toList.map He.keyOf = He.keysIn w.params ks := by
    unfold He.dicW at h
    rw [kd.at_] at h
    dsimp only at h
    split at h
    · exact Option.some.inj h
    · cases h
  obtain ⟨i1, i2⟩ := keysIn_find hz hx
  unfold PySem.W.nsIn
  rw [kd.at_]
  dsimp only
  rw [i1]
  dsimp only
  rw [i2] <;> rfl
theorem lookup_notin {kvs : List (Str × D)} {x : Str} (h : kvs.lookup x = none) : x ∉ kvs.map (·.1) := by
  intro hm
  obtain ⟨q, hq, rfl⟩ := List.mem_map.mp hm
  rw [List.lookup_eq_none_iff] at h
  have := h q hq
  simp at this
theorem repR_of {A : Ad} {a : Addr} : ∀ {kvs : List (Str × D)}, (kvs.all fun p => match PySem.W.nsIn A.K a p.1 with | some (some z) => datB A.K A.fn p.2 z | _ => false) = true → ∀ m H, RepR A m H a kvs
  | [], _, m, H => .nil
  | (k, d) :: r, h, m, H => by
    rw [List.all_cons, Bool.and_eq_true] at h
    obtain ⟨h1, h2⟩ := h
    dsimp only at h1
    split at h1
    · rename_i z hz
      obtain ⟨v, i1, i2⟩ := datB_ok h1
      exact .cons hz i1 (i2 m H) (repR_of h2 m H)
    · cases h1
theorem glo_dat {A : Ad} {base : Heap} {mg : Str → Option Value} {gs : List (Str × D)} (X : A.K.In base) (G : base.Ns mainGlobals mg) (ht : ∀ t ∈ tabs gs, He.dicW A.K (t.1 A.K) = some (He.keysIn A.w.params t.2)) (hg : gs.all (gloB A.K A.fn) = true)
    {x : Str} {d : D} (h : gs.lookup x = some d) : ∃ v u, mg x = some u ∧ RelV v u ∧ ∀ m H, RepD A m H d v := by
  have hm : (x, d) ∈ gs := by
    clear ht hg
    induction gs with
    | nil => cases h
    | cons q r ih =>
      obtain ⟨k, z⟩ := q
      rw [List.lookup_cons] at h
      split at h
      · rename_i e
        obtain rfl := beq_iff_eq.mp e
        cases h
        exact List.mem_cons_self
      · exact List.mem_cons_of_mem _ (ih h)
  have hb := List.all_eq_true.mp hg _ hm
  unfold gloB at hb
  split at hb
  · rename_i u hu
    have hmg := PySem.W.mg_of X G hu
    split at hb
    · rename_i kvs a ed
      dsimp only at ed; subst ed
      rw [Bool.and_eq_true, beq_iff_eq] at hb
      obtain ⟨ea, hb⟩ := hb
      have t1 := ht (fun K => He.ga K x, kvs.map (·.1)) (List.mem_filterMap.mpr ⟨_, hm, rfl⟩)
      dsimp only at t1 ea
      rw [← ea] at t1
      exact ⟨.ref a, _, hmg, rfl, fun m H => .rd (dicW_okS t1) (fun y hy => dicW_none t1 (lookup_notin hy)) (repR_of hb m H)⟩
    · obtain ⟨v, h1, h2⟩ := datB_ok hb
      exact ⟨v, _, hmg, h1, h2⟩
  · cases hb
/-- sys.modules is a dict -/
def sysB (K : PySem.W.Frag) : Bool := match K.lookup sysModules with
  | some ⟨.type t, _, _, _⟩ => decide (t = "dict")
  | _ => false
theorem sysB_ok {K : PySem.W.Frag} (h : sysB K = true) : SysK K := by
  unfold sysB at h
  split at h
  · rename_i t d dt sl hk
    obtain rfl := of_decide_eq_true h
    exact ⟨_, hk, rfl⟩
  · cases h
/-! ### the hook: what the module's names reach, sys.modules, the statics -/
def frS (g : Addr → Option Obj) (n : Nat) : PySem.W.Frag := He.frT g (sysModules :: cStatics :: He.asD g n)
abbrev AlS : Type := He.AlT × Bool
def obsS (n : Nat) (fa : List He.Fa) (fn : List He.DefD) (ts : List He.Tab) (ex : PySem.W.Frag → Bool) (g : Addr → Option Obj) : AlS := (He.obsT fa fn ts (frS g n), ex (frS g n))
def valS (fn : List He.DefD) (ts : List He.Tab) (w : World) : AlS := (He.valT fn ts w, true)
structure SaysS (fa : List He.Fa) (fn : List He.DefD) (ts : List He.Tab) (ex : PySem.W.Frag → Bool) (w : World) (K : PySem.W.Frag) : Prop where
  t : He.SaysT fa fn ts w K
  more : ex K = true
def hookS (n : Nat) (fa : List He.Fa) (fn : List He.DefD) (ts : List He.Tab) (ex : PySem.W.Frag → Bool) : PySem.W.Hook where
  α := AlS
  obs := fun s => obsS n fa fn ts ex s.heap.get?
  val := fun w => valS fn ts w
  says := fun w h => ∃ K : PySem.W.Frag, K.In h ∧ SaysS fa fn ts ex w K
  of := fun _ _ e => ⟨_, He.frT_in, congrArg (fun z : AlS => z.1) e, congrArg (fun z : AlS => z.2) e⟩
  keeps := fun _ _ _ ⟨K, hK, c⟩ k => ⟨K, PySem.W.Frag.In.keeps hK k, c⟩
theorem obsS_eq {n : Nat} {fa : List He.Fa} {fn : List He.DefD} {ts : List He.Tab} {ex : PySem.W.Frag → Bool} {g : Addr → Option Obj} {s : Shared} (h : ∀ a, g a = s.heap.get? a) : obsS n fa fn ts ex g = (hookS n fa fn ts ex).obs s := by
  obtain rfl : g = s.heap.get? := funext h
  rfl
/-- the Bool behind the facts: sys.modules, the data, the exceptions -/
def exB (fs : List Df) (pn : PN) (gs : List (Str × D)) (xs : List Xd) (K : PySem.W.Frag) : Bool :=
  sysB K && (gs.all (gloB K fun j => match fs[j]? with | some f => He.fAd K f.at_ | none => 0) && xs.all fun d => xinB K (He.ga K d.x) (He.ga K d.b) (He.fAd K (d.x, some ("__init__" : Str))) d.f)
theorem says_tab {fa : List He.Fa} {fn : List He.DefD} {ts : List He.Tab} {w : World} {K : PySem.W.Frag} (c : He.SaysT fa fn ts w K) {t : He.Tab} (h : t ∈ ts) : He.dicW K (t.1 K) = some (He.keysIn w.params t.2) := by
  have e : ts.map (fun t => He.dicW K (t.1 K)) = ts.map fun t => some (He.keysIn w.params t.2) := congrArg (fun z : He.AlT => z.2) c
  exact (List.map_inj_left.mp e) t h
section
variable {K : PySem.W.Frag} {mg : Str → Option Value} {h : Heap} {fs : List Df} {pn : PN} {P : Pg} {w : World} {xs : List Xd} {gs : List (Str × D)}
theorem ad_fn {j : Nat} {q : Str × Option Str} (e : (match fs[j]? with | some f => decide (f.at_ = q) | none => false) = true) : (AdOf K w fs pn).fn j = He.fAd K q := by
  show (match fs[j]? with | some f => He.fAd K f.at_ | none => 0) = _
  cases hf : fs[j]? with
  | none => rw [hf] at e; cases e
  | some f =>
    rw [hf] at e
    exact congrArg (He.fAd K) (of_decide_eq_true e)
theorem facts_of (X : K.In h) (G : h.Ns mainGlobals mg) (ok : pnOk fs pn xs = true) (c : ∀ f ∈ faOf pn xs, f.ok K = true)
    (dat : ∀ (x : Str) (d : D), P.glo x = some d → ∃ v u, mg x = some u ∧ RelV v u ∧ ∀ m H, RepD (AdOf K w fs pn) m H d v) : Facts (AdOf K w fs pn) P pn K mg := by
  simp only [pnOk, Bool.and_eq_true, List.all_eq_true] at ok
  obtain ⟨o1, o2, o3, o4, o5, _, _⟩ := ok
  simp only [faOf, List.mem_append, List.mem_map] at c
  refine ⟨fun p hp => ?_, fun x hx => ?_, fun p hp => ?_, fun p hp => ?_, fun p hp => ?_, fun p hp => ?_, fun x hx => ?_, fun p hp => ?_, dat⟩
  · rw [ad_fn (o1 p hp)]
    exact ⟨He.glo_ok X G (c (.glo p.2) (.inl ⟨p, hp, rfl⟩)), He.keep_ok (c (.keep p.2) (.inr (.inl ⟨p, hp, rfl⟩)))⟩
  · exact He.cls_ok (c (.cls (nmC pn x)) (.inr (.inr (.inl ⟨x, hx, rfl⟩))))
  · have e : nmC pn p.1 = p.2 := of_decide_eq_true (o4 p hp)
    show mg p.2 = some (.ref (He.ga K (nmC pn p.1)))
    rw [e]
    exact He.glo_ok X G (c (.glo p.2) (.inr (.inr (.inr (.inl ⟨p, hp, rfl⟩)))))
  · rw [ad_fn (o2 p hp)]
    exact He.meth_ok (c (.meth (nmC pn p.1) p.2.1) (.inr (.inr (.inr (.inr (.inl ⟨p, hp, rfl⟩))))))
  · rw [ad_fn (o3 p hp)]
    exact He.mkr_ok (c (.mkr (nmC pn p.1)) (.inr (.inr (.inr (.inr (.inr (.inl ⟨p, hp, rfl⟩)))))))
  · exact He.noat_ok (c (.noat (nmC pn p.1) p.2) (.inr (.inr (.inr (.inr (.inr (.inr (.inl ⟨p, hp, rfl⟩))))))))
  · exact He.free_ok X G (c (.free x) (.inr (.inr (.inr (.inr (.inr (.inr (.inr (.inl ⟨x, hx, rfl⟩)))))))))
  · have e : nmC pn p.1 = p.2 := of_decide_eq_true (o5 p hp)
    show mg p.2 = some (.ref (He.ga K (nmC pn p.1))) ∧ PySem.W.excIn K (He.ga K (nmC pn p.1)) _ _ = true ∧ PySem.W.keepIn K (.ref (He.ga K (nmC pn p.1))) = true ∧ PySem.W.subIn K (.ref (He.ga K (nmC pn p.1))) (.type "BaseException") = some true ∧ PySem.W.typeIn K (.ref (He.ga K (nmC pn p.1))) = some (.type "type")
    rw [e]
    exact ⟨He.glo_ok X G (c (.glo p.2) (.inr (.inr (.inr (.inr (.inr (.inr (.inr (.inr (.inl ⟨p, hp, rfl⟩)))))))))), He.exc_ok (c (.exc p.2) (.inr (.inr (.inr (.inr (.inr (.inr (.inr (.inr (.inr (.inl ⟨p, hp, rfl⟩)))))))))))⟩
/-- the law by its calls -/
theorem law_F {Pr : Program} {fa : Addr} {d j : Nat} {f : Df} {x : Str} (c : ∃ K : PySem.W.Frag, K.In h ∧ SaysS (faOf pn xs) (fs.map Df.dd ++ xs.map Xd.dd) (tabs gs) (exB fs pn gs xs) w K) (G : h.Ns mainGlobals mg) (hm : mg f.nm = some (.ref fa)) (ok : pnOk fs pn xs = true) (hn : pn.nfn = fs.length)
    (oks : ∀ f ∈ fs, DfOk pn f) (xds : ∀ d ∈ xs, XdOk d) (kbs : KbsOk pn fs) (hf : fs[j]? = some f) (hfn : (j, f.nm) ∈ pn.fnl) (hps : f.ps = [x]) (hP : P.glo = fun x => gs.lookup x)
    (hl : ∀ ns : List Int, ns.length ≤ 63 → ∃ S', calls P fs (d + 1) j [.rl (ns.map D.int)] [] = .ok (.bl true) S') :
    ∃ (K : PySem.W.Frag) (fd : FuncData) (sp : Sp), K.In h ∧ (∀ (s : Shared) (u : Value), BindsTo s fd ⟨[u], []⟩ [(x, u)]) ∧
        (∀ (H : Hp) (a : Addr) (ns : List Int), ns.length ≤ 63 → Only H → SqL K H a (ns.map V.int) → sp [.ref a] H (fun v _ => v = .bl true) fun _ _ _ => False) ∧
        ∀ base : Heap, K.In base → base.Ns mainGlobals mg → FnG Pr w K mg base (L2.CX Pr w) (3 * d + 3) fa fd [x] sp := by
  obtain ⟨K, X, s⟩ := c
  have sD := s.t.d
  have ca : ∀ f ∈ faOf pn xs, f.ok K = true := fun f hf => sD.facts hf
  have fds : ∀ j f, fs[j]? = some f → ∃ fd, FunD K f.nm f.qual (defArgs f.st) (defBody f.st) (defScope f.st) [] [] ((AdOf K w fs pn).fn j) fd := by
    intro j f hf
    obtain ⟨fd, F⟩ := sD.defs (d := f.dd) (List.mem_append_left _ (List.mem_map_of_mem (List.mem_of_getElem? hf)))
    have e2 : (AdOf K w fs pn).fn j = He.fAd K f.at_ := by
      show (match fs[j]? with | some f => He.fAd K f.at_ | none => 0) = _
      rw [hf]
    rw [e2]
    exact ⟨fd, F⟩
  have hj : j < pn.nfn := by
    rw [hn]
    exact (List.getElem?_eq_some_iff.mp hf).1
  obtain ⟨hx0, hx3⟩ := Bool.and_eq_true_iff.mp s.more
  obtain ⟨hx1, hx2⟩ := Bool.and_eq_true_iff.mp hx3
  have hy := sysB_ok hx0
  have fct : ∀ base : Heap, K.In base → base.Ns mainGlobals mg → Facts (AdOf K w fs pn) P pn K mg := fun base X2 G2 => facts_of X2 G2 ok ca (fun x d hd => by
    rw [hP] at hd
    exact glo_dat (A := AdOf K w fs pn) X2 G2 (fun t ht => says_tab s.t ht) hx1 hd)
  have xn : ∀ base : Heap, K.In base → base.Ns mainGlobals mg → XnOk (AdOf K w fs pn) Pr w K mg base pn := by
    intro base X2 G2 q hq
    simp only [pnOk, Bool.and_eq_true, List.all_eq_true] at ok
    obtain ⟨_, _, _, _, _, o6, o7⟩ := ok
    rw [of_decide_eq_true o7] at hq
    obtain ⟨d, hd, rfl⟩ := List.mem_map.mp hq
    have ec : (AdOf K w fs pn).cl d.c = He.ga K d.x := by
      show He.ga K (nmC pn d.c) = _
      rw [of_decide_eq_true (o6 d hd)]
    dsimp only
    rw [ec]
    have cg : ∀ y, He.Fa.glo y ∈ faOf pn xs → mg y = some (.ref (He.ga K y)) := fun y hy => He.glo_ok X2 G2 (ca _ hy)
    have g1 : He.Fa.glo d.x ∈ faOf pn xs := by
      simp only [faOf, List.mem_append, List.mem_map]
      exact .inr (.inr (.inr (.inr (.inr (.inr (.inr (.inr (.inr (.inr (.inl ⟨d, hd, rfl⟩))))))))))
    have g2 : He.Fa.glo d.b ∈ faOf pn xs := by
      simp only [faOf, List.mem_append, List.mem_map]
      exact .inr (.inr (.inr (.inr (.inr (.inr (.inr (.inr (.inr (.inr (.inr ⟨d, hd, rfl⟩))))))))))
    obtain ⟨fd, F⟩ := sD.defs (d := d.dd) (List.mem_append_right _ (List.mem_map_of_mem hd))
    have T := xinB_ok (List.all_eq_true.mp hx2 d hd)
    obtain ⟨r1, r2⟩ := ini_ok (Pr := Pr) (w := w) (base := base) F (xds d hd) T (cg _ g2)
    exact ⟨cg _ g1, _, _, fd, _, T, r1, r2⟩
  have fcth := fct h X G
  have ef := fcth.fn _ hfn
  have e3 : fa = (AdOf K w fs pn).fn j := by
    have := hm.symm.trans ef.1
    cases this
    rfl
  obtain ⟨fd, F⟩ := fds j f hf
  have b := FunD.bindsA (ps := [x]) F fun a b c d e g us hl => by
    have := (oks f (List.mem_of_getElem? hf)).bi a b c d e g us (by rw [hl, hps])
    rw [hps] at this
    exact this
  refine ⟨K, fd, spC (AdOf K w fs pn) 1 (calls P fs (d + 1) j), X, fun s v => b s [v] rfl, fun H a ns hlen hO hS => law_sp hl H a ns hlen hO hS, fun base X2 G2 => ?_⟩
  have o := oks f (List.mem_of_getElem? hf)
  have e : calls P fs (d + 1) j = runB P (calls P fs d) f.N.length f.ps.length f.T := by
    funext ds S
    show (match fs[j]? with
      | some f => runB P (calls P fs d) f.N.length f.ps.length f.T
      | none => fun _ _ => .bad) ds S = _
    rw [hf]
  have r := fn_ok (mg := mg) (w := w) (Pr := Pr) (base := base) F o.sc rfl rfl hy (fct base X2 G2) o.ck (xn base X2 G2) (all_ok (w := w) (Pr := Pr) (base := base) hn rfl rfl hy (xn base X2 G2) (fct base X2 G2) oks kbs fds d)
  rw [e3, e]
  rw [hps] at r
  rw [hps]
  exact r
end
end DI

set_option Elab.async false
set_option linter.all false
set_option maxRecDepth 100000
namespace K85
open PySem L2 DI
def top (i : Nat) : Stmt := PySem.Challenge.pw_flowboxes_k85_texts_of_trees.main.body.getD i (.Pass ⟨0, 0, 0, 0⟩)
def pn : PN where
  nfn := 35
  fnl := [(0, ("is_whole" : Str)), (1, ("is_size" : Str)), (2, ("is_percent" : Str)), (3, ("is_offset" : Str)), (4, ("is_auto" : Str)), (5, ("is_margin" : Str)), (6, ("is_share" : Str)), (7, ("is_padding" : Str)), (8, ("are_four" : Str)), (9, ("is_style_value" : Str)), (10, ("is_style" : Str)), (11, ("is_text" : Str)), (12, ("is_node" : Str)), (13, ("style_of" : Str)), (14, ("may_be_top" : Str)), (15, ("is_out" : Str)), (16, ("check" : Str)), (17, ("value_text" : Str)), (18, ("node_row" : Str)), (19, ("node_rows" : Str)), (20, ("tree_text" : Str)), (21, ("_law_cell_at" : Str)), (22, ("_law_digit" : Str)), (23, ("_law_one" : Str)), (24, ("_law_names" : Str)), (25, ("_law_choices" : Str)), (26, ("_law_bounds" : Str)), (27, ("_law_drawn_value" : Str)), (28, ("_law_drawn_style" : Str)), (29, ("_law_string" : Str)), (30, ("_law_drawn_node" : Str)), (31, ("_law_drawn_tree" : Str)), (32, ("_law_value_text" : Str)), (33, ("_law_rows" : Str)), (34, ("law" : Str))]
  cls := []
  cll := []
  mts := []
  inis := []
  flds := []
  free := [("all" : Str), ("bool" : Str), ("dict" : Str), ("enumerate" : Str), ("int" : Str), ("isinstance" : Str), ("len" : Str), ("max" : Str), ("range" : Str), ("repr" : Str), ("str" : Str), ("tuple" : Str)]
  xcs := []
  xns := [(1, ("NoTree" : Str), ("path" : Str))]
  kbs := []
/-! is_whole -/
abbrev s_is_whole : Stmt := top 11
def t_is_whole : Sms := (.cons (.ret (.and_ (.bi .isi (.cons (.var 0) (.cons (.bty "int") .nil))) (.and_ (.not_ (.bi .isi (.cons (.var 0) (.cons (.bty "bool") .nil)))) (.chn .LtE .LtE (.neg (.glo ("MOST" : Str))) (.var 0) (.glo ("MOST" : Str))))))
  .nil)
def N_is_whole : List Str := [("value" : Str)]
def ps_is_whole : List Str := [("value" : Str)]
def d_is_whole : Df := ⟨(("is_whole" : Str), none), ("is_whole" : Str), ("is_whole" : Str), s_is_whole, N_is_whole, ps_is_whole, t_is_whole⟩
theorem o_is_whole : DfOk pn d_is_whole := ⟨⟨rfl, rfl, rfl, by decide +kernel, rfl, by decide +kernel, by decide +kernel⟩, by decide +kernel, fun _ _ _ _ _ _ us hl => match us, hl with | [_], _ => rfl⟩
/-! is_size -/
abbrev s_is_size : Stmt := top 12
def t_is_size : Sms := (.cons (.ret (.and_ (.cal 0 (.cons (.var 0) .nil)) (.cmp .GtE (.var 0) (.cst (.int 0)))))
  .nil)
def N_is_size : List Str := [("value" : Str)]
def ps_is_size : List Str := [("value" : Str)]
def d_is_size : Df := ⟨(("is_size" : Str), none), ("is_size" : Str), ("is_size" : Str), s_is_size, N_is_size, ps_is_size, t_is_size⟩
theorem o_is_size : DfOk pn d_is_size := ⟨⟨rfl, rfl, rfl, by decide +kernel, rfl, by decide +kernel, by decide +kernel⟩, by decide +kernel, fun _ _ _ _ _ _ us hl => match us, hl with | [_], _ => rfl⟩
/-! is_percent -/
abbrev s_is_percent : Stmt := top 13
def t_is_percent : Sms := (.cons (.ret (.and_ (.bi .isi (.cons (.var 0) (.cons (.bty "tuple") .nil))) (.and_ (.cmp .Eq (.bi .len (.cons (.var 0) .nil)) (.cst (.int 2))) (.and_ (.cmp .Eq (.ix (.var 0) (.cst (.int 0))) (.cst (.str ("percent" : Str)))) (.cal 0 (.cons (.ix (.var 0) (.cst (.int 1))) .nil))))))
  .nil)
def N_is_percent : List Str := [("value" : Str)]
def ps_is_percent : List Str := [("value" : Str)]
def d_is_percent : Df := ⟨(("is_percent" : Str), none), ("is_percent" : Str), ("is_percent" : Str), s_is_percent, N_is_percent, ps_is_percent, t_is_percent⟩
theorem o_is_percent : DfOk pn d_is_percent := ⟨⟨rfl, rfl, rfl, by decide +kernel, rfl, by decide +kernel, by decide +kernel⟩, by decide +kernel, fun _ _ _ _ _ _ us hl => match us, hl with | [_], _ => rfl⟩
/-! is_offset -/
abbrev s_is_offset : Stmt := top 16
def t_is_offset : Sms := (.cons (.ret (.or_ (.cmp .Is (.var 0) (.cst .non)) (.or_ (.cal 0 (.cons (.var 0) .nil)) (.cal 2 (.cons (.var 0) .nil)))))
  .nil)
def N_is_offset : List Str := [("value" : Str)]
def ps_is_offset : List Str := [("value" : Str)]
def d_is_offset : Df := ⟨(("is_offset" : Str), none), ("is_offset" : Str), ("is_offset" : Str), s_is_offset, N_is_offset, ps_is_offset, t_is_offset⟩
theorem o_is_offset : DfOk pn d_is_offset := ⟨⟨rfl, rfl, rfl, by decide +kernel, rfl, by decide +kernel, by decide +kernel⟩, by decide +kernel, fun _ _ _ _ _ _ us hl => match us, hl with | [_], _ => rfl⟩
/-! is_auto -/
abbrev s_is_auto : Stmt := top 15
def t_is_auto : Sms := (.cons (.ret (.and_ (.bi .isi (.cons (.var 0) (.cons (.bty "str") .nil))) (.cmp .Eq (.var 0) (.cst (.str ("auto" : Str))))))
  .nil)
def N_is_auto : List Str := [("value" : Str)]
def ps_is_auto : List Str := [("value" : Str)]
def d_is_auto : Df := ⟨(("is_auto" : Str), none), ("is_auto" : Str), ("is_auto" : Str), s_is_auto, N_is_auto, ps_is_auto, t_is_auto⟩
theorem o_is_auto : DfOk pn d_is_auto := ⟨⟨rfl, rfl, rfl, by decide +kernel, rfl, by decide +kernel, by decide +kernel⟩, by decide +kernel, fun _ _ _ _ _ _ us hl => match us, hl with | [_], _ => rfl⟩
/-! is_margin -/
abbrev s_is_margin : Stmt := top 17
def t_is_margin : Sms := (.cons (.ret (.or_ (.cal 4 (.cons (.var 0) .nil)) (.or_ (.cal 0 (.cons (.var 0) .nil)) (.cal 2 (.cons (.var 0) .nil)))))
  .nil)
def N_is_margin : List Str := [("value" : Str)]
def ps_is_margin : List Str := [("value" : Str)]
def d_is_margin : Df := ⟨(("is_margin" : Str), none), ("is_margin" : Str), ("is_margin" : Str), s_is_margin, N_is_margin, ps_is_margin, t_is_margin⟩
theorem o_is_margin : DfOk pn d_is_margin := ⟨⟨rfl, rfl, rfl, by decide +kernel, rfl, by decide +kernel, by decide +kernel⟩, by decide +kernel, fun _ _ _ _ _ _ us hl => match us, hl with | [_], _ => rfl⟩
/-! is_share -/
abbrev s_is_share : Stmt := top 14
def t_is_share : Sms := (.cons (.ret (.and_ (.cal 2 (.cons (.var 0) .nil)) (.cmp .GtE (.ix (.var 0) (.cst (.int 1))) (.cst (.int 0)))))
  .nil)
def N_is_share : List Str := [("value" : Str)]
def ps_is_share : List Str := [("value" : Str)]
def d_is_share : Df := ⟨(("is_share" : Str), none), ("is_share" : Str), ("is_share" : Str), s_is_share, N_is_share, ps_is_share, t_is_share⟩
theorem o_is_share : DfOk pn d_is_share := ⟨⟨rfl, rfl, rfl, by decide +kernel, rfl, by decide +kernel, by decide +kernel⟩, by decide +kernel, fun _ _ _ _ _ _ us hl => match us, hl with | [_], _ => rfl⟩
/-! is_padding -/
abbrev s_is_padding : Stmt := top 18
def t_is_padding : Sms := (.cons (.ret (.or_ (.cal 1 (.cons (.var 0) .nil)) (.cal 6 (.cons (.var 0) .nil))))
  .nil)
def N_is_padding : List Str := [("value" : Str)]
def ps_is_padding : List Str := [("value" : Str)]
def d_is_padding : Df := ⟨(("is_padding" : Str), none), ("is_padding" : Str), ("is_padding" : Str), s_is_padding, N_is_padding, ps_is_padding, t_is_padding⟩
theorem o_is_padding : DfOk pn d_is_padding := ⟨⟨rfl, rfl, rfl, by decide +kernel, rfl, by decide +kernel, by decide +kernel⟩, by decide +kernel, fun _ _ _ _ _ _ us hl => match us, hl with | [_], _ => rfl⟩
/-! are_four -/
abbrev s_are_four : Stmt := top 19
def t_are_four : Sms := (.cons (.ret (.and_ (.bi .isi (.cons (.var 0) (.cons (.bty "tuple") .nil))) (.and_ (.cmp .Eq (.bi .len (.cons (.var 0) .nil)) (.cst (.int 4))) (.bi .all_ (.cons (.lc [(("one" : Str), 2)] (.nm 2) (.ex (.var 0)) .nil (.calV [1, 3, 5, 7] 1 (.cons (.var 2) .nil))) .nil)))))
  .nil)
def N_are_four : List Str := [("value" : Str), ("test" : Str), ("one" : Str)]
def ps_are_four : List Str := [("value" : Str), ("test" : Str)]
def d_are_four : Df := ⟨(("are_four" : Str), none), ("are_four" : Str), ("are_four" : Str), s_are_four, N_are_four, ps_are_four, t_are_four⟩
theorem o_are_four : DfOk pn d_are_four := ⟨⟨rfl, rfl, rfl, by decide +kernel, rfl, by decide +kernel, by decide +kernel⟩, by decide +kernel, fun _ _ _ _ _ _ us hl => match us, hl with | [_, _], _ => rfl⟩
/-! is_style_value -/
abbrev s_is_style_value : Stmt := top 20
def t_is_style_value_1 : Sms := (.cons (.ret (.or_ (.and_ (.cmp .Is (.var 1) (.cst .non)) (.cmp .In (.cst .non) (.ix (.glo ("WORDS" : Str)) (.var 0)))) (.and_ (.bi .isi (.cons (.var 1) (.cons (.bty "str") .nil))) (.cmp .In (.var 1) (.ix (.glo ("WORDS" : Str)) (.var 0))))))
  .nil)
def t_is_style_value_2 : Sms := (.cons (.set 3 (.dctK [("offset" : Str), ("margin" : Str), ("border" : Str), ("padding" : Str)] (.cons (.glo ("is_offset" : Str)) (.cons (.glo ("is_margin" : Str)) (.cons (.glo ("is_size" : Str)) (.cons (.glo ("is_padding" : Str)) .nil))))))
  (.cons (.ret (.cal 8 (.cons (.var 1) (.cons (.ix (.var 3) (.var 0)) .nil))))
  .nil))
def t_is_style_value_3 : Sms := (.cons (.ret (.or_ (.cal 4 (.cons (.var 1) .nil)) (.or_ (.cal 1 (.cons (.var 1) .nil)) (.cal 6 (.cons (.var 1) .nil)))))
  .nil)
def t_is_style_value_4 : Sms := (.cons (.ret (.or_ (.cal 4 (.cons (.var 1) .nil)) (.cal 1 (.cons (.var 1) .nil))))
  .nil)
def t_is_style_value_5 : Sms := (.cons (.ret (.or_ (.cmp .Is (.var 1) (.cst .non)) (.cal 1 (.cons (.var 1) .nil))))
  .nil)
def t_is_style_value_6 : Sms := (.cons (.ret (.bi .isi (.cons (.var 1) (.cons (.bty "bool") .nil))))
  .nil)
def t_is_style_value_7 : Sms := (.cons (.ret (.and_ (.cal 1 (.cons (.var 1) .nil)) (.cmp .GtE (.var 1) (.cst (.int 1)))))
  .nil)
def t_is_style_value_8 : Sms := (.cons (.ret (.cal 0 (.cons (.var 1) .nil)))
  .nil)
def t_is_style_value_9 : Sms := (.cons (.ret (.cal 1 (.cons (.var 1) .nil)))
  .nil)
def t_is_style_value_10 : Sms := (.cons (.ite (.cmp .In (.var 0) (.tup (.cons (.cst (.str ("raise" : Str))) (.cons (.cst (.str ("indent" : Str))) .nil)))) t_is_style_value_8 .nil)
  t_is_style_value_9)
def t_is_style_value_11 : Sms := (.cons (.ite (.cmp .Eq (.var 0) (.cst (.str ("letter" : Str)))) t_is_style_value_7 .nil)
  t_is_style_value_10)
def t_is_style_value_12 : Sms := (.cons (.ite (.cmp .Eq (.var 0) (.cst (.str ("clip" : Str)))) t_is_style_value_6 .nil)
  t_is_style_value_11)
def t_is_style_value_13 : Sms := (.cons (.ite (.cmp .In (.var 0) (.tup (.cons (.cst (.str ("most_width" : Str))) (.cons (.cst (.str ("most_height" : Str))) .nil)))) t_is_style_value_5 .nil)
  t_is_style_value_12)
def t_is_style_value_14 : Sms := (.cons (.ite (.cmp .Eq (.var 0) (.cst (.str ("height" : Str)))) t_is_style_value_4 .nil)
  t_is_style_value_13)
def t_is_style_value_15 : Sms := (.cons (.ite (.or_ (.cmp .Eq (.var 0) (.cst (.str ("width" : Str)))) (.and_ (.cmp .Eq (.var 0) (.cst (.str ("height" : Str)))) (.var 2))) t_is_style_value_3 .nil)
  t_is_style_value_14)
def t_is_style_value_16 : Sms := (.cons (.ite (.cmp .In (.var 0) (.tup (.cons (.cst (.str ("offset" : Str))) (.cons (.cst (.str ("margin" : Str))) (.cons (.cst (.str ("border" : Str))) (.cons (.cst (.str ("padding" : Str))) .nil)))))) t_is_style_value_2 .nil)
  t_is_style_value_15)
def t_is_style_value : Sms := (.cons (.ite (.cmp .In (.var 0) (.glo ("WORDS" : Str))) t_is_style_value_1 .nil)
  t_is_style_value_16)
def N_is_style_value : List Str := [("word" : Str), ("value" : Str), ("is_placed" : Str), ("tests" : Str)]
def ps_is_style_value : List Str := [("word" : Str), ("value" : Str), ("is_placed" : Str)]
def d_is_style_value : Df := ⟨(("is_style_value" : Str), none), ("is_style_value" : Str), ("is_style_value" : Str), s_is_style_value, N_is_style_value, ps_is_style_value, t_is_style_value⟩
theorem o_is_style_value : DfOk pn d_is_style_value := ⟨⟨rfl, rfl, rfl, by decide +kernel, rfl, by decide +kernel, by decide +kernel⟩, by decide +kernel, fun _ _ _ _ _ _ us hl => match us, hl with | [_, _, _], _ => rfl⟩
/-! is_style -/
abbrev s_is_style : Stmt := top 21
def t_is_style_1 : Sms := (.cons (.ret (.cst (.bl false)))
  .nil)
def t_is_style_2 : Sms := (.cons (.ret (.cst (.bl false)))
  .nil)
def t_is_style_3 : Sms := (.cons (.ite (.or_ (.not_ (.bi .isi (.cons (.var 3) (.cons (.bty "str") .nil)))) (.or_ (.cmp .NotIn (.var 3) (.glo ("FIRST" : Str))) (.not_ (.cal 9 (.cons (.var 3) (.cons (.ix (.var 0) (.var 3)) (.cons (.var 2) .nil))))))) t_is_style_2 .nil)
  .nil)
def t_is_style_4 : Sms := (.cons (.ret (.cst (.bl true)))
  .nil)
def t_is_style_5 : Sms := (.cons (.set 1 (.dget1 (.var 0) (.cst (.str ("place" : Str)))))
  (.cons (.set 2 (.and_ (.bi .isi (.cons (.var 1) (.cons (.bty "str") .nil))) (.cmp .Eq (.var 1) (.cst (.str ("absolute" : Str))))))
  (.cons (.forK 3 0 t_is_style_3)
  t_is_style_4)))
def t_is_style : Sms := (.cons (.ite (.not_ (.bi .isi (.cons (.var 0) (.cons (.bty "dict") .nil)))) t_is_style_1 .nil)
  t_is_style_5)
def N_is_style : List Str := [("value" : Str), ("place" : Str), ("is_placed" : Str), ("word" : Str)]
def ps_is_style : List Str := [("value" : Str)]
def d_is_style : Df := ⟨(("is_style" : Str), none), ("is_style" : Str), ("is_style" : Str), s_is_style, N_is_style, ps_is_style, t_is_style⟩
theorem o_is_style : DfOk pn d_is_style := ⟨⟨rfl, rfl, rfl, by decide +kernel, rfl, by decide +kernel, by decide +kernel⟩, by decide +kernel, fun _ _ _ _ _ _ us hl => match us, hl with | [_], _ => rfl⟩
/-! is_text -/
abbrev s_is_text : Stmt := top 22
def t_is_text_1 : Sms := (.cons (.ret (.cst (.bl false)))
  .nil)
def t_is_text_2 : Sms := (.cons (.ret (.bi .all_ (.cons (.lc [(("sign" : Str), 1)] (.nm 1) (.ex (.var 0)) .nil (.chn .LtE .LtE (.cst (.str (" " : Str))) (.var 1) (.cst (.str ("~" : Str))))) .nil)))
  .nil)
def t_is_text : Sms := (.cons (.ite (.or_ (.not_ (.bi .isi (.cons (.var 0) (.cons (.bty "str") .nil)))) (.cmp .Gt (.bi .len (.cons (.var 0) .nil)) (.glo ("MOST_SIGNS" : Str)))) t_is_text_1 .nil)
  t_is_text_2)
def N_is_text : List Str := [("value" : Str), ("sign" : Str)]
def ps_is_text : List Str := [("value" : Str)]
def d_is_text : Df := ⟨(("is_text" : Str), none), ("is_text" : Str), ("is_text" : Str), s_is_text, N_is_text, ps_is_text, t_is_text⟩
theorem o_is_text : DfOk pn d_is_text := ⟨⟨rfl, rfl, rfl, by decide +kernel, rfl, by decide +kernel, by decide +kernel⟩, by decide +kernel, fun _ _ _ _ _ _ us hl => match us, hl with | [_], _ => rfl⟩
/-! is_node -/
abbrev s_is_node : Stmt := top 23
def t_is_node_1 : Sms := (.cons (.ret (.cst (.bl false)))
  .nil)
def t_is_node_2 : Sms := (.cons (.ret (.and_ (.cmp .Eq (.bi .len (.cons (.var 0) .nil)) (.cst (.int 3))) (.and_ (.cal 10 (.cons (.ix (.var 0) (.cst (.int 1))) .nil)) (.bi .isi (.cons (.ix (.var 0) (.cst (.int 2))) (.cons (.bty "tuple") .nil))))))
  .nil)
def t_is_node_3 : Sms := (.cons (.ret (.and_ (.cmp .Eq (.bi .len (.cons (.var 0) .nil)) (.cst (.int 4))) (.and_ (.cal 10 (.cons (.ix (.var 0) (.cst (.int 1))) .nil)) (.and_ (.cal 1 (.cons (.ix (.var 0) (.cst (.int 2))) .nil)) (.cal 1 (.cons (.ix (.var 0) (.cst (.int 3))) .nil))))))
  .nil)
def t_is_node_4 : Sms := (.cons (.ret (.and_ (.cmp .Eq (.bi .len (.cons (.var 0) .nil)) (.cst (.int 2))) (.cal 11 (.cons (.ix (.var 0) (.cst (.int 1))) .nil))))
  .nil)
def t_is_node_5 : Sms := (.cons (.ret (.and_ (.cmp .Eq (.ix (.var 0) (.cst (.int 0))) (.cst (.str ("break" : Str)))) (.cmp .Eq (.bi .len (.cons (.var 0) .nil)) (.cst (.int 1)))))
  .nil)
def t_is_node_6 : Sms := (.cons (.ite (.cmp .Eq (.ix (.var 0) (.cst (.int 0))) (.cst (.str ("text" : Str)))) t_is_node_4 .nil)
  t_is_node_5)
def t_is_node_7 : Sms := (.cons (.ite (.cmp .Eq (.ix (.var 0) (.cst (.int 0))) (.cst (.str ("image" : Str)))) t_is_node_3 .nil)
  t_is_node_6)
def t_is_node_8 : Sms := (.cons (.ite (.cmp .In (.ix (.var 0) (.cst (.int 0))) (.glo ("KINDS" : Str))) t_is_node_2 .nil)
  t_is_node_7)
def t_is_node : Sms := (.cons (.ite (.or_ (.not_ (.bi .isi (.cons (.var 0) (.cons (.bty "tuple") .nil)))) (.or_ (.cmp .Eq (.var 0) (.tup .nil)) (.not_ (.bi .isi (.cons (.ix (.var 0) (.cst (.int 0))) (.cons (.bty "str") .nil)))))) t_is_node_1 .nil)
  t_is_node_8)
def N_is_node : List Str := [("node" : Str)]
def ps_is_node : List Str := [("node" : Str)]
def d_is_node : Df := ⟨(("is_node" : Str), none), ("is_node" : Str), ("is_node" : Str), s_is_node, N_is_node, ps_is_node, t_is_node⟩
theorem o_is_node : DfOk pn d_is_node := ⟨⟨rfl, rfl, rfl, by decide +kernel, rfl, by decide +kernel, by decide +kernel⟩, by decide +kernel, fun _ _ _ _ _ _ us hl => match us, hl with | [_], _ => rfl⟩
/-! style_of -/
abbrev s_style_of : Stmt := top 24
def t_style_of : Sms := (.cons (.ret (.ite (.or_ (.cmp .In (.ix (.var 0) (.cst (.int 0))) (.glo ("KINDS" : Str))) (.cmp .Eq (.ix (.var 0) (.cst (.int 0))) (.cst (.str ("image" : Str))))) (.ix (.var 0) (.cst (.int 1))) (.dct0 false)))
  .nil)
def N_style_of : List Str := [("node" : Str)]
def ps_style_of : List Str := [("node" : Str)]
def d_style_of : Df := ⟨(("style_of" : Str), none), ("style_of" : Str), ("style_of" : Str), s_style_of, N_style_of, ps_style_of, t_style_of⟩
theorem o_style_of : DfOk pn d_style_of := ⟨⟨rfl, rfl, rfl, by decide +kernel, rfl, by decide +kernel, by decide +kernel⟩, by decide +kernel, fun _ _ _ _ _ _ us hl => match us, hl with | [_], _ => rfl⟩
/-! may_be_top -/
abbrev s_may_be_top : Stmt := top 26
def t_may_be_top : Sms := (.cons (.ret (.and_ (.cmp .In (.ix (.var 0) (.cst (.int 0))) (.tup (.cons (.cst (.str ("block" : Str))) (.cons (.cst (.str ("root" : Str))) .nil)))) (.and_ (.cmp .Is (.dget1 (.cal 13 (.cons (.var 0) .nil)) (.cst (.str ("float" : Str)))) (.cst .non)) (.cmp .Is (.dget1 (.cal 13 (.cons (.var 0) .nil)) (.cst (.str ("place" : Str)))) (.cst .non)))))
  .nil)
def N_may_be_top : List Str := [("node" : Str)]
def ps_may_be_top : List Str := [("node" : Str)]
def d_may_be_top : Df := ⟨(("may_be_top" : Str), none), ("may_be_top" : Str), ("may_be_top" : Str), s_may_be_top, N_may_be_top, ps_may_be_top, t_may_be_top⟩
theorem o_may_be_top : DfOk pn d_may_be_top := ⟨⟨rfl, rfl, rfl, by decide +kernel, rfl, by decide +kernel, by decide +kernel⟩, by decide +kernel, fun _ _ _ _ _ _ us hl => match us, hl with | [_], _ => rfl⟩
/-! is_out -/
abbrev s_is_out : Stmt := top 25
def t_is_out : Sms := (.cons (.set 1 (.cal 13 (.cons (.var 0) .nil)))
  (.cons (.ret (.or_ (.cmp .Eq (.dget1 (.var 1) (.cst (.str ("place" : Str)))) (.cst (.str ("absolute" : Str)))) (.cmp .IsNot (.dget1 (.var 1) (.cst (.str ("float" : Str)))) (.cst .non))))
  .nil))
def N_is_out : List Str := [("node" : Str), ("style" : Str)]
def ps_is_out : List Str := [("node" : Str)]
def d_is_out : Df := ⟨(("is_out" : Str), none), ("is_out" : Str), ("is_out" : Str), s_is_out, N_is_out, ps_is_out, t_is_out⟩
theorem o_is_out : DfOk pn d_is_out := ⟨⟨rfl, rfl, rfl, by decide +kernel, rfl, by decide +kernel, by decide +kernel⟩, by decide +kernel, fun _ _ _ _ _ _ us hl => match us, hl with | [_], _ => rfl⟩
/-! check -/
abbrev s_check : Stmt := top 27
def t_check_1 : Sms := (.cons (.raiF 1 ("NoTree" : Str) ("path" : Str) (.var 3))
  .nil)
def t_check_2 : Sms := (.cons (.raiF 1 ("NoTree" : Str) ("path" : Str) (.var 3))
  .nil)
def t_check_3 : Sms := (.cons (.raiF 1 ("NoTree" : Str) ("path" : Str) (.var 3))
  .nil)
def t_check_4 : Sms := (.cons (.set 6 (.lc [(("k" : Str), 7), (("child" : Str), 8)] (.tp [7, 8]) (.enum (.ix (.var 4) (.cst (.int 2)))) .nil (.tup (.cons (.bin .Add (.var 3) (.tup (.cons (.var 7) .nil))) (.cons (.var 8) (.cons (.ix (.var 4) (.cst (.int 0))) .nil))))))
  (.cons (.exp (.bm .extend (.var 1) (.cons (.rev (.var 6)) .nil)))
  .nil))
def t_check_5 : Sms := (.cons (.ite (.cmp .In (.ix (.var 4) (.cst (.int 0))) (.glo ("KINDS" : Str))) t_check_4 .nil)
  .nil)
def t_check_6 : Sms := (.cons (.ite (.and_ (.cmp .Eq (.var 5) (.cst (.str ("inline" : Str)))) (.and_ (.cmp .In (.ix (.var 4) (.cst (.int 0))) (.tup (.cons (.cst (.str ("block" : Str))) (.cons (.cst (.str ("root" : Str))) .nil)))) (.not_ (.cal 15 (.cons (.var 4) .nil))))) t_check_3 .nil)
  t_check_5)
def t_check_7 : Sms := (.cons (.ite (.and_ (.cmp .Is (.var 5) (.cst .non)) (.not_ (.cal 14 (.cons (.var 4) .nil)))) t_check_2 .nil)
  t_check_6)
def t_check_8 : Sms := (.cons (.setT [3, 4, 5] (.bm .pop (.var 1) .nil))
  (.cons (.aug 2 .Add (.cst (.int 1)))
  (.cons (.ite (.or_ (.cmp .Gt (.var 2) (.glo ("MOST_NODES" : Str))) (.or_ (.cmp .Gt (.bi .len (.cons (.var 3) .nil)) (.glo ("MOST_LEVELS" : Str))) (.not_ (.cal 12 (.cons (.var 4) .nil))))) t_check_1 .nil)
  t_check_7)))
def t_check : Sms := (.cons (.set 1 (.lst (.cons (.tup (.cons (.tup .nil) (.cons (.var 0) (.cons (.cst .non) .nil)))) .nil)))
  (.cons (.set 2 (.cst (.int 0)))
  (.cons (.whl (.var 1) t_check_8)
  .nil)))
def N_check : List Str := [("tree" : Str), ("waiting" : Str), ("count" : Str), ("path" : Str), ("node" : Str), ("above" : Str), ("inner" : Str), ("k" : Str), ("child" : Str)]
def ps_check : List Str := [("tree" : Str)]
def d_check : Df := ⟨(("check" : Str), none), ("check" : Str), ("check" : Str), s_check, N_check, ps_check, t_check⟩
theorem o_check : DfOk pn d_check := ⟨⟨rfl, rfl, rfl, by decide +kernel, rfl, by decide +kernel, by decide +kernel⟩, by decide +kernel, fun _ _ _ _ _ _ us hl => match us, hl with | [_], _ => rfl⟩
/-! value_text -/
abbrev s_value_text : Stmt := top 29
def t_value_text_1 : Sms := (.cons (.ret (.var 0))
  .nil)
def t_value_text_2 : Sms := (.cons (.ret (.bin .Add (.bi .str_ (.cons (.ix (.var 0) (.cst (.int 1))) .nil)) (.cst (.str ("pc" : Str)))))
  .nil)
def t_value_text_3 : Sms := (.cons (.ret (.join (.cst (.str ("," : Str))) (.lc [(("one" : Str), 1)] (.nm 1) (.ex (.var 0)) .nil (.cal 17 (.cons (.var 1) .nil)))))
  .nil)
def t_value_text_4 : Sms := (.cons (.ite (.cmp .Eq (.bi .len (.cons (.var 0) .nil)) (.cst (.int 2))) t_value_text_2 .nil)
  t_value_text_3)
def t_value_text_5 : Sms := (.cons (.ret (.cst (.str ("none" : Str))))
  .nil)
def t_value_text_6 : Sms := (.cons (.ret (.ite (.var 0) (.cst (.str ("yes" : Str))) (.cst (.str ("no" : Str)))))
  .nil)
def t_value_text_7 : Sms := (.cons (.ret (.bi .str_ (.cons (.var 0) .nil)))
  .nil)
def t_value_text_8 : Sms := (.cons (.ite (.bi .isi (.cons (.var 0) (.cons (.bty "bool") .nil))) t_value_text_6 .nil)
  t_value_text_7)
def t_value_text_9 : Sms := (.cons (.ite (.cmp .Is (.var 0) (.cst .non)) t_value_text_5 .nil)
  t_value_text_8)
def t_value_text_10 : Sms := (.cons (.ite (.bi .isi (.cons (.var 0) (.cons (.bty "tuple") .nil))) t_value_text_4 .nil)
  t_value_text_9)
def t_value_text : Sms := (.cons (.ite (.bi .isi (.cons (.var 0) (.cons (.bty "str") .nil))) t_value_text_1 .nil)
  t_value_text_10)
def N_value_text : List Str := [("value" : Str), ("one" : Str)]
def ps_value_text : List Str := [("value" : Str)]
def d_value_text : Df := ⟨(("value_text" : Str), none), ("value_text" : Str), ("value_text" : Str), s_value_text, N_value_text, ps_value_text, t_value_text⟩
theorem o_value_text : DfOk pn d_value_text := ⟨⟨rfl, rfl, rfl, by decide +kernel, rfl, by decide +kernel, by decide +kernel⟩, by decide +kernel, fun _ _ _ _ _ _ us hl => match us, hl with | [_], _ => rfl⟩
/-! node_row -/
abbrev s_node_row : Stmt := top 30
def t_node_row_1 : Sms := (.cons (.ret (.bin .Add (.cst (.str ("text:" : Str))) (.ix (.var 0) (.cst (.int 1)))))
  .nil)
def t_node_row_2 : Sms := (.cons (.set 1 (.bin .Add (.var 1) (.lst (.cons (.bi .str_ (.cons (.ix (.var 0) (.cst (.int 2))) .nil)) (.cons (.bi .str_ (.cons (.ix (.var 0) (.cst (.int 3))) .nil)) .nil)))))
  .nil)
def t_node_row_3 : Sms := (.cons (.set 2 (.cal 13 (.cons (.var 0) .nil)))
  (.cons (.ret (.join (.cst (.str (" " : Str))) (.bin .Add (.var 1) (.lc [(("word" : Str), 3)] (.nm 3) (.ex (.glo ("FIRST" : Str))) (.cons (.cmp .In (.var 3) (.var 2)) .nil) (.bin .Add (.bin .Add (.var 3) (.cst (.str ("=" : Str)))) (.cal 17 (.cons (.ix (.var 2) (.var 3)) .nil)))))))
  .nil))
def t_node_row_4 : Sms := (.cons (.set 1 (.lst (.cons (.ix (.var 0) (.cst (.int 0))) .nil)))
  (.cons (.ite (.cmp .Eq (.ix (.var 0) (.cst (.int 0))) (.cst (.str ("image" : Str)))) t_node_row_2 .nil)
  t_node_row_3))
def t_node_row : Sms := (.cons (.ite (.cmp .Eq (.ix (.var 0) (.cst (.int 0))) (.cst (.str ("text" : Str)))) t_node_row_1 .nil)
  t_node_row_4)
def N_node_row : List Str := [("node" : Str), ("words" : Str), ("style" : Str), ("word" : Str)]
def ps_node_row : List Str := [("node" : Str)]
def d_node_row : Df := ⟨(("node_row" : Str), none), ("node_row" : Str), ("node_row" : Str), s_node_row, N_node_row, ps_node_row, t_node_row⟩
theorem o_node_row : DfOk pn d_node_row := ⟨⟨rfl, rfl, rfl, by decide +kernel, rfl, by decide +kernel, by decide +kernel⟩, by decide +kernel, fun _ _ _ _ _ _ us hl => match us, hl with | [_], _ => rfl⟩
/-! node_rows -/
abbrev s_node_rows : Stmt := top 31
def t_node_rows_1 : Sms := (.cons (.exp (.bm .extend (.var 2) (.cons (.cal 19 (.cons (.var 3) (.cons (.bin .Add (.var 1) (.cst (.int 1))) .nil))) .nil)))
  .nil)
def t_node_rows_2 : Sms := (.cons (.ret (.var 2))
  .nil)
def t_node_rows : Sms := (.cons (.set 2 (.lst (.cons (.bin .Add (.bin .Mult (.cst (.str ("  " : Str))) (.var 1)) (.cal 18 (.cons (.var 0) .nil))) .nil)))
  (.cons (.for_ (.nm 3) (.ex (.ite (.cmp .In (.ix (.var 0) (.cst (.int 0))) (.glo ("KINDS" : Str))) (.ix (.var 0) (.cst (.int 2))) (.tup .nil))) t_node_rows_1)
  t_node_rows_2))
def N_node_rows : List Str := [("node" : Str), ("level" : Str), ("found" : Str), ("kid" : Str)]
def ps_node_rows : List Str := [("node" : Str), ("level" : Str)]
def d_node_rows : Df := ⟨(("node_rows" : Str), none), ("node_rows" : Str), ("node_rows" : Str), s_node_rows, N_node_rows, ps_node_rows, t_node_rows⟩
theorem o_node_rows : DfOk pn d_node_rows := ⟨⟨rfl, rfl, rfl, by decide +kernel, rfl, by decide +kernel, by decide +kernel⟩, by decide +kernel, fun _ _ _ _ _ _ us hl => match us, hl with | [_, _], _ => rfl⟩
/-! tree_text -/
abbrev s_tree_text : Stmt := top 32
def t_tree_text : Sms := (.cons (.exp (.cal 16 (.cons (.var 0) .nil)))
  (.cons (.ret (.join (.cst (.str ("\n" : Str))) (.cal 19 (.cons (.var 0) (.cons (.cst (.int 0)) .nil)))))
  .nil))
def N_tree_text : List Str := [("tree" : Str)]
def ps_tree_text : List Str := [("tree" : Str)]
def d_tree_text : Df := ⟨(("tree_text" : Str), none), ("tree_text" : Str), ("tree_text" : Str), s_tree_text, N_tree_text, ps_tree_text, t_tree_text⟩
theorem o_tree_text : DfOk pn d_tree_text := ⟨⟨rfl, rfl, rfl, by decide +kernel, rfl, by decide +kernel, by decide +kernel⟩, by decide +kernel, fun _ _ _ _ _ _ us hl => match us, hl with | [_], _ => rfl⟩
/-! law_cell_at -/
abbrev s_law_cell_at : Stmt := top 34
def t_law_cell_at : Sms := (.cons (.ret (.ite (.cmp .Lt (.var 1) (.bi .len (.cons (.var 0) .nil))) (.ix (.var 0) (.var 1)) (.cst (.int 0))))
  .nil)
def N_law_cell_at : List Str := [("script" : Str), ("k" : Str)]
def ps_law_cell_at : List Str := [("script" : Str), ("k" : Str)]
def d_law_cell_at : Df := ⟨(("_law_cell_at" : Str), none), ("_law_cell_at" : Str), ("_law_cell_at" : Str), s_law_cell_at, N_law_cell_at, ps_law_cell_at, t_law_cell_at⟩
theorem o_law_cell_at : DfOk pn d_law_cell_at := ⟨⟨rfl, rfl, rfl, by decide +kernel, rfl, by decide +kernel, by decide +kernel⟩, by decide +kernel, fun _ _ _ _ _ _ us hl => match us, hl with | [_, _], _ => rfl⟩
/-! law_digit -/
abbrev s_law_digit : Stmt := top 35
def t_law_digit_1 : Sms := (.cons (.exp (.bm .extend (.var 0) (.cons (.lst (.cons (.bin .Mod (.bi .int_ (.cons (.ix (.var 0) (.cst (.int 0))) .nil)) (.cst (.int 2147483647))) (.cons (.cst (.int 0)) .nil))) .nil)))
  (.cons (.sub (.var 0) (.cst (.int 0)) (.ix (.lst (.cons (.cst (.int 0)) (.cons (.ix (.var 0) (.cst (.int 0))) .nil))) (.bi .int_ (.cons (.cmp .GtE (.ix (.var 0) (.cst (.int 0))) (.bin .Pow (.cst (.int 10)) (.cst (.int 18)))) .nil))))
  .nil))
def t_law_digit_2 : Sms := (.cons (.set 2 (.bin .Mod (.bi .int_ (.cons (.ix (.var 0) (.cst (.int 0))) .nil)) (.var 1)))
  (.cons (.sub (.var 0) (.cst (.int 0)) (.bin .FloorDiv (.ix (.var 0) (.cst (.int 0))) (.var 1)))
  (.cons (.ret (.var 2))
  .nil)))
def t_law_digit_3 : Sms := (.cons (.sub (.var 0) (.cst (.int 2)) (.bin .Add (.ix (.var 0) (.cst (.int 2))) (.cst (.int 1))))
  (.cons (.set 3 (.bin .Mod (.bi .int_ (.cons (.bin .Mult (.bin .Add (.bin .Add (.ix (.var 0) (.cst (.int 1))) (.bin .Mult (.cst (.int 7919)) (.ix (.var 0) (.cst (.int 2))))) (.cst (.int 1))) (.cst (.int 48271))) .nil)) (.cst (.int 2147483647))))
  (.cons (.set 3 (.bin .Mod (.bi .int_ (.cons (.bin .Mult (.var 3) (.bin .Add (.bin .FloorDiv (.var 3) (.cst (.int 1009))) (.cst (.int 69621)))) .nil)) (.cst (.int 2147483647))))
  (.cons (.ret (.bin .Mod (.bi .int_ (.cons (.bin .Mod (.bi .int_ (.cons (.bin .Mult (.var 3) (.bin .Add (.bin .FloorDiv (.var 3) (.cst (.int 2003))) (.cst (.int 40692)))) .nil)) (.cst (.int 2147483399))) .nil)) (.var 1)))
  .nil))))
def t_law_digit_4 : Sms := (.cons (.ite (.cmp .GtE (.ix (.var 0) (.cst (.int 0))) (.var 1)) t_law_digit_2 .nil)
  t_law_digit_3)
def t_law_digit : Sms := (.cons (.ite (.cmp .Eq (.bi .len (.cons (.var 0) .nil)) (.cst (.int 1))) t_law_digit_1 .nil)
  t_law_digit_4)
def N_law_digit : List Str := [("state" : Str), ("base" : Str), ("found" : Str), ("mixed" : Str)]
def ps_law_digit : List Str := [("state" : Str), ("base" : Str)]
def d_law_digit : Df := ⟨(("_law_digit" : Str), none), ("_law_digit" : Str), ("_law_digit" : Str), s_law_digit, N_law_digit, ps_law_digit, t_law_digit⟩
theorem o_law_digit : DfOk pn d_law_digit := ⟨⟨rfl, rfl, rfl, by decide +kernel, rfl, by decide +kernel, by decide +kernel⟩, by decide +kernel, fun _ _ _ _ _ _ us hl => match us, hl with | [_, _], _ => rfl⟩
/-! law_one -/
abbrev s_law_one : Stmt := top 36
def t_law_one : Sms := (.cons (.ret (.ix (.var 1) (.cal 22 (.cons (.var 0) (.cons (.bi .len (.cons (.var 1) .nil)) .nil)))))
  .nil)
def N_law_one : List Str := [("state" : Str), ("some" : Str)]
def ps_law_one : List Str := [("state" : Str), ("some" : Str)]
def d_law_one : Df := ⟨(("_law_one" : Str), none), ("_law_one" : Str), ("_law_one" : Str), s_law_one, N_law_one, ps_law_one, t_law_one⟩
theorem o_law_one : DfOk pn d_law_one := ⟨⟨rfl, rfl, rfl, by decide +kernel, rfl, by decide +kernel, by decide +kernel⟩, by decide +kernel, fun _ _ _ _ _ _ us hl => match us, hl with | [_, _], _ => rfl⟩
/-! law_names -/
abbrev s_law_names : Stmt := top 39
def t_law_names : Sms := (.cons (.set 0 (.lst (.cons (.cst (.str ("float" : Str))) (.cons (.cst (.str ("clear" : Str))) (.cons (.cst (.str ("place" : Str))) (.cons (.cst (.str ("offset" : Str))) (.cons (.cst (.str ("width" : Str))) (.cons (.cst (.str ("height" : Str))) (.cons (.cst (.str ("least_width" : Str))) (.cons (.cst (.str ("least_height" : Str))) (.cons (.cst (.str ("most_width" : Str))) .nil)))))))))))
  (.cons (.set 0 (.bin .Add (.var 0) (.lst (.cons (.cst (.str ("most_height" : Str))) (.cons (.cst (.str ("margin" : Str))) (.cons (.cst (.str ("border" : Str))) (.cons (.cst (.str ("padding" : Str))) (.cons (.cst (.str ("clip" : Str))) (.cons (.cst (.str ("raise" : Str))) (.cons (.cst (.str ("letter" : Str))) (.cons (.cst (.str ("up" : Str))) (.cons (.cst (.str ("down" : Str))) (.cons (.cst (.str ("line" : Str))) .nil)))))))))))))
  (.cons (.ret (.bin .Add (.var 0) (.lst (.cons (.cst (.str ("wrap" : Str))) (.cons (.cst (.str ("align" : Str))) (.cons (.cst (.str ("indent" : Str))) .nil))))))
  .nil)))
def N_law_names : List Str := [("found" : Str)]
def ps_law_names : List Str := []
def d_law_names : Df := ⟨(("_law_names" : Str), none), ("_law_names" : Str), ("_law_names" : Str), s_law_names, N_law_names, ps_law_names, t_law_names⟩
theorem o_law_names : DfOk pn d_law_names := ⟨⟨rfl, rfl, rfl, by decide +kernel, rfl, by decide +kernel, by decide +kernel⟩, by decide +kernel, fun _ _ _ _ _ _ us hl => match us, hl with | [], _ => rfl⟩
/-! law_choices -/
abbrev s_law_choices : Stmt := top 37
def t_law_choices : Sms := (.cons (.set 0 (.dctK [("float" : Str), ("clear" : Str), ("clip" : Str)] (.cons (.lst (.cons (.cst .non) (.cons (.cst (.str ("left" : Str))) (.cons (.cst (.str ("right" : Str))) .nil)))) (.cons (.lst (.cons (.cst .non) (.cons (.cst (.str ("left" : Str))) (.cons (.cst (.str ("right" : Str))) (.cons (.cst (.str ("both" : Str))) .nil))))) (.cons (.lst (.cons (.cst (.bl false)) (.cons (.cst (.bl true)) .nil))) .nil)))))
  (.cons (.sub (.var 0) (.cst (.str ("place" : Str))) (.lst (.cons (.cst .non) (.cons (.cst (.str ("relative" : Str))) (.cons (.cst (.str ("absolute" : Str))) .nil)))))
  (.cons (.sub2 (.var 0) (.cst (.str ("wrap" : Str))) (.var 0) (.cst (.str ("align" : Str))) (.lst (.cons (.cst (.str ("normal" : Str))) (.cons (.cst (.str ("whole" : Str))) .nil))) (.lst (.cons (.cst (.str ("left" : Str))) (.cons (.cst (.str ("right" : Str))) (.cons (.cst (.str ("center" : Str))) .nil)))))
  (.cons (.ret (.var 0))
  .nil))))
def N_law_choices : List Str := [("found" : Str)]
def ps_law_choices : List Str := []
def d_law_choices : Df := ⟨(("_law_choices" : Str), none), ("_law_choices" : Str), ("_law_choices" : Str), s_law_choices, N_law_choices, ps_law_choices, t_law_choices⟩
theorem o_law_choices : DfOk pn d_law_choices := ⟨⟨rfl, rfl, rfl, by decide +kernel, rfl, by decide +kernel, by decide +kernel⟩, by decide +kernel, fun _ _ _ _ _ _ us hl => match us, hl with | [], _ => rfl⟩
/-! law_bounds -/
abbrev s_law_bounds : Stmt := top 38
def t_law_bounds_1 : Sms := (.cons (.sub (.var 2) (.var 3) (.tup (.cons (.lst .nil) (.cons (.cst (.int 0)) (.cons (.cst .non) .nil)))))
  .nil)
def t_law_bounds_2 : Sms := (.cons (.sub2 (.var 2) (.cst (.str ("most_width" : Str))) (.var 2) (.cst (.str ("most_height" : Str))) (.tup (.cons (.lst (.cons (.cst .non) .nil)) (.cons (.cst (.int 0)) (.cons (.cst .non) .nil)))) (.tup (.cons (.lst (.cons (.cst .non) .nil)) (.cons (.cst (.int 0)) (.cons (.cst .non) .nil)))))
  (.cons (.sub3 (.var 2) (.cst (.str ("raise" : Str))) (.var 2) (.cst (.str ("indent" : Str))) (.var 2) (.cst (.str ("letter" : Str))) (.tup (.cons (.lst .nil) (.cons (.var 1) (.cons (.cst .non) .nil)))) (.tup (.cons (.lst .nil) (.cons (.var 1) (.cons (.cst .non) .nil)))) (.tup (.cons (.lst .nil) (.cons (.cst (.int 1)) (.cons (.cst .non) .nil)))))
  (.cons (.ret (.var 2))
  .nil)))
def t_law_bounds : Sms := (.cons (.par 1 2 (.bin .Sub (.cst (.int 0)) (.bin .Pow (.cst (.int 10)) (.cst (.int 6)))) (.dct0 false))
  (.cons (.sub2 (.var 2) (.cst (.str ("offset" : Str))) (.var 2) (.cst (.str ("margin" : Str))) (.tup (.cons (.lst (.cons (.cst .non) .nil)) (.cons (.var 1) (.cons (.var 1) .nil)))) (.tup (.cons (.lst (.cons (.cst (.str ("auto" : Str))) .nil)) (.cons (.var 1) (.cons (.var 1) .nil)))))
  (.cons (.sub2 (.var 2) (.cst (.str ("border" : Str))) (.var 2) (.cst (.str ("padding" : Str))) (.tup (.cons (.lst .nil) (.cons (.cst (.int 0)) (.cons (.cst .non) .nil)))) (.tup (.cons (.lst .nil) (.cons (.cst (.int 0)) (.cons (.cst (.int 0)) .nil)))))
  (.cons (.sub2 (.var 2) (.cst (.str ("width" : Str))) (.var 2) (.cst (.str ("height" : Str))) (.tup (.cons (.lst (.cons (.cst (.str ("auto" : Str))) .nil)) (.cons (.cst (.int 0)) (.cons (.cst (.int 0)) .nil)))) (.tup (.cons (.lst (.cons (.cst (.str ("auto" : Str))) .nil)) (.cons (.cst (.int 0)) (.cons (.ite (.var 0) (.cst (.int 0)) (.cst .non)) .nil)))))
  (.cons (.for_ (.nm 3) (.ex (.tup (.cons (.cst (.str ("least_width" : Str))) (.cons (.cst (.str ("least_height" : Str))) (.cons (.cst (.str ("up" : Str))) (.cons (.cst (.str ("down" : Str))) (.cons (.cst (.str ("line" : Str))) .nil))))))) t_law_bounds_1)
  t_law_bounds_2)))))
def N_law_bounds : List Str := [("is_placed" : Str), ("low" : Str), ("found" : Str), ("name" : Str)]
def ps_law_bounds : List Str := [("is_placed" : Str)]
def d_law_bounds : Df := ⟨(("_law_bounds" : Str), none), ("_law_bounds" : Str), ("_law_bounds" : Str), s_law_bounds, N_law_bounds, ps_law_bounds, t_law_bounds⟩
theorem o_law_bounds : DfOk pn d_law_bounds := ⟨⟨rfl, rfl, rfl, by decide +kernel, rfl, by decide +kernel, by decide +kernel⟩, by decide +kernel, fun _ _ _ _ _ _ us hl => match us, hl with | [_], _ => rfl⟩
/-! law_drawn_value -/
abbrev s_law_drawn_value : Stmt := top 40
def t_law_drawn_value_1 : Sms := (.cons (.ret (.cal 23 (.cons (.var 0) (.cons (.ix (.var 3) (.var 1)) .nil))))
  .nil)
def t_law_drawn_value_2 : Sms := (.cons (.set 9 (.ite (.cmp .Is (.var 7) (.cst .non)) (.lst .nil) (.lst (.cons (.tup (.cons (.cst (.str ("percent" : Str))) (.cons (.bi .max2 (.cons (.var 7) (.cons (.var 8) .nil))) .nil))) .nil))))
  (.cons (.ret (.cal 23 (.cons (.var 0) (.cons (.bin .Add (.bin .Add (.var 5) (.lst (.cons (.var 8) .nil))) (.var 9)) .nil))))
  .nil))
def t_law_drawn_value_3 : Sms := (.cons (.set 12 (.bin .Add (.var 12) (.lst (.cons (.tup (.cons (.cst (.str ("percent" : Str))) (.cons (.cal 23 (.cons (.var 0) (.cons (.lst (.cons (.var 7) (.cons (.cst (.int 0)) (.cons (.cst (.int 50)) (.cons (.bin .Pow (.cst (.int 10)) (.cst (.int 6))) .nil))))) .nil))) .nil))) .nil))))
  .nil)
def t_law_drawn_value_4 : Sms := (.cons (.exp (.bm .append (.var 10) (.cons (.cal 23 (.cons (.var 0) (.cons (.var 12) .nil))) .nil)))
  .nil)
def t_law_drawn_value_5 : Sms := (.cons (.set 12 (.bin .Add (.var 5) (.lst (.cons (.cst (.int 0)) (.cons (.var 8) (.cons (.bi .max2 (.cons (.var 6) (.cons (.bin .Sub (.cst (.int 3)) (.cal 22 (.cons (.var 0) (.cons (.cst (.int 9)) .nil)))) .nil))) .nil))))))
  (.cons (.ite (.cmp .IsNot (.var 7) (.cst .non)) t_law_drawn_value_3 .nil)
  t_law_drawn_value_4))
def t_law_drawn_value_6 : Sms := (.cons (.ret (.bi .tuple_ (.cons (.var 10) .nil)))
  .nil)
def t_law_drawn_value_7 : Sms := (.cons (.set 10 (.lst .nil))
  (.cons (.for_ (.nm 11) (.rng1 (.cst (.int 4))) t_law_drawn_value_5)
  t_law_drawn_value_6))
def t_law_drawn_value_8 : Sms := (.cons (.setT [5, 6, 7] (.ix (.var 4) (.var 1)))
  (.cons (.set 8 (.cal 23 (.cons (.var 0) (.cons (.lst (.cons (.var 6) (.cons (.bi .max2 (.cons (.var 6) (.cons (.cst (.int 0)) .nil))) (.cons (.cst (.int 1)) (.cons (.bin .Pow (.cst (.int 10)) (.cst (.int 6))) (.cons (.bin .Add (.cst (.int 1)) (.cal 22 (.cons (.var 0) (.cons (.cst (.int 90)) .nil)))) (.cons (.bi .max2 (.cons (.var 6) (.cons (.bin .Sub (.cst (.int 0)) (.cst (.int 7))) .nil))) .nil))))))) .nil))))
  (.cons (.ite (.cmp .NotIn (.var 1) (.tup (.cons (.cst (.str ("offset" : Str))) (.cons (.cst (.str ("margin" : Str))) (.cons (.cst (.str ("border" : Str))) (.cons (.cst (.str ("padding" : Str))) .nil)))))) t_law_drawn_value_2 .nil)
  t_law_drawn_value_7)))
def t_law_drawn_value : Sms := (.cons (.par 3 4 (.cal 25 .nil) (.cal 26 (.cons (.var 2) .nil)))
  (.cons (.ite (.cmp .In (.var 1) (.var 3)) t_law_drawn_value_1 .nil)
  t_law_drawn_value_8))
def N_law_drawn_value : List Str := [("state" : Str), ("name" : Str), ("is_placed" : Str), ("choices" : Str), ("bounds" : Str), ("some" : Str), ("least" : Str), ("lowest" : Str), ("number" : Str), ("shares" : Str), ("found" : Str), ("k" : Str), ("parts" : Str)]
def ps_law_drawn_value : List Str := [("state" : Str), ("name" : Str), ("is_placed" : Str)]
def d_law_drawn_value : Df := ⟨(("_law_drawn_value" : Str), none), ("_law_drawn_value" : Str), ("_law_drawn_value" : Str), s_law_drawn_value, N_law_drawn_value, ps_law_drawn_value, t_law_drawn_value⟩
theorem o_law_drawn_value : DfOk pn d_law_drawn_value := ⟨⟨rfl, rfl, rfl, by decide +kernel, rfl, by decide +kernel, by decide +kernel⟩, by decide +kernel, fun _ _ _ _ _ _ us hl => match us, hl with | [_, _, _], _ => rfl⟩
/-! law_drawn_style -/
abbrev s_law_drawn_style : Stmt := top 41
def t_law_drawn_style_1 : Sms := (.cons (.set 3 (.rev (.var 3)))
  .nil)
def t_law_drawn_style_2 : Sms := (.cons (.sub (.var 2) (.var 4) (.cal 27 (.cons (.var 0) (.cons (.var 4) (.cons (.cst (.bl false)) .nil)))))
  .nil)
def t_law_drawn_style_3 : Sms := (.cons (.ite (.cmp .Eq (.cal 22 (.cons (.var 0) (.cons (.var 1) .nil))) (.cst (.int 0))) t_law_drawn_style_2 .nil)
  .nil)
def t_law_drawn_style_4 : Sms := (.cons (.sub (.var 2) (.cst (.str ("height" : Str))) (.tup (.cons (.cst (.str ("percent" : Str))) (.cons (.cal 22 (.cons (.var 0) (.cons (.cst (.int 200)) .nil))) .nil))))
  .nil)
def t_law_drawn_style_5 : Sms := (.cons (.ret (.var 2))
  .nil)
def t_law_drawn_style_6 : Sms := (.cons (.ite (.and_ (.cmp .Eq (.dget1 (.var 2) (.cst (.str ("place" : Str)))) (.cst (.str ("absolute" : Str)))) (.cmp .Eq (.cal 22 (.cons (.var 0) (.cons (.cst (.int 2)) .nil))) (.cst (.int 0)))) t_law_drawn_style_4 .nil)
  t_law_drawn_style_5)
def t_law_drawn_style_7 : Sms := (.cons (.for_ (.nm 4) (.ex (.var 3)) t_law_drawn_style_3)
  t_law_drawn_style_6)
def t_law_drawn_style : Sms := (.cons (.par 2 3 (.dct0 false) (.cal 24 .nil))
  (.cons (.ite (.cmp .Eq (.cal 22 (.cons (.var 0) (.cons (.var 1) .nil))) (.cst (.int 0))) t_law_drawn_style_1 .nil)
  t_law_drawn_style_7))
def N_law_drawn_style : List Str := [("state" : Str), ("often" : Str), ("found" : Str), ("names" : Str), ("name" : Str)]
def ps_law_drawn_style : List Str := [("state" : Str), ("often" : Str)]
def d_law_drawn_style : Df := ⟨(("_law_drawn_style" : Str), none), ("_law_drawn_style" : Str), ("_law_drawn_style" : Str), s_law_drawn_style, N_law_drawn_style, ps_law_drawn_style, t_law_drawn_style⟩
theorem o_law_drawn_style : DfOk pn d_law_drawn_style := ⟨⟨rfl, rfl, rfl, by decide +kernel, rfl, by decide +kernel, by decide +kernel⟩, by decide +kernel, fun _ _ _ _ _ _ us hl => match us, hl with | [_, _], _ => rfl⟩
/-! law_string -/
abbrev s_law_string : Stmt := top 42
def t_law_string : Sms := (.cons (.set 1 (.cst (.str (" abz~!:=,.'#\"\\" : Str))))
  (.cons (.ret (.join (.cst (.str ("" : Str))) (.lc [(("k" : Str), 2)] (.nm 2) (.rng1 (.cal 22 (.cons (.var 0) (.cons (.cst (.int 9)) .nil)))) .nil (.cal 23 (.cons (.var 0) (.cons (.var 1) .nil))))))
  .nil))
def N_law_string : List Str := [("state" : Str), ("signs" : Str), ("k" : Str)]
def ps_law_string : List Str := [("state" : Str)]
def d_law_string : Df := ⟨(("_law_string" : Str), none), ("_law_string" : Str), ("_law_string" : Str), s_law_string, N_law_string, ps_law_string, t_law_string⟩
theorem o_law_string : DfOk pn d_law_string := ⟨⟨rfl, rfl, rfl, by decide +kernel, rfl, by decide +kernel, by decide +kernel⟩, by decide +kernel, fun _ _ _ _ _ _ us hl => match us, hl with | [_], _ => rfl⟩
/-! law_drawn_node -/
abbrev s_law_drawn_node : Stmt := top 43
def t_law_drawn_node_1 : Sms := (.cons (.ret (.tup (.cons (.var 4) (.cons (.cal 29 (.cons (.var 0) .nil)) .nil))))
  .nil)
def t_law_drawn_node_2 : Sms := (.cons (.ret (.tup (.cons (.var 4) .nil)))
  .nil)
def t_law_drawn_node_3 : Sms := (.cons (.ret (.tup (.cons (.var 4) (.cons (.var 5) (.cons (.cal 23 (.cons (.var 0) (.cons (.lst (.cons (.cst (.int 0)) (.cons (.cst (.int 5)) (.cons (.bin .Pow (.cst (.int 10)) (.cst (.int 6))) .nil)))) .nil))) (.cons (.cal 22 (.cons (.var 0) (.cons (.cst (.int 60)) .nil))) .nil))))))
  .nil)
def t_law_drawn_node_4 : Sms := (.cons (.sub (.var 5) (.cst (.str ("float" : Str))) (.cal 23 (.cons (.var 0) (.cons (.lst (.cons (.cst (.str ("left" : Str))) (.cons (.cst (.str ("right" : Str))) .nil))) .nil))))
  .nil)
def t_law_drawn_node_5 : Sms := (.cons (.exp (.bm .append (.var 7) (.cons (.cal 30 (.cons (.var 0) (.cons (.var 1) (.cons (.bin .Sub (.var 2) (.cst (.int 1))) (.cons (.var 4) .nil))))) .nil)))
  .nil)
def t_law_drawn_node_6 : Sms := (.cons (.ite (.and_ (.cmp .Gt (.ix (.var 1) (.cst (.int 0))) (.cst (.int 0))) (.cmp .Gt (.var 2) (.cst (.int 0)))) t_law_drawn_node_5 .nil)
  .nil)
def t_law_drawn_node_7 : Sms := (.cons (.ret (.tup (.cons (.var 4) (.cons (.var 5) (.cons (.bi .tuple_ (.cons (.var 7) .nil)) .nil)))))
  .nil)
def t_law_drawn_node_8 : Sms := (.cons (.set 7 (.lst .nil))
  (.cons (.for_ (.nm 8) (.rng1 (.cal 22 (.cons (.var 0) (.cons (.cst (.int 5)) .nil)))) t_law_drawn_node_6)
  t_law_drawn_node_7))
def t_law_drawn_node_9 : Sms := (.cons (.set 6 (.or_ (.cmp .IsNot (.dget1 (.var 5) (.cst (.str ("float" : Str)))) (.cst .non)) (.cmp .Eq (.dget1 (.var 5) (.cst (.str ("place" : Str)))) (.cst (.str ("absolute" : Str))))))
  (.cons (.ite (.and_ (.cmp .Eq (.var 3) (.cst (.str ("inline" : Str)))) (.and_ (.cmp .In (.var 4) (.tup (.cons (.cst (.str ("block" : Str))) (.cons (.cst (.str ("root" : Str))) .nil)))) (.not_ (.var 6)))) t_law_drawn_node_4 .nil)
  t_law_drawn_node_8))
def t_law_drawn_node_10 : Sms := (.cons (.set 5 (.cal 28 (.cons (.var 0) (.cons (.cst (.int 9)) .nil))))
  (.cons (.ite (.cmp .Eq (.var 4) (.cst (.str ("image" : Str)))) t_law_drawn_node_3 .nil)
  t_law_drawn_node_9))
def t_law_drawn_node_11 : Sms := (.cons (.ite (.cmp .Eq (.var 4) (.cst (.str ("break" : Str)))) t_law_drawn_node_2 .nil)
  t_law_drawn_node_10)
def t_law_drawn_node : Sms := (.cons (.sub (.var 1) (.cst (.int 0)) (.bin .Sub (.ix (.var 1) (.cst (.int 0))) (.cst (.int 1))))
  (.cons (.set 4 (.cal 23 (.cons (.var 0) (.cons (.lst (.cons (.cst (.str ("block" : Str))) (.cons (.cst (.str ("block" : Str))) (.cons (.cst (.str ("root" : Str))) (.cons (.cst (.str ("piece" : Str))) (.cons (.cst (.str ("inline" : Str))) (.cons (.cst (.str ("inline" : Str))) (.cons (.cst (.str ("image" : Str))) (.cons (.cst (.str ("text" : Str))) (.cons (.cst (.str ("text" : Str))) (.cons (.cst (.str ("break" : Str))) .nil))))))))))) .nil))))
  (.cons (.ite (.cmp .Eq (.var 4) (.cst (.str ("text" : Str)))) t_law_drawn_node_1 .nil)
  t_law_drawn_node_11)))
def N_law_drawn_node : List Str := [("state" : Str), ("left" : Str), ("deep" : Str), ("above" : Str), ("kind" : Str), ("style" : Str), ("is_away" : Str), ("kids" : Str), ("k" : Str)]
def ps_law_drawn_node : List Str := [("state" : Str), ("left" : Str), ("deep" : Str), ("above" : Str)]
def d_law_drawn_node : Df := ⟨(("_law_drawn_node" : Str), none), ("_law_drawn_node" : Str), ("_law_drawn_node" : Str), s_law_drawn_node, N_law_drawn_node, ps_law_drawn_node, t_law_drawn_node⟩
theorem o_law_drawn_node : DfOk pn d_law_drawn_node := ⟨⟨rfl, rfl, rfl, by decide +kernel, rfl, by decide +kernel, by decide +kernel⟩, by decide +kernel, fun _ _ _ _ _ _ us hl => match us, hl with | [_, _, _, _], _ => rfl⟩
/-! law_drawn_tree -/
abbrev s_law_drawn_tree : Stmt := top 44
def t_law_drawn_tree_1 : Sms := (.cons (.exp (.dpop2 (.var 2) (.cst (.str ("height" : Str))) (.cst .non)))
  .nil)
def t_law_drawn_tree_2 : Sms := (.cons (.exp (.bm .append (.var 4) (.cons (.cal 30 (.cons (.var 0) (.cons (.var 3) (.cons (.cal 23 (.cons (.var 0) (.cons (.lst (.cons (.cst (.int 2)) (.cons (.cst (.int 4)) (.cons (.cst (.int 9)) .nil)))) .nil))) (.cons (.var 5) .nil))))) .nil)))
  .nil)
def t_law_drawn_tree_3 : Sms := (.cons (.ite (.cmp .Gt (.ix (.var 3) (.cst (.int 0))) (.cst (.int 0))) t_law_drawn_tree_2 .nil)
  .nil)
def t_law_drawn_tree_4 : Sms := (.cons (.ret (.tup (.cons (.var 5) (.cons (.var 2) (.cons (.bi .tuple_ (.cons (.var 4) .nil)) .nil)))))
  .nil)
def t_law_drawn_tree_5 : Sms := (.cons (.set 5 (.cal 23 (.cons (.var 0) (.cons (.lst (.cons (.cst (.str ("block" : Str))) (.cons (.cst (.str ("root" : Str))) .nil))) .nil))))
  (.cons (.for_ (.nm 6) (.rng1 (.bin .Add (.cst (.int 1)) (.cal 22 (.cons (.var 0) (.cons (.cst (.int 6)) .nil))))) t_law_drawn_tree_3)
  t_law_drawn_tree_4))
def t_law_drawn_tree : Sms := (.cons (.par3 2 3 4 (.cal 28 (.cons (.var 0) (.cons (.cst (.int 9)) .nil))) (.lst (.cons (.bin .Sub (.var 1) (.cst (.int 1))) .nil)) (.lst .nil))
  (.cons (.exp (.dpop2 (.var 2) (.cst (.str ("float" : Str))) (.cst .non)))
  (.cons (.ite (.cmp .Eq (.dpop2 (.var 2) (.cst (.str ("place" : Str))) (.cst .non)) (.cst (.str ("absolute" : Str)))) t_law_drawn_tree_1 .nil)
  t_law_drawn_tree_5)))
def N_law_drawn_tree : List Str := [("state" : Str), ("many" : Str), ("style" : Str), ("left" : Str), ("kids" : Str), ("kind" : Str), ("k" : Str)]
def ps_law_drawn_tree : List Str := [("state" : Str), ("many" : Str)]
def d_law_drawn_tree : Df := ⟨(("_law_drawn_tree" : Str), none), ("_law_drawn_tree" : Str), ("_law_drawn_tree" : Str), s_law_drawn_tree, N_law_drawn_tree, ps_law_drawn_tree, t_law_drawn_tree⟩
theorem o_law_drawn_tree : DfOk pn d_law_drawn_tree := ⟨⟨rfl, rfl, rfl, by decide +kernel, rfl, by decide +kernel, by decide +kernel⟩, by decide +kernel, fun _ _ _ _ _ _ us hl => match us, hl with | [_, _], _ => rfl⟩
/-! law_value_text -/
abbrev s_law_value_text : Stmt := top 45
def t_law_value_text_1 : Sms := (.cons (.ret (.cst (.str ("none" : Str))))
  .nil)
def t_law_value_text_2 : Sms := (.cons (.ret (.ix (.lst (.cons (.cst (.str ("no" : Str))) (.cons (.cst (.str ("yes" : Str))) .nil))) (.bi .int_ (.cons (.var 0) .nil))))
  .nil)
def t_law_value_text_3 : Sms := (.cons (.ret (.bin .Add (.bi .str_ (.cons (.ix (.var 0) (.cst (.int 1))) .nil)) (.cst (.str ("pc" : Str)))))
  .nil)
def t_law_value_text_4 : Sms := (.cons (.ret (.join (.cst (.str ("," : Str))) (.lc [(("part" : Str), 1)] (.nm 1) (.ex (.var 0)) .nil (.cal 32 (.cons (.var 1) .nil)))))
  .nil)
def t_law_value_text_5 : Sms := (.cons (.ret (.ite (.bi .isi (.cons (.var 0) (.cons (.bty "str") .nil))) (.var 0) (.bi .str_ (.cons (.var 0) .nil))))
  .nil)
def t_law_value_text_6 : Sms := (.cons (.ite (.bi .isi (.cons (.var 0) (.cons (.bty "tuple") .nil))) t_law_value_text_4 .nil)
  t_law_value_text_5)
def t_law_value_text_7 : Sms := (.cons (.ite (.and_ (.bi .isi (.cons (.var 0) (.cons (.bty "tuple") .nil))) (.cmp .Eq (.bi .len (.cons (.var 0) .nil)) (.cst (.int 2)))) t_law_value_text_3 .nil)
  t_law_value_text_6)
def t_law_value_text_8 : Sms := (.cons (.ite (.bi .isi (.cons (.var 0) (.cons (.bty "bool") .nil))) t_law_value_text_2 .nil)
  t_law_value_text_7)
def t_law_value_text : Sms := (.cons (.ite (.cmp .Is (.var 0) (.cst .non)) t_law_value_text_1 .nil)
  t_law_value_text_8)
def N_law_value_text : List Str := [("thing" : Str), ("part" : Str)]
def ps_law_value_text : List Str := [("thing" : Str)]
def d_law_value_text : Df := ⟨(("_law_value_text" : Str), none), ("_law_value_text" : Str), ("_law_value_text" : Str), s_law_value_text, N_law_value_text, ps_law_value_text, t_law_value_text⟩
theorem o_law_value_text : DfOk pn d_law_value_text := ⟨⟨rfl, rfl, rfl, by decide +kernel, rfl, by decide +kernel, by decide +kernel⟩, by decide +kernel, fun _ _ _ _ _ _ us hl => match us, hl with | [_], _ => rfl⟩
/-! law_rows -/
abbrev s_law_rows : Stmt := top 46
def t_law_rows_1 : Sms := (.cons (.ret (.lst (.cons (.bin .Add (.bin .Add (.bin .Mult (.cst (.str ("  " : Str))) (.var 1)) (.cst (.str ("text:" : Str)))) (.ix (.var 0) (.cst (.int 1)))) .nil)))
  .nil)
def t_law_rows_2 : Sms := (.cons (.ret (.lst (.cons (.bin .Add (.bin .Mult (.cst (.str ("  " : Str))) (.var 1)) (.cst (.str ("break" : Str)))) .nil)))
  .nil)
def t_law_rows_3 : Sms := (.cons (.exp (.bm .append (.var 2) (.cons (.bin .Add (.bin .Add (.var 3) (.cst (.str ("=" : Str)))) (.cal 32 (.cons (.ix (.ix (.var 0) (.cst (.int 1))) (.var 3)) .nil))) .nil)))
  .nil)
def t_law_rows_4 : Sms := (.cons (.ite (.cmp .In (.var 3) (.ix (.var 0) (.cst (.int 1)))) t_law_rows_3 .nil)
  .nil)
def t_law_rows_5 : Sms := (.cons (.set 4 (.bin .Add (.var 4) (.cal 33 (.cons (.var 5) (.cons (.bin .Add (.var 1) (.cst (.int 1))) .nil)))))
  .nil)
def t_law_rows_6 : Sms := (.cons (.ret (.var 4))
  .nil)
def t_law_rows_7 : Sms := (.cons (.set 4 (.lst (.cons (.bin .Add (.bin .Mult (.cst (.str ("  " : Str))) (.var 1)) (.join (.cst (.str (" " : Str))) (.var 2))) .nil)))
  (.cons (.for_ (.nm 5) (.ex (.ite (.cmp .NotEq (.ix (.var 0) (.cst (.int 0))) (.cst (.str ("image" : Str)))) (.ix (.var 0) (.cst (.int 2))) (.tup .nil))) t_law_rows_5)
  t_law_rows_6))
def t_law_rows_8 : Sms := (.cons (.set 2 (.bin .Add (.lst (.cons (.ix (.var 0) (.cst (.int 0))) .nil)) (.ite (.cmp .Eq (.ix (.var 0) (.cst (.int 0))) (.cst (.str ("image" : Str)))) (.lst (.cons (.bi .str_ (.cons (.ix (.var 0) (.cst (.int 2))) .nil)) (.cons (.bi .str_ (.cons (.ix (.var 0) (.cst (.int 3))) .nil)) .nil))) (.lst .nil))))
  (.cons (.for_ (.nm 3) (.ex (.cal 24 .nil)) t_law_rows_4)
  t_law_rows_7))
def t_law_rows_9 : Sms := (.cons (.ite (.cmp .Eq (.ix (.var 0) (.cst (.int 0))) (.cst (.str ("break" : Str)))) t_law_rows_2 .nil)
  t_law_rows_8)
def t_law_rows : Sms := (.cons (.ite (.cmp .Eq (.ix (.var 0) (.cst (.int 0))) (.cst (.str ("text" : Str)))) t_law_rows_1 .nil)
  t_law_rows_9)
def N_law_rows : List Str := [("node" : Str), ("level" : Str), ("words" : Str), ("name" : Str), ("found" : Str), ("kid" : Str)]
def ps_law_rows : List Str := [("node" : Str), ("level" : Str)]
def d_law_rows : Df := ⟨(("_law_rows" : Str), none), ("_law_rows" : Str), ("_law_rows" : Str), s_law_rows, N_law_rows, ps_law_rows, t_law_rows⟩
theorem o_law_rows : DfOk pn d_law_rows := ⟨⟨rfl, rfl, rfl, by decide +kernel, rfl, by decide +kernel, by decide +kernel⟩, by decide +kernel, fun _ _ _ _ _ _ us hl => match us, hl with | [_, _], _ => rfl⟩
/-! law -/
abbrev s_law : Stmt := top 47
def t_law_1 : Sms := (.cons (.ret (.cst (.bl false)))
  .nil)
def t_law_2 : Sms := (.cons (.set 4 (.cal 31 (.cons (.var 2) (.cons (.var 3) .nil))))
  (.cons (.set 5 (.bi .repr_ (.cons (.var 4) .nil)))
  (.cons (.ite (.or_ (.cmp .NotEq (.cal 20 (.cons (.var 4) .nil)) (.join (.cst (.str ("\n" : Str))) (.cal 33 (.cons (.var 4) (.cons (.cst (.int 0)) .nil))))) (.cmp .NotEq (.bi .repr_ (.cons (.var 4) .nil)) (.var 5))) t_law_1 .nil)
  .nil)))
def t_law_3 : Sms := (.cons (.set 2 (.lst (.cons (.var 1) .nil)))
  (.cons (.for_ (.nm 3) (.ex (.tup (.cons (.cst (.int 1)) (.cons (.cst (.int 6)) (.cons (.cst (.int 40)) (.cons (.cst (.int 120)) .nil)))))) t_law_2)
  .nil))
def t_law_4 : Sms := (.cons (.set 6 (.dctK [("clip" : Str), ("margin" : Str), ("float" : Str), ("width" : Str)] (.cons (.cst (.bl true)) (.cons (.tup (.cons (.cst (.int 0)) (.cons (.tup (.cons (.cst (.str ("percent" : Str))) (.cons (.cst (.int 5)) .nil))) (.cons (.cst (.str ("auto" : Str))) (.cons (.neg (.cst (.int 3))) .nil))))) (.cons (.cst .non) (.cons (.tup (.cons (.cst (.str ("percent" : Str))) (.cons (.cst (.int 0)) .nil))) .nil))))))
  (.cons (.set 7 (.tup (.cons (.cst (.str ("block" : Str))) (.cons (.var 6) (.cons (.tup (.cons (.tup (.cons (.cst (.str ("text" : Str))) (.cons (.cst (.str (" a " : Str))) .nil))) (.cons (.tup (.cons (.cst (.str ("image" : Str))) (.cons (.dctK [("raise" : Str)] (.cons (.neg (.cst (.int 2))) .nil)) (.cons (.cst (.int 3)) (.cons (.cst (.int 0)) .nil))))) (.cons (.tup (.cons (.cst (.str ("inline" : Str))) (.cons (.dct0 false) (.cons (.tup (.cons (.tup (.cons (.cst (.str ("break" : Str))) .nil)) .nil)) .nil)))) .nil)))) .nil)))))
  (.cons (.set 8 (.lst (.cons (.cst (.str ("block float=none width=0pc margin=0,5pc,auto,-3 clip=yes" : Str))) (.cons (.cst (.str ("  text: a " : Str))) (.cons (.cst (.str ("  image 3 0 raise=-2" : Str))) .nil)))))
  (.cons (.ret (.cmp .Eq (.cal 20 (.cons (.var 7) .nil)) (.join (.cst (.str ("\n" : Str))) (.bin .Add (.var 8) (.lst (.cons (.cst (.str ("  inline" : Str))) (.cons (.cst (.str ("    break" : Str))) .nil)))))))
  .nil))))
def t_law : Sms := (.cons (.for_ (.nm 1) (.ex (.bin .Add (.lst (.cons (.cal 21 (.cons (.var 0) (.cons (.cst (.int 0)) .nil))) .nil)) (.sl (.var 0) (.so (.cst (.int 1))) (.so (.cst (.int 4)))))) t_law_3)
  t_law_4)
def N_law : List Str := [("script" : Str), ("cell" : Str), ("state" : Str), ("many" : Str), ("whole" : Str), ("stood" : Str), ("style" : Str), ("found" : Str), ("rows" : Str)]
def ps_law : List Str := [("script" : Str)]
def d_law : Df := ⟨(("law" : Str), none), ("law" : Str), ("law" : Str), s_law, N_law, ps_law, t_law⟩
theorem o_law : DfOk pn d_law := ⟨⟨rfl, rfl, rfl, by decide +kernel, rfl, by decide +kernel, by decide +kernel⟩, by decide +kernel, fun _ _ _ _ _ _ us hl => match us, hl with | [_], _ => rfl⟩
def gs : List (Str × D) := [(("MOST" : Str), (.int 1000000)), (("MOST_SIGNS" : Str), (.int 400)), (("MOST_NODES" : Str), (.int 120)), (("MOST_LEVELS" : Str), (.int 10)), (("KINDS" : Str), (.tup [(.str ("block" : Str)), (.str ("root" : Str)), (.str ("piece" : Str)), (.str ("inline" : Str))])), (("FIRST" : Str), (.rd [(("float" : Str), .non), (("clear" : Str), .non), (("place" : Str), .non), (("offset" : Str), (.tup [.non, .non, .non, .non])), (("width" : Str), (.str ("auto" : Str))), (("height" : Str), (.str ("auto" : Str))), (("least_width" : Str), (.int 0)), (("least_height" : Str), (.int 0)), (("most_width" : Str), .non), (("most_height" : Str), .non), (("margin" : Str), (.tup [(.int 0), (.int 0), (.int 0), (.int 0)])), (("border" : Str), (.tup [(.int 0), (.int 0), (.int 0), (.int 0)])), (("padding" : Str), (.tup [(.int 0), (.int 0), (.int 0), (.int 0)])), (("clip" : Str), (.bl false)), (("raise" : Str), (.int 0)), (("letter" : Str), (.int 10)), (("up" : Str), (.int 8)), (("down" : Str), (.int 2)), (("line" : Str), (.int 10)), (("wrap" : Str), (.str ("normal" : Str))), (("align" : Str), (.str ("left" : Str))), (("indent" : Str), (.int 0))])), (("WORDS" : Str), (.rd [(("float" : Str), (.tup [.non, (.str ("left" : Str)), (.str ("right" : Str))])), (("clear" : Str), (.tup [.non, (.str ("left" : Str)), (.str ("right" : Str)), (.str ("both" : Str))])), (("place" : Str), (.tup [.non, (.str ("relative" : Str)), (.str ("absolute" : Str))])), (("wrap" : Str), (.tup [(.str ("normal" : Str)), (.str ("whole" : Str))])), (("align" : Str), (.tup [(.str ("left" : Str)), (.str ("right" : Str)), (.str ("center" : Str))]))])), (("is_size" : Str), (.fn 1)), (("is_offset" : Str), (.fn 3)), (("is_margin" : Str), (.fn 5)), (("is_padding" : Str), (.fn 7))]
def P0 : Pg := ⟨fun x => gs.lookup x⟩
abbrev xs_NoTree : Stmt := inClass (top 2) 0
def x_NoTree : Xd := ⟨1, ("NoTree" : Str), ("BoxError" : Str), ("path" : Str), ("path" : Str), ("NoTree.__init__" : Str), xs_NoTree⟩
theorem xo_NoTree : XdOk x_NoTree := ⟨⟨rfl, rfl, rfl, by decide +kernel, rfl, by decide +kernel, by decide +kernel⟩, by decide +kernel, by decide +kernel, by decide +kernel, by decide +kernel, by decide +kernel, by decide +kernel, fun _ _ _ _ _ _ _ us its h1 h2 => match us, its, h1, h2 with | [_, _], [_], _, _ => ⟨_, rfl, rfl⟩⟩
def xs : List Xd := [x_NoTree]
theorem x_all : ∀ d ∈ xs, XdOk d := by
  intro d hd
  simp only [xs, List.mem_cons, List.not_mem_nil, or_false] at hd
  rcases hd with rfl
  · exact xo_NoTree
def fs : List Df := [d_is_whole, d_is_size, d_is_percent, d_is_offset, d_is_auto, d_is_margin, d_is_share, d_is_padding, d_are_four, d_is_style_value, d_is_style, d_is_text, d_is_node, d_style_of, d_may_be_top, d_is_out, d_check, d_value_text, d_node_row, d_node_rows, d_tree_text, d_law_cell_at, d_law_digit, d_law_one, d_law_names, d_law_choices, d_law_bounds, d_law_drawn_value, d_law_drawn_style, d_law_string, d_law_drawn_node, d_law_drawn_tree, d_law_value_text, d_law_rows, d_law]
theorem o_all : ∀ f ∈ fs, DfOk pn f := by
  intro f hf
  simp only [fs, List.mem_cons, List.not_mem_nil, or_false] at hf
  rcases hf with rfl | rfl | rfl | rfl | rfl | rfl | rfl | rfl | rfl | rfl | rfl | rfl | rfl | rfl | rfl | rfl | rfl | rfl | rfl | rfl | rfl | rfl | rfl | rfl | rfl | rfl | rfl | rfl | rfl | rfl | rfl | rfl | rfl | rfl | rfl
  · exact o_is_whole
  · exact o_is_size
  · exact o_is_percent
  · exact o_is_offset
  · exact o_is_auto
  · exact o_is_margin
  · exact o_is_share
  · exact o_is_padding
  · exact o_are_four
  · exact o_is_style_value
  · exact o_is_style
  · exact o_is_text
  · exact o_is_node
  · exact o_style_of
  · exact o_may_be_top
  · exact o_is_out
  · exact o_check
  · exact o_value_text
  · exact o_node_row
  · exact o_node_rows
  · exact o_tree_text
  · exact o_law_cell_at
  · exact o_law_digit
  · exact o_law_one
  · exact o_law_names
  · exact o_law_choices
  · exact o_law_bounds
  · exact o_law_drawn_value
  · exact o_law_drawn_style
  · exact o_law_string
  · exact o_law_drawn_node
  · exact o_law_drawn_tree
  · exact o_law_value_text
  · exact o_law_rows
  · exact o_law
theorem kbs_ok : KbsOk pn fs := fun _ _ _ _ h => by cases h

end K85

set_option Elab.async false
set_option linter.all false
set_option maxRecDepth 100000
set_option maxHeartbeats 0
namespace K85
open L2 DI PySem PySem.Spec PyProof.Rows
abbrev R : PySem.W.OpenRow := PySem.W.OpenLaw.row PySem.Challenge.rw_flowboxes_k85_texts_of_trees
def fa : List He.Fa := faOf pn xs
def fn : List He.DefD := fs.map Df.dd ++ xs.map Xd.dd
abbrev hk : PySem.W.Hook := hookS 6 fa fn (tabs gs) (exB fs pn gs xs)
def ob (s : PySem.W.SharedT) : AlS := obsS 6 fa fn (tabs gs) (exB fs pn gs xs) (HandSHeadRun.getT s)
theorem ob_eq (s : PySem.W.SharedT) : ob s = hk.obs s.abs := obsS_eq (HandSHeadRun.getT_eq s)
def loose : List Str := [("__name__" : Str), ("BoxError" : Str), ("NoTree" : Str), ("MOST" : Str), ("MOST_SIGNS" : Str), ("MOST_NODES" : Str), ("MOST_LEVELS" : Str), ("KINDS" : Str), ("FIRST" : Str), ("WORDS" : Str), ("is_whole" : Str), ("is_size" : Str), ("is_percent" : Str), ("is_share" : Str), ("is_auto" : Str), ("is_offset" : Str), ("is_margin" : Str), ("is_padding" : Str), ("are_four" : Str), ("is_style_value" : Str), ("is_style" : Str), ("is_text" : Str), ("is_node" : Str), ("style_of" : Str), ("is_out" : Str), ("may_be_top" : Str), ("check" : Str), ("value_text" : Str), ("node_row" : Str), ("node_rows" : Str), ("tree_text" : Str), ("_law_cell_at" : Str), ("_law_digit" : Str), ("_law_one" : Str), ("_law_choices" : Str), ("_law_bounds" : Str), ("_law_names" : Str), ("_law_drawn_value" : Str), ("_law_drawn_style" : Str), ("_law_string" : Str), ("_law_drawn_node" : Str), ("_law_drawn_tree" : Str), ("_law_value_text" : Str), ("_law_rows" : Str)]
theorem run0 (w : World) : HandSHeadRun.RunEq R (PySem.W.view R.prog [47]) hk ob 30000 loose (w.withFollow "special-get-raises" false) := by
  intro os
  kernel_rfl
theorem run1 (w : World) : HandSHeadRun.RunEq R (PySem.W.view R.prog [47]) hk ob 30000 loose (w.withFollow "special-get-raises" true) := by
  intro os
  kernel_rfl
theorem run : ∀ w : World, HandSHeadRun.RunEq R (PySem.W.view R.prog [47]) hk ob 30000 loose w := PySem.W.byRow2 "special-get-raises" run0 run1
end K85

set_option Elab.async false
set_option linter.all false
set_option maxRecDepth 100000
set_option maxHeartbeats 4000000
/-! What a text comes to: a calculus of answers. -/
namespace DI
open L2 PySem PySem.Spec PyProof.Rows
def W {α : Type} (o : Out α) (Q : α → Sto → Prop) : Prop := match o with | .ok a S => Q a S | _ => False
structure Po where
  nx : Sl → Sto → Prop := fun _ _ => False
  rt : D → Sto → Prop := fun _ _ => False
  bk : Sl → Sto → Prop := fun _ _ => False
  ct : Sl → Sto → Prop := fun _ _ => False
  er : Nat → Option (List (Str × D)) → Sto → Prop := fun _ _ _ => False
def WS (o : OutS) (Q : Po) : Prop := match o with | .nx σ S => Q.nx σ S | .rt d S => Q.rt d S | .bk σ S => Q.bk σ S | .ct σ S => Q.ct σ S | .err c fs _ S => Q.er c fs S | .bad => False
/-- an answer, or an error -/
def WE {α : Type} (o : Out α) (Q : α → Sto → Prop) (R : Nat → Option (List (Str × D)) → Sto → Prop) : Prop := match o with | .ok a S => Q a S | .err c fs S => R c fs S | .bad => False
section
variable {α β : Type}
theorem W_bind (o : Out α) (f : α → Sto → Out β) (Q : β → Sto → Prop) : W (o.bind f) Q = W o fun a S => W (f a S) Q := by cases o <;> rfl
theorem W_ok (a : α) (S : Sto) (Q : α → Sto → Prop) : W (.ok a S) Q = Q a S := rfl
theorem W_bad (Q : α → Sto → Prop) : W .bad Q = False := rfl
theorem of_some (a : α) (S : Sto) : Out.of (some (a, S)) = .ok a S := rfl
theorem at_some (a : α) (S : Sto) : Out.at S (some a) = .ok a S := rfl
theorem fin_f (o : Out D) : fin false o = o := rfl
theorem fin_t (o : Out D) : fin true o = o.bind fun d S => .at S ((truSem d S).map D.bl) := rfl
theorem fin_bl (b t : Bool) (S : Sto) : fin b (.ok (.bl t) S) = .ok (.bl t) S := by cases b <;> rfl
theorem W_tst (o : Out D) (Q : Bool → Sto → Prop) : W (tstO o) Q = W o fun d S => match d with | .bl t => Q t S | _ => False := by
  unfold tstO
  rw [W_bind]
  congr 1
  funext d S
  cases d <;> rfl
theorem W_mono {o : Out α} {Q R : α → Sto → Prop} (h : W o Q) (i : ∀ a S, Q a S → R a S) : W o R := by
  cases o with
  | ok a S => exact i a S h
  | err => exact h
  | bad => exact h
theorem W_ex {o : Out α} {Q : α → Sto → Prop} (h : W o Q) : ∃ a S, o = .ok a S ∧ Q a S := by
  cases o with
  | ok a S => exact ⟨a, S, rfl, h⟩
  | err => exact h.elim
  | bad => exact h.elim
theorem WS_thn {o : Out α} {σ : Sl} {f : α → Sto → OutS} {Q : Po} (h : W o fun a S => WS (f a S) Q) : WS (o.thn σ f) Q := by
  cases o with
  | ok a S => exact h
  | err => exact h.elim
  | bad => exact h
theorem WS_thnE {o : Out α} {σ : Sl} {f : α → Sto → OutS} {Q : Po} (h : WE o (fun a S => WS (f a S) Q) Q.er) : WS (o.thn σ f) Q := by
  cases o with
  | ok a S => exact h
  | err => exact h
  | bad => exact h
theorem WS_nx (σ : Sl) (S : Sto) (Q : Po) : WS (.nx σ S) Q = Q.nx σ S := rfl
theorem WS_rt (d : D) (S : Sto) (Q : Po) : WS (.rt d S) Q = Q.rt d S := rfl
theorem WS_bk (σ : Sl) (S : Sto) (Q : Po) : WS (.bk σ S) Q = Q.bk σ S := rfl
theorem WS_ct (σ : Sl) (S : Sto) (Q : Po) : WS (.ct σ S) Q = Q.ct σ S := rfl
theorem WS_bad (Q : Po) : WS .bad Q = False := rfl
theorem WS_nxt (o : OutS) (f : Sl → Sto → OutS) (Q : Po) : WS (o.nxt f) Q = WS o { Q with nx := fun σ S => WS (f σ S) Q } := by cases o <;> rfl
theorem WS_mono {o : OutS} {Q R : Po} (h : WS o Q) (i1 : ∀ σ S, Q.nx σ S → R.nx σ S) (i2 : ∀ d S, Q.rt d S → R.rt d S) (i3 : ∀ σ S, Q.bk σ S → R.bk σ S := by intros; assumption) (i4 : ∀ σ S, Q.ct σ S → R.ct σ S := by intros; assumption) (i5 : ∀ c fs S, Q.er c fs S → R.er c fs S := by intros; assumption) : WS o R := by
  cases o with
  | nx σ S => exact i1 _ _ h
  | rt d S => exact i2 _ _ h
  | bk σ S => exact i3 _ _ h
  | ct σ S => exact i4 _ _ h
  | err => exact i5 _ _ _ h
  | bad => exact h.elim
theorem W_run {P : Pg} {C : Nat → List D → Sto → Out D} {n np : Nat} {T : Sms} {ds : List D} {S : Sto} {Q : D → Sto → Prop} (hl : ds.length = np) (h : WS (dSs P C T (startD n ds) S) { nx := fun _ S => Q .non S, rt := Q }) : W (runB P C n np T ds S) Q := by
  unfold runB
  rw [if_pos hl]
  revert h
  cases dSs P C T (startD n ds) S <;> exact fun h => h
theorem W_call {P : Pg} {fs : List Df} {d j : Nat} {f : Df} {ds : List D} {S : Sto} {Q : D → Sto → Prop} (hf : fs[j]? = some f) (hl : ds.length = f.ps.length) (h : WS (dSs P (calls P fs d) f.T (startD f.N.length ds) S) { nx := fun _ S => Q .non S, rt := Q }) : W (calls P fs (d + 1) j ds S) Q := by
  unfold calls
  rw [hf]
  exact W_run hl h
theorem WE_mono {α : Type} {o : Out α} {Q Q' : α → Sto → Prop} {R R' : Nat → Option (List (Str × D)) → Sto → Prop} (h : WE o Q R) (i1 : ∀ a S, Q a S → Q' a S) (i2 : ∀ c l S, R c l S → R' c l S) : WE o Q' R' := by
  cases o with
  | ok a S => exact i1 _ _ h
  | err => exact i2 _ _ _ h
  | bad => exact h
theorem WE_call {P : Pg} {fs : List Df} {d j : Nat} {f : Df} {ds : List D} {S : Sto} {Q : D → Sto → Prop} {R : Nat → Option (List (Str × D)) → Sto → Prop} (hf : fs[j]? = some f) (hl : ds.length = f.ps.length) (h : WS (dSs P (calls P fs d) f.T (startD f.N.length ds) S) { nx := fun _ S => Q .non S, rt := Q, er := R }) : WE (calls P fs (d + 1) j ds S) Q R := by
  unfold calls
  rw [hf]
  show WE (runB P (calls P fs d) f.N.length f.ps.length f.T ds S) Q R
  unfold runB
  rw [if_pos hl]
  revert h
  cases dSs P (calls P fs d) f.T (startD f.N.length ds) S <;> exact fun h => h
/-! ### loops -/
theorem WS_forN {w : Walk} {tg : Tg} {b : Sl → Sto → OutS} {Q : Po} (I : Nat → Sl → Sto → Prop) {n : Nat}
    (hend : ∀ σ S, I n σ S → wgo w n S = some none)
    (hgo : ∀ i σ S, i < n → I i σ S → ∃ d σ', wgo w i S = some (some d) ∧ setTg tg d σ = some σ' ∧ WS (b σ' S) { nx := fun σ S => I (i + 1) σ S, rt := Q.rt, bk := Q.nx, ct := fun σ S => I (i + 1) σ S, er := Q.er })
    (hq : ∀ σ S, I n σ S → Q.nx σ S) : ∀ k i σ S, i + k = n → I i σ S → WS (forN w tg b k i σ S) Q := by
  intro k
  induction k with
  | zero =>
    intro i σ S e h
    have : i = n := by omega
    subst this
    unfold forN
    rw [hend σ S h]
    exact hq σ S h
  | succ k ih =>
    intro i σ S e h
    obtain ⟨d, σ', h1, h2, h3⟩ := hgo i σ S (by omega) h
    unfold forN
    rw [h1]
    show WS (match setTg tg d σ with
      | none => .bad
      | some σ' => match b σ' S with
        | .nx σ' S' => forN w tg b k (i + 1) σ' S'
        | .ct σ' S' => forN w tg b k (i + 1) σ' S'
        | .bk σ' S' => .nx σ' S'
        | x => x) Q
    rw [h2]
    show WS (match b σ' S with
        | .nx σ' S' => forN w tg b k (i + 1) σ' S'
        | .ct σ' S' => forN w tg b k (i + 1) σ' S'
        | .bk σ' S' => .nx σ' S'
        | x => x) Q
    revert h3
    cases b σ' S with
    | nx σ1 S1 => exact fun h3 => ih (i + 1) σ1 S1 (by omega) h3
    | ct σ1 S1 => exact fun h3 => ih (i + 1) σ1 S1 (by omega) h3
    | bk σ1 S1 => exact fun h3 => h3
    | rt d S1 => exact fun h3 => h3
    | err => exact fun h3 => h3
    | bad => exact fun h3 => h3
/-- a for over a walk whose length stays -/
theorem WS_for {w : Walk} {tg : Tg} {b : Sl → Sto → OutS} {Q : Po} {n : Nat} {σ : Sl} {S : Sto} (I : Nat → Sl → Sto → Prop) (h0 : I 0 σ S)
    (hend : ∀ σ S, I n σ S → wgo w n S = some none)
    (hgo : ∀ i σ S, i < n → I i σ S → ∃ d σ', wgo w i S = some (some d) ∧ setTg tg d σ = some σ' ∧ WS (b σ' S) { nx := fun σ S => I (i + 1) σ S, rt := Q.rt, bk := Q.nx, ct := fun σ S => I (i + 1) σ S, er := Q.er })
    (hq : ∀ σ S, I n σ S → Q.nx σ S) : WS (forN w tg b n 0 σ S) Q := WS_forN I hend hgo hq n 0 σ S (by omega) h0
theorem whlN_more {t : Sl → Sto → Out Bool} {b : Sl → Sto → OutS} : ∀ {n m : Nat} {σ : Sl} {S : Sto}, whlN t b n σ S ≠ .bad → n ≤ m → whlN t b m σ S = whlN t b n σ S := by
  intro n
  induction n with
  | zero => intro m σ S h; exact absurd rfl h
  | succ n ih =>
    intro m σ S h hm
    obtain ⟨m, rfl⟩ : ∃ k, m = k + 1 := ⟨m - 1, by omega⟩
    unfold whlN at h ⊢
    revert h
    cases t σ S with
    | bad => intro h; rfl
    | err => intro h; rfl
    | ok k S1 =>
      show ((if k = true then _ else _) ≠ OutS.bad) → (if k = true then _ else _) = (if k = true then _ else _)
      cases k with
      | false => intro h; rfl
      | true =>
        rw [if_pos rfl]
        cases b σ S1 with
        | nx σ' S' => exact fun h => ih h (by omega)
        | ct σ' S' => exact fun h => ih h (by omega)
        | bk => intro h; rfl
        | rt => intro h; rfl
        | err => intro h; rfl
        | bad => intro h; rfl
theorem whl_of {t : Sl → Sto → Out Bool} {b : Sl → Sto → OutS} {n : Nat} {σ : Sl} {S : Sto} (h : whlN t b n σ S ≠ .bad) : whl t b σ S = whlN t b n σ S := by
  have hx : ∃ n, whlN t b n σ S ≠ .bad := ⟨n, h⟩
  unfold whl
  rw [dif_pos hx]
  have hc := Classical.choose_spec hx
  by_cases q : n ≤ Classical.choose hx
  · exact whlN_more h q
  · exact (whlN_more hc (by omega)).symm
theorem WS_ne {o : OutS} {Q : Po} (h : WS o Q) : o ≠ .bad := fun e => by rw [e] at h; exact h
theorem WS_whlN {t : Sl → Sto → Out Bool} {b : Sl → Sto → OutS} {Q : Po} (I : Nat → Sl → Sto → Prop)
    (hs : ∀ m σ S, I m σ S → W (t σ S) fun k S1 => if k = true then WS (b σ S1) { nx := fun σ S => ∃ m', m' < m ∧ I m' σ S, rt := Q.rt, bk := Q.nx, ct := fun σ S => ∃ m', m' < m ∧ I m' σ S, er := Q.er } else Q.nx σ S1) :
    ∀ n m σ S, m < n → I m σ S → WS (whlN t b n σ S) Q := by
  intro n
  induction n with
  | zero => intro m σ S h; omega
  | succ n ih =>
    intro m σ S hm h
    have := hs m σ S h
    unfold whlN
    refine WS_thn (W_mono this fun k S1 h => ?_)
    cases k with
    | false => exact h
    | true =>
      rw [if_pos rfl] at h ⊢
      revert h
      cases b σ S1 with
      | nx σ' S' => exact fun ⟨m', h1, h2⟩ => ih m' σ' S' (by omega) h2
      | ct σ' S' => exact fun ⟨m', h1, h2⟩ => ih m' σ' S' (by omega) h2
      | bk => exact fun h => h
      | rt => exact fun h => h
      | err => exact fun h => h
      | bad => exact fun h => h
/-- a while by a measure -/
theorem WS_whl {t : Sl → Sto → Out Bool} {b : Sl → Sto → OutS} {Q : Po} {σ : Sl} {S : Sto} (I : Nat → Sl → Sto → Prop) {m : Nat} (h0 : I m σ S)
    (hs : ∀ m σ S, I m σ S → W (t σ S) fun k S1 => if k = true then WS (b σ S1) { nx := fun σ S => ∃ m', m' < m ∧ I m' σ S, rt := Q.rt, bk := Q.nx, ct := fun σ S => ∃ m', m' < m ∧ I m' σ S, er := Q.er } else Q.nx σ S1) : WS (whl t b σ S) Q := by
  have h := WS_whlN I hs (m + 1) m σ S (by omega) h0
  rw [whl_of (WS_ne h)]
  exact h
/-- a comprehension's loop: J i acc S: behind i turns, S the store without the new list -/
theorem W_lcLoop {w : Walk} {tg : Tg} {σ : Sl} {n : Nat} {test : Sl → Sto → Out Bool} {elt : Sl → Sto → Out D} {Q : Unit → Sto → Prop} (J : Nat → Sto → Prop) {k0 : Nat}
    (hend : ∀ S, J k0 S → wgo w k0 S = some none)
    (hgo : ∀ i S, i < k0 → J i S → ∃ d σ', wgo w i S = some (some d) ∧ setTg tg d σ = some σ' ∧ W (test σ' S) fun t S1 => if t = true then W (elt σ' S1) fun v S2 => ∃ acc, S2[n]? = some (.lst acc) ∧ acc.length < sizeLine ∧ J (i + 1) (S2.set n (.lst (acc ++ [v]))) else J (i + 1) S1)
    (hq : ∀ S, J k0 S → Q () S) : ∀ k i S, i + k = k0 → J i S → W (lcLoop w tg σ n test elt k i S) Q := by
  intro k
  induction k with
  | zero =>
    intro i S e h
    have : i = k0 := by omega
    subst this
    unfold lcLoop
    rw [hend S h]
    exact hq S h
  | succ k ih =>
    intro i S e h
    obtain ⟨d, σ', h1, h2, h3⟩ := hgo i S (by omega) h
    unfold lcLoop
    rw [h1]
    show W (match setTg tg d σ with
      | none => .bad
      | some σ' => match test σ' S with
        | .ok false S1 => lcLoop w tg σ n test elt k (i + 1) S1
        | .ok true S1 => match elt σ' S1 with
          | .ok v S2 => match S2[n]? with
            | some (.lst acc) => if acc.length < sizeLine then lcLoop w tg σ n test elt k (i + 1) (S2.set n (.lst (acc ++ [v]))) else .bad
            | _ => .bad
          | _ => .bad
        | _ => .bad) Q
    rw [h2]
    show W (match test σ' S with
        | .ok false S1 => lcLoop w tg σ n test elt k (i + 1) S1
        | .ok true S1 => match elt σ' S1 with
          | .ok v S2 => match S2[n]? with
            | some (.lst acc) => if acc.length < sizeLine then lcLoop w tg σ n test elt k (i + 1) (S2.set n (.lst (acc ++ [v]))) else .bad
            | _ => .bad
          | _ => .bad
        | _ => .bad) Q
    revert h3
    cases test σ' S with
    | err => exact fun h3 => h3
    | bad => exact fun h3 => h3
    | ok t S1 =>
      cases t with
      | false => exact fun h3 => ih (i + 1) S1 (by omega) h3
      | true =>
        intro h3
        replace h3 : W (elt σ' S1) _ := h3
        show W (match elt σ' S1 with
          | .ok v S2 => match S2[n]? with
            | some (.lst acc) => if acc.length < sizeLine then lcLoop w tg σ n test elt k (i + 1) (S2.set n (.lst (acc ++ [v]))) else .bad
            | _ => .bad
          | _ => .bad) Q
        revert h3
        cases elt σ' S1 with
        | err => exact fun h3 => h3.elim
        | bad => exact fun h3 => h3.elim
        | ok v S2 =>
          rintro ⟨acc, a1, a2, a3⟩
          show W (match S2[n]? with
            | some (.lst acc) => if acc.length < sizeLine then lcLoop w tg σ n test elt k (i + 1) (S2.set n (.lst (acc ++ [v]))) else .bad
            | _ => .bad) Q
          rw [a1]
          show W (if acc.length < sizeLine then lcLoop w tg σ n test elt k (i + 1) (S2.set n (.lst (acc ++ [v]))) else .bad) Q
          rw [if_pos a2]
          exact ih (i + 1) _ (by omega) a3
end
/-! ### frames: all but the cells of B stay -/
def Fr (B : List Nat) (S S' : Sto) : Prop := S.length ≤ S'.length ∧ ∀ k, k < S.length → k ∉ B → S'[k]? = S[k]?
theorem Fr.refl {B : List Nat} {S : Sto} : Fr B S S := ⟨Nat.le_refl _, fun _ _ _ => rfl⟩
theorem Fr.trans {B : List Nat} {S S1 S2 : Sto} (a : Fr B S S1) (b : Fr B S1 S2) : Fr B S S2 := ⟨Nat.le_trans a.1 b.1, fun k h1 h2 => (b.2 k (Nat.lt_of_lt_of_le h1 a.1) h2).trans (a.2 k h1 h2)⟩
theorem Fr.push {B : List Nat} {S : Sto} {c : Cell} : Fr B S (S ++ [c]) := ⟨by simp, fun k h _ => by rw [List.getElem?_append_left h]⟩
theorem Fr.set {B : List Nat} {S : Sto} {i : Nat} {c : Cell} (h : i ∈ B ∨ S.length ≤ i) : Fr B S (S.set i c) := ⟨by simp, fun k h1 h2 => by
  rw [List.getElem?_set_ne]
  rintro rfl
  rcases h with h | h
  · exact h2 h
  · omega⟩
theorem Fr.sub {B B' : List Nat} {S S' : Sto} (a : Fr B S S') (h : ∀ k ∈ B, k < S.length → k ∈ B') : Fr B' S S' := ⟨a.1, fun k h1 h2 => a.2 k h1 fun h3 => h2 (h k h3 h1)⟩
theorem Fr.get {B : List Nat} {S S' : Sto} (a : Fr B S S') {k : Nat} {c : Cell} (h : S[k]? = some c) (hk : k ∉ B) : S'[k]? = some c := by
  rw [a.2 k (List.getElem?_eq_some_iff.mp h).1 hk]; exact h
theorem Fr.lt {B : List Nat} {S S' : Sto} (a : Fr B S S') {k : Nat} (h : k < S.length) : k < S'.length := Nat.lt_of_lt_of_le h a.1
/-- grow, then change what is new or of B -/
theorem Fr.setr {B : List Nat} {S S1 : Sto} {i : Nat} {c : Cell} (a : Fr B S S1) (h : i ∈ B ∨ S.length ≤ i) : Fr B S (S1.set i c) := ⟨by simpa using a.1, fun k h1 h2 => by
  rw [List.getElem?_set_ne]
  · exact a.2 k h1 h2
  · rintro rfl
    rcases h with h | h
    · exact h2 h
    · omega⟩
theorem Fr.pushr {B : List Nat} {S S1 : Sto} {c : Cell} (a : Fr B S S1) : Fr B S (S1 ++ [c]) := a.trans Fr.push
theorem get_push {S : Sto} {c : Cell} : (S ++ [c])[S.length]? = some c := by simp
theorem get_pushl {S : Sto} {c c' : Cell} {k : Nat} (h : S[k]? = some c') : (S ++ [c])[k]? = some c' := by
  rw [List.getElem?_append_left (List.getElem?_eq_some_iff.mp h).1]; exact h
theorem get_set {S : Sto} {c : Cell} {k : Nat} (h : k < S.length) : (S.set k c)[k]? = some c := by simp [h]
theorem get_setn {S : Sto} {c : Cell} {k i : Nat} (h : i ≠ k) : (S.set i c)[k]? = S[k]? := List.getElem?_set_ne h
theorem lt_of {S : Sto} {c : Cell} {k : Nat} (h : S[k]? = some c) : k < S.length := (List.getElem?_eq_some_iff.mp h).1
end DI

set_option Elab.async false
set_option linter.all false
set_option maxRecDepth 100000
set_option maxHeartbeats 4000000
/-! The calculus's steps, one for each construct. -/
namespace DI
open L2 PySem PySem.Spec PyProof.Rows
section
variable {P : Pg} {C : Nat → List D → Sto → Out D} {σ : Sl} {S : Sto} {Q : D → Sto → Prop} {b : Bool}
theorem w_int {i : Int} (k : Q (.int i) S) : W (de P C (.cst (.int i)) false σ S) Q := by simp only [de, fin_f]; exact k
theorem w_str {i : Str} (k : Q (.str i) S) : W (de P C (.cst (.str i)) false σ S) Q := by simp only [de, fin_f]; exact k
theorem w_blc {i : Bool} (k : Q (.bl i) S) : W (de P C (.cst (.bl i)) false σ S) Q := by simp only [de, fin_f]; exact k
theorem w_non (k : Q .non S) : W (de P C (.cst .non) false σ S) Q := by simp only [de, fin_f]; exact k
theorem w_var {i : Nat} (h : ∃ d, σ[i]? = some (some d) ∧ Q d S) : W (de P C (.var i) false σ S) Q := by
  obtain ⟨d, h, k⟩ := h
  simp only [de, fin_f, h]; exact k
theorem w_bty {n : String} (k : Q (.ty n) S) : W (de P C (.bty n) false σ S) Q := by simp only [de, fin_f]; exact k
theorem w_glo {x : Str} {d : D} (h : P.glo x = some d) (k : Q d S) : W (de P C (.glo x) false σ S) Q := by simp only [de, fin_f, h]; exact k
theorem W_of {o : Option (D × Sto)} {r : D × Sto} (h : o = some r) (k : Q r.1 r.2) : W (.of o) Q := by subst h; exact k
theorem w_bin {o : Operator} {a c : Ex} (k : W (de P C a false σ S) fun x S => W (de P C c false σ S) fun y S => W (.of (opSem o x y S)) Q) : W (de P C (.bin o a c) false σ S) Q := by
  simp only [de, fin_f, W_bind]; exact k
theorem w_add {i j : Int} (k : Q (.int (i + j)) S) : W (.of (opSem .Add (.int i) (.int j) S)) Q := k
theorem w_sub {i j : Int} (k : Q (.int (i - j)) S) : W (.of (opSem .Sub (.int i) (.int j) S)) Q := k
theorem w_mul {i j : Int} (h : (-(2 ^ 64) < i ∧ i < 2 ^ 64) ∨ (-(2 ^ 64) < j ∧ j < 2 ^ 64)) (k : Q (.int (i * j)) S) : W (.of (opSem .Mult (.int i) (.int j) S)) Q := by
  unfold opSem
  simp only [h, if_true]
  exact k
theorem w_div {i j : Int} (h : 0 < j ∧ j < 1073741824) (k : Q (.int (i / j)) S) : W (.of (opSem .FloorDiv (.int i) (.int j) S)) Q := by
  unfold opSem
  simp only [h, if_true, and_self]
  exact k
theorem w_mod {i j : Int} (h : 0 < j) (k : Q (.int (i % j)) S) : W (.of (opSem .Mod (.int i) (.int j) S)) Q := by
  unfold opSem
  simp only [h, if_true]
  exact k
theorem w_pow {i j : Int} (h : 0 ≤ j ∧ j ≤ 1000000 ∧ i.natAbs < 2 ^ 64) (k : Q (.int (i ^ j.toNat)) S) : W (.of (opSem .Pow (.int i) (.int j) S)) Q := by
  unfold opSem
  simp only [h, if_true, and_self]
  exact k
theorem w_addT {xs ys : List D} (h : xs.length + ys.length ≤ sizeLine) (k : Q (.tup (xs ++ ys)) S) : W (.of (opSem .Add (.tup xs) (.tup ys) S)) Q := by
  unfold opSem
  simp only [h, if_true]
  exact k
theorem w_addL {a c : Nat} {xs ys : List D} (h1 : S[a]? = some (.lst xs)) (h2 : S[c]? = some (.lst ys)) (h : xs.length + ys.length ≤ sizeLine) (k : Q (.loc S.length) (S ++ [.lst (xs ++ ys)])) : W (.of (opSem .Add (.loc a) (.loc c) S)) Q := by
  unfold opSem
  simp only [h1, h2, h, if_true]
  exact k
theorem w_neg {a : Ex} (k : W (de P C a false σ S) fun x S => ∃ i, x = .int i ∧ Q (.int (-i)) S) : W (de P C (.neg a) false σ S) Q := by
  simp only [de, fin_f, W_bind]
  refine W_mono k fun x S h => ?_
  obtain ⟨i, rfl, h⟩ := h
  exact h
theorem W_at {α : Type} {o : Option α} {d : α} {Q : α → Sto → Prop} (h : o = some d) (k : Q d S) : W (.at S o) Q := by subst h; exact k
theorem w_cmp {o : CmpOp} {a c : Ex} (k : W (de P C a false σ S) fun x S => W (de P C c false σ S) fun y S => ∃ t, cmpSem o x y S = some t ∧ Q (.bl t) S) : W (de P C (.cmp o a c) b σ S) Q := by
  simp only [de, W_bind]
  refine W_mono k fun x S h => W_mono h fun y S h => ?_
  obtain ⟨t, h1, h2⟩ := h
  rw [h1]; exact h2
theorem w_chn {o o' : CmpOp} {a c e : Ex} (k : W (de P C a false σ S) fun x S => W (de P C c false σ S) fun y S => ∃ t, cmpSem o x y S = some t ∧ (t = true → W (de P C e false σ S) fun z S => ∃ t, cmpSem o' y z S = some t ∧ Q (.bl t) S) ∧ (t = false → Q (.bl false) S)) : W (de P C (.chn o o' a c e) b σ S) Q := by
  simp only [de, W_bind]
  refine W_mono k fun x S h => W_mono h fun y S h => ?_
  obtain ⟨t, h1, h2, h3⟩ := h
  rw [h1]
  cases t with
  | false => exact h3 rfl
  | true =>
    show W (Out.bind _ _) Q
    rw [W_bind]
    refine W_mono (h2 rfl) fun z S h => ?_
    obtain ⟨t, h1, h2⟩ := h
    rw [h1]; exact h2
theorem w_and {a c : Ex} (k : W (de P C a b σ S) fun x S => ∃ t, truSem x S = some t ∧ (t = true → W (de P C c b σ S) Q) ∧ (t = false → Q x S)) : W (de P C (.and_ a c) b σ S) Q := by
  simp only [de, W_bind]
  refine W_mono k fun x S h => ?_
  obtain ⟨t, h1, h2, h3⟩ := h
  rw [h1]
  cases t with
  | false => exact h3 rfl
  | true => exact h2 rfl
theorem w_or {a c : Ex} (k : W (de P C a b σ S) fun x S => ∃ t, truSem x S = some t ∧ (t = true → Q x S) ∧ (t = false → W (de P C c b σ S) Q)) : W (de P C (.or_ a c) b σ S) Q := by
  simp only [de, W_bind]
  refine W_mono k fun x S h => ?_
  obtain ⟨t, h1, h2, h3⟩ := h
  rw [h1]
  cases t with
  | false => exact h3 rfl
  | true => exact h2 rfl
theorem w_not {a : Ex} (k : W (de P C a b σ S) fun x S => ∃ t, truSem x S = some t ∧ Q (.bl (!t)) S) : W (de P C (.not_ a) b σ S) Q := by
  simp only [de, W_bind]
  refine W_mono k fun x S h => ?_
  obtain ⟨t, h1, h2⟩ := h
  rw [h1]; exact h2
theorem w_ite {t a c : Ex} (k : W (de P C t true σ S) fun d S => ∃ t, d = .bl t ∧ (t = true → W (de P C a b σ S) Q) ∧ (t = false → W (de P C c b σ S) Q)) : W (de P C (.ite t a c) b σ S) Q := by
  simp only [de, W_bind, W_tst]
  refine W_mono k fun x S h => ?_
  obtain ⟨t, rfl, h2, h3⟩ := h
  cases t with
  | false => exact h3 rfl
  | true => exact h2 rfl
theorem w_fld {c : Nat} {o : Ex} {f : Str} (k : W (de P C o false σ S) fun x S => ∃ d, fldSem x c f S = some d ∧ Q d S) : W (de P C (.fld c o f) false σ S) Q := by
  simp only [de, fin_f, W_bind]
  refine W_mono k fun x S h => ?_
  obtain ⟨d, h1, h2⟩ := h
  rw [h1]; exact h2
theorem w_ix {o i : Ex} (k : W (de P C o false σ S) fun x S => W (de P C i false σ S) fun y S => ∃ d, itemSem x y S = some d ∧ Q d S) : W (de P C (.ix o i) false σ S) Q := by
  simp only [de, fin_f, W_bind]
  refine W_mono k fun x S h => W_mono h fun y S h => ?_
  obtain ⟨d, h1, h2⟩ := h
  rw [h1]; exact h2
theorem w_no {Q : Option Int → Sto → Prop} (k : Q none S) : W (deO P C .no σ S) Q := by simp only [deO]; exact k
theorem w_so {e : Ex} {Q : Option Int → Sto → Prop} (k : W (de P C e false σ S) fun d S => ∃ i, d = .int i ∧ Q (some i) S) : W (deO P C (.so e) σ S) Q := by
  simp only [deO, W_bind]
  refine W_mono k fun x S h => ?_
  obtain ⟨i, rfl, h⟩ := h
  exact h
theorem w_sl {o : Ex} {lo hi : Ox} (k : W (de P C o false σ S) fun x S => W (deO P C lo σ S) fun l S => W (deO P C hi σ S) fun h S => ∃ r S', sliceSem x l h S = some (r, S') ∧ Q r S') : W (de P C (.sl o lo hi) false σ S) Q := by
  simp only [de, fin_f, W_bind]
  refine W_mono k fun x S h => W_mono h fun l S h => W_mono h fun h S k => ?_
  obtain ⟨r, S', h1, h2⟩ := k
  rw [h1]; exact h2
theorem w_nil {Q : List D → Sto → Prop} (k : Q [] S) : W (des P C .nil σ S) Q := by simp only [des]; exact k
theorem w_cons {e : Ex} {es : Exs} {Q : List D → Sto → Prop} (k : W (de P C e false σ S) fun d S => W (des P C es σ S) fun ds S => Q (d :: ds) S) : W (des P C (.cons e es) σ S) Q := by
  simp only [des, W_bind]; exact k
theorem w_tup {es : Exs} (k : W (des P C es σ S) fun ds S => ds.length ≤ sizeLine ∧ Q (.tup ds) S) : W (de P C (.tup es) false σ S) Q := by
  simp only [de, fin_f, W_bind]
  refine W_mono k fun ds S h => ?_
  rw [if_pos h.1]; exact h.2
theorem w_lst {es : Exs} (k : W (des P C es σ S) fun ds S => ds.length ≤ sizeLine ∧ Q (.loc S.length) (S ++ [.lst ds])) : W (de P C (.lst es) false σ S) Q := by
  simp only [de, fin_f, W_bind]
  refine W_mono k fun ds S h => ?_
  rw [if_pos h.1]; exact h.2
theorem w_cal {j : Nat} {es : Exs} (k : W (des P C es σ S) fun ds S => W (C j ds S) Q) : W (de P C (.cal j es) false σ S) Q := by
  simp only [de, fin_f, W_bind]; exact k
theorem w_mk {c j : Nat} {es : Exs} (k : W (des P C es σ S) fun ds S => W (C j (.loc S.length :: ds) (S ++ [.ins c []])) fun r S' => r = .non ∧ Q (.loc S.length) S') : W (de P C (.mk c j es) false σ S) Q := by
  simp only [de, fin_f, W_bind]
  refine W_mono k fun ds S h => W_mono h fun r S' h => ?_
  obtain ⟨rfl, h⟩ := h
  exact h
theorem w_mth {c j : Nat} {o : Ex} {m : Str} {es : Exs} (k : W (de P C o false σ S) fun x S => ∃ a fs, x = .loc a ∧ S[a]? = some (.ins c fs) ∧ fs.lookup m = none ∧ W (des P C es σ S) fun ds S => W (C j (.loc a :: ds) S) Q) : W (de P C (.mth c j o m es) false σ S) Q := by
  simp only [de, fin_f, W_bind]
  refine W_mono k fun x S h => ?_
  obtain ⟨a, fs, rfl, h1, h2, h3⟩ := h
  simp only [h1, h2, and_self, if_true, W_bind]
  exact h3
theorem w_calK {j n : Nat} {ks : List Str} {pm : List Nat} {es kes : Exs} (k : W (des P C es σ S) fun ds S => W (des P C kes σ S) fun zs S => (ds.length = n ∧ zs.length = ks.length) ∧ W (C j (pmL pm (ds ++ zs)) S) Q) : W (de P C (.calK j n ks pm es kes) false σ S) Q := by
  simp only [de, fin_f, W_bind]
  refine W_mono k fun ds S h => W_mono h fun zs S h => ?_
  rw [if_pos h.1]; exact h.2
theorem w_mthK {c j : Nat} {o : Ex} {m : Str} {n : Nat} {ks : List Str} {pm : List Nat} {es kes : Exs} (k : W (de P C o false σ S) fun x S => ∃ a fs, x = .loc a ∧ S[a]? = some (.ins c fs) ∧ fs.lookup m = none ∧ W (des P C es σ S) fun ds S => W (des P C kes σ S) fun zs S => (ds.length + 1 = n ∧ zs.length = ks.length) ∧ W (C j (pmL pm (.loc a :: ds ++ zs)) S) Q) : W (de P C (.mthK c j o m n ks pm es kes) false σ S) Q := by
  simp only [de, fin_f, W_bind]
  refine W_mono k fun x S h => ?_
  obtain ⟨a, fs, rfl, h1, h2, h3⟩ := h
  simp only [h1, h2, and_self, if_true, W_bind]
  refine W_mono h3 fun ds S h => W_mono h fun zs S h => ?_
  rw [if_pos h.1]; exact h.2
theorem w_lrg {a c : Ex} (k : W (de P C a false σ S) fun x S => W (de P C c false σ S) fun y S => ∃ i j, x = .int i ∧ y = .int j ∧ lrgOk i j = true ∧ Q (.loc S.length) (S ++ [.lst (lrgD i j)])) : W (de P C (.lrg a c) false σ S) Q := by
  simp only [de, fin_f, W_bind]
  refine W_mono k fun x S h => W_mono h fun y S h => ?_
  obtain ⟨i, j, rfl, rfl, h1, h2⟩ := h
  simp only [h1, if_true]; exact h2
theorem w_bi {f : BI} {es : Exs} (k : W (des P C es σ S) fun ds S => ∃ r S', biSem f ds S = some (r, S') ∧ Q r S') : W (de P C (.bi f es) false σ S) Q := by
  simp only [de, fin_f, W_bind]
  refine W_mono k fun ds S h => ?_
  obtain ⟨r, S', h1, h2⟩ := h
  rw [h1]; exact h2
theorem w_bm {f : BM} {o : Ex} {es : Exs} (k : W (de P C o false σ S) fun x S => ∃ a xs, x = .loc a ∧ S[a]? = some (.lst xs) ∧ W (des P C es σ S) fun ds S => ∃ r S', bmSem f (.loc a) ds S = some (r, S') ∧ Q r S') : W (de P C (.bm f o es) false σ S) Q := by
  simp only [de, fin_f, W_bind]
  refine W_mono k fun x S h => ?_
  obtain ⟨a, xs, rfl, h1, h2⟩ := h
  simp only [h1, W_bind]
  refine W_mono h2 fun ds S h => ?_
  obtain ⟨r, S', h1, h2⟩ := h
  rw [h1]; exact h2
theorem w_dctK {ks : List Str} {es : Exs} (k : W (des P C es σ (S ++ [.dk []])) fun ds S2 => S2[S.length]? = some (.dk []) ∧ (ds.length = ks.length ∧ ks.length ≤ 15) ∧ Q (.loc S.length) (S2.set S.length (.dk (mergeD [] ((ks.map Sum.inr).zip ds))))) : W (de P C (.dctK ks es) false σ S) Q := by
  simp only [de, fin_f, W_bind]
  refine W_mono k fun ds S h => ?_
  obtain ⟨h1, h2, h3⟩ := h
  rw [h1]
  dsimp only
  rw [if_pos h2]; exact h3
theorem w_calV {js : List Nat} {i : Nat} {es : Exs} {j : Nat} (h1 : σ[i]? = some (some (.fn j))) (h2 : j ∈ js) (k : W (des P C es σ S) fun ds S => W (C j ds S) Q) : W (de P C (.calV js i es) false σ S) Q := by
  simp only [de, fin_f, h1, h2, if_true, W_bind]; exact k
theorem w_dget1 {o y : Ex} (k : W (de P C o false σ S) fun x S => ∃ a c, x = .loc a ∧ S[a]? = some c ∧ isDk c = true ∧ W (de P C y false σ S) fun z S => ∃ c r, S[a]? = some c ∧ dictAt c z = some r ∧ Q (r.getD .non) S) : W (de P C (.dget1 o y) false σ S) Q := by
  simp only [de, fin_f, W_bind]
  refine W_mono k fun x S h => ?_
  obtain ⟨a, c, rfl, h1, h2, h3⟩ := h
  simp only [h1, h2, if_true, W_bind]
  refine W_mono h3 fun z S h => ?_
  obtain ⟨c, r, h1, h2, h3⟩ := h
  simp only [h1, h2, Option.map_some]; exact h3
theorem w_dget2 {o y d : Ex} (k : W (de P C o false σ S) fun x S => ∃ a c, x = .loc a ∧ S[a]? = some c ∧ isDk c = true ∧ W (de P C y false σ S) fun z S => W (de P C d false σ S) fun u S => ∃ c r, S[a]? = some c ∧ dictAt c z = some r ∧ Q (r.getD u) S) : W (de P C (.dget2 o y d) false σ S) Q := by
  simp only [de, fin_f, W_bind]
  refine W_mono k fun x S h => ?_
  obtain ⟨a, c, rfl, h1, h2, h3⟩ := h
  simp only [h1, h2, if_true, W_bind]
  refine W_mono h3 fun z S h => W_mono h fun u S h => ?_
  obtain ⟨c, r, h1, h2, h3⟩ := h
  simp only [h1, h2, Option.map_some]; exact h3
theorem w_rev {e : Ex} (k : W (de P C e false σ S) fun x S => ∃ xs, listD x S = some xs ∧ Q (.loc S.length) (S ++ [.lst xs.reverse])) : W (de P C (.rev e) false σ S) Q := by
  simp only [de, fin_f, W_bind]
  refine W_mono k fun x S h => ?_
  obtain ⟨xs, h1, h2⟩ := h
  rw [h1]; exact h2
theorem w_lc {own : List (Str × Nat)} {tg : Tg} {it : Ir} {ifs : Exs} {elt : Ex} (k : W (deI P C it σ S) fun w S1 => W (lcLoop w tg (wipeD σ (own.map (·.2))) S1.length (fun σ S => deT P C ifs σ S) (fun σ S => de P C elt false σ S) (wlen w S1) 0 (S1 ++ [.lst []])) fun _ S' => Q (.loc S1.length) S') : W (de P C (.lc own tg it ifs elt) false σ S) Q := by
  simp only [de, fin_f, W_bind]
  exact k
theorem w_iex {e : Ex} {Q : Walk → Sto → Prop} (k : W (de P C e false σ S) fun x S => ∃ w, walkOf x S = some w ∧ Q w S) : W (deI P C (.ex e) σ S) Q := by
  simp only [deI, W_bind]
  refine W_mono k fun x S h => ?_
  obtain ⟨w, h1, h2⟩ := h
  rw [h1]; exact h2
theorem w_rng1 {e : Ex} {Q : Walk → Sto → Prop} (k : W (de P C e false σ S) fun x S => ∃ j, x = .int j ∧ rngOk 0 j = true ∧ Q (.rng 0 j.toNat) S) : W (deI P C (.rng1 e) σ S) Q := by
  simp only [deI, W_bind]
  refine W_mono k fun x S h => ?_
  obtain ⟨j, rfl, h1, h2⟩ := h
  simp only [h1, if_true]; exact h2
theorem w_rng2 {e e' : Ex} {Q : Walk → Sto → Prop} (k : W (de P C e false σ S) fun x S => W (de P C e' false σ S) fun y S => ∃ i j, x = .int i ∧ y = .int j ∧ rngOk i j = true ∧ Q (.rng i (j - i).toNat) S) : W (deI P C (.rng2 e e') σ S) Q := by
  simp only [deI, W_bind]
  refine W_mono k fun x S h => W_mono h fun y S h => ?_
  obtain ⟨i, j, rfl, rfl, h1, h2⟩ := h
  simp only [h1, if_true]; exact h2
theorem w_enum {e : Ex} {Q : Walk → Sto → Prop} (k : W (de P C e false σ S) fun x S => ∃ w, walkL x S = some w ∧ Q (.en w) S) : W (deI P C (.enum e) σ S) Q := by
  simp only [deI, W_bind]
  refine W_mono k fun x S h => ?_
  obtain ⟨w, h1, h2⟩ := h
  rw [h1]; exact h2
theorem w_T0 {Q : Bool → Sto → Prop} (k : Q true S) : W (deT P C .nil σ S) Q := by simp only [deT]; exact k
theorem w_T1 {e : Ex} {Q : Bool → Sto → Prop} (k : W (de P C e true σ S) fun d S => ∃ t, d = .bl t ∧ Q t S) : W (deT P C (.cons e .nil) σ S) Q := by
  simp only [deT, W_tst]
  refine W_mono k fun x S h => ?_
  obtain ⟨t, rfl, h⟩ := h
  exact h
def isFin : Ex → Bool
  | .cmp .. => false | .chn .. => false | .and_ .. => false | .or_ .. => false | .not_ .. => false | .ite .. => false | _ => true
theorem w_tru {e : Ex} (h : isFin e = true) (k : W (de P C e false σ S) fun d S => ∃ t, truSem d S = some t ∧ Q (.bl t) S) : W (de P C e true σ S) Q := by
  have e1 : de P C e true σ S = fin true (de P C e false σ S) := by
    cases e <;> first | (simp only [de] <;> rfl) | (simp [isFin] at h)
  rw [e1, fin_t, W_bind]
  refine W_mono k fun x S h => ?_
  obtain ⟨t, h1, h2⟩ := h
  rw [h1]; exact h2
end
section
variable {P : Pg} {C : Nat → List D → Sto → Out D} {σ : Sl} {S : Sto} {Q : Po} {ss : Sms}
theorem z_nil (k : Q.nx σ S) : WS (dSs P C .nil σ S) Q := by simp only [dSs]; exact k
theorem z_set {i : Nat} {e : Ex} (k : W (de P C e false σ S) fun d S => WS (dSs P C ss (σ.set i (some d)) S) Q) : WS (dSs P C (.cons (.set i e) ss) σ S) Q := by
  simp only [dSs, dS, WS_nxt]
  exact WS_thn k
theorem z_setT {is : List Nat} {e : Ex} (k : W (de P C e false σ S) fun d S => ∃ σ', setTg (.tp is) d σ = some σ' ∧ WS (dSs P C ss σ' S) Q) : WS (dSs P C (.cons (.setT is e) ss) σ S) Q := by
  simp only [dSs, dS, WS_nxt]
  refine WS_thn (W_mono k fun d S h => ?_)
  obtain ⟨σ', h1, h2⟩ := h
  rw [h1]; exact h2
theorem z_par {i j : Nat} {a b : Ex} (k : W (de P C a false σ S) fun x S => W (de P C b false σ S) fun y S => WS (dSs P C ss ((σ.set i (some x)).set j (some y)) S) Q) : WS (dSs P C (.cons (.par i j a b) ss) σ S) Q := by
  simp only [dSs, dS, WS_nxt]
  exact WS_thn (W_mono k fun _ _ h => WS_thn h)
theorem z_fld {c : Nat} {o : Ex} {f : Str} {e : Ex} (k : W (de P C e false σ S) fun d S => W (de P C o false σ S) fun x S => ∃ S', putSem x c f d S = some S' ∧ WS (dSs P C ss σ S') Q) : WS (dSs P C (.cons (.fld c o f e) ss) σ S) Q := by
  simp only [dSs, dS, WS_nxt]
  refine WS_thn (W_mono k fun d S h => WS_thn (W_mono h fun x S h => ?_))
  obtain ⟨σ', h1, h2⟩ := h
  rw [h1]; exact h2
theorem z_sub {o i e : Ex} (k : W (de P C e false σ S) fun d S => W (de P C o false σ S) fun x S => W (de P C i false σ S) fun y S => ∃ S', setSem x y d S = some S' ∧ WS (dSs P C ss σ S') Q) : WS (dSs P C (.cons (.sub o i e) ss) σ S) Q := by
  simp only [dSs, dS, WS_nxt]
  refine WS_thn (W_mono k fun d S h => WS_thn (W_mono h fun x S h => WS_thn (W_mono h fun y S h => ?_)))
  obtain ⟨σ', h1, h2⟩ := h
  rw [h1]; exact h2
theorem z_augA {i : Nat} {a : Int} {e : Ex} (h : σ[i]? = some (some (.int a))) (k : W (de P C e false σ S) fun d S => ∃ b, d = .int b ∧ WS (dSs P C ss (σ.set i (some (.int (a + b)))) S) Q) : WS (dSs P C (.cons (.aug i .Add e) ss) σ S) Q := by
  simp only [dSs, dS, h, WS_nxt]
  refine WS_thn (W_mono k fun d S h => ?_)
  obtain ⟨b, rfl, h⟩ := h
  exact h
theorem z_augS {i : Nat} {a : Int} {e : Ex} (h : σ[i]? = some (some (.int a))) (k : W (de P C e false σ S) fun d S => ∃ b, d = .int b ∧ WS (dSs P C ss (σ.set i (some (.int (a - b)))) S) Q) : WS (dSs P C (.cons (.aug i .Sub e) ss) σ S) Q := by
  simp only [dSs, dS, h, WS_nxt]
  refine WS_thn (W_mono k fun d S h => ?_)
  obtain ⟨b, rfl, h⟩ := h
  exact h
theorem z_exp {e : Ex} (k : W (de P C e false σ S) fun _ S => WS (dSs P C ss σ S) Q) : WS (dSs P C (.cons (.exp e) ss) σ S) Q := by
  simp only [dSs, dS, WS_nxt]
  exact WS_thn k
theorem z_ret {e : Ex} (k : W (de P C e false σ S) Q.rt) : WS (dSs P C (.cons (.ret e) ss) σ S) Q := by
  simp only [dSs, dS, WS_nxt]
  exact WS_thn k
theorem z_retN (k : Q.rt .non S) : WS (dSs P C (.cons .retN ss) σ S) Q := by
  simp only [dSs, dS, WS_nxt]
  exact k
theorem z_ite {c : Ex} {a b : Sms} (k : W (de P C c true σ S) fun d S => ∃ t, d = .bl t ∧ (t = true → WS (dSs P C a σ S) { Q with nx := fun σ S => WS (dSs P C ss σ S) Q }) ∧ (t = false → WS (dSs P C b σ S) { Q with nx := fun σ S => WS (dSs P C ss σ S) Q })) : WS (dSs P C (.cons (.ite c a b) ss) σ S) Q := by
  simp only [dSs, dS, WS_nxt]
  refine WS_thn ?_
  rw [W_tst]
  refine W_mono k fun x S h => ?_
  obtain ⟨t, rfl, h2, h3⟩ := h
  cases t with
  | false => exact h3 rfl
  | true => exact h2 rfl
theorem z_whl {c : Ex} {b : Sms} (k : WS (whl (fun σ S => tstO (de P C c true σ S)) (fun σ S => dSs P C b σ S) σ S) { Q with nx := fun σ S => WS (dSs P C ss σ S) Q }) : WS (dSs P C (.cons (.whl c b) ss) σ S) Q := by
  simp only [dSs, dS, WS_nxt]
  exact k
theorem z_for {tg : Tg} {it : Ir} {b : Sms} (k : W (deI P C it σ S) fun w S => WS (forN w tg (fun σ S => dSs P C b σ S) (wlen w S) 0 σ S) { Q with nx := fun σ S => WS (dSs P C ss σ S) Q }) : WS (dSs P C (.cons (.for_ tg it b) ss) σ S) Q := by
  simp only [dSs, dS, WS_nxt]
  exact WS_thn k
theorem z_pass (k : WS (dSs P C ss σ S) Q) : WS (dSs P C (.cons .pass ss) σ S) Q := by
  simp only [dSs, dS, WS_nxt]
  exact k
theorem z_brk (k : Q.bk σ S) : WS (dSs P C (.cons .brk ss) σ S) Q := by
  simp only [dSs, dS, WS_nxt]
  exact k
theorem z_cnt (k : Q.ct σ S) : WS (dSs P C (.cons .cnt ss) σ S) Q := by
  simp only [dSs, dS, WS_nxt]
  exact k
theorem z_par3 {i j l : Nat} {a b c : Ex} (k : W (de P C a false σ S) fun x S => W (de P C b false σ S) fun y S => W (de P C c false σ S) fun z S => WS (dSs P C ss (((σ.set i (some x)).set j (some y)).set l (some z)) S) Q) : WS (dSs P C (.cons (.par3 i j l a b c) ss) σ S) Q := by
  simp only [dSs, dS, WS_nxt]
  exact WS_thn (W_mono k fun _ _ h => WS_thn (W_mono h fun _ _ h => WS_thn h))
theorem z_sub2 {o1 i1 o2 i2 a b : Ex} (k : W (de P C a false σ S) fun d1 S => W (de P C b false σ S) fun d2 S => W (de P C o1 false σ S) fun x1 S => W (de P C i1 false σ S) fun y1 S => ∃ S', setSem x1 y1 d1 S = some S' ∧ W (de P C o2 false σ S') fun x2 S => W (de P C i2 false σ S) fun y2 S => ∃ S', setSem x2 y2 d2 S = some S' ∧ WS (dSs P C ss σ S') Q) :
    WS (dSs P C (.cons (.sub2 o1 i1 o2 i2 a b) ss) σ S) Q := by
  simp only [dSs, dS, WS_nxt]
  refine WS_thn (W_mono k fun _ _ h => WS_thn (W_mono h fun _ _ h => WS_thn (W_mono h fun _ _ h => WS_thn (W_mono h fun _ _ h => ?_))))
  obtain ⟨S1, e1, h⟩ := h
  rw [e1]
  refine WS_thn (W_mono h fun _ _ h => WS_thn (W_mono h fun _ _ h => ?_))
  obtain ⟨S2, e2, h⟩ := h
  rw [e2]; exact h
theorem z_sub3 {o1 i1 o2 i2 o3 i3 a b c : Ex} (k : W (de P C a false σ S) fun d1 S => W (de P C b false σ S) fun d2 S => W (de P C c false σ S) fun d3 S => W (de P C o1 false σ S) fun x1 S => W (de P C i1 false σ S) fun y1 S => ∃ S', setSem x1 y1 d1 S = some S' ∧ W (de P C o2 false σ S') fun x2 S => W (de P C i2 false σ S) fun y2 S => ∃ S', setSem x2 y2 d2 S = some S' ∧ W (de P C o3 false σ S') fun x3 S => W (de P C i3 false σ S) fun y3 S => ∃ S', setSem x3 y3 d3 S = some S' ∧ WS (dSs P C ss σ S') Q) :
    WS (dSs P C (.cons (.sub3 o1 i1 o2 i2 o3 i3 a b c) ss) σ S) Q := by
  simp only [dSs, dS, WS_nxt]
  refine WS_thn (W_mono k fun _ _ h => WS_thn (W_mono h fun _ _ h => WS_thn (W_mono h fun _ _ h => WS_thn (W_mono h fun _ _ h => WS_thn (W_mono h fun _ _ h => ?_)))))
  obtain ⟨S1, e1, h⟩ := h
  rw [e1]
  refine WS_thn (W_mono h fun _ _ h => WS_thn (W_mono h fun _ _ h => ?_))
  obtain ⟨S2, e2, h⟩ := h
  rw [e2]
  refine WS_thn (W_mono h fun _ _ h => WS_thn (W_mono h fun _ _ h => ?_))
  obtain ⟨S3, e3, h⟩ := h
  rw [e3]; exact h
theorem z_raiF {c : Nat} {x f : Str} {e : Ex} (k : W (de P C e false σ S) fun d S => Q.er c (some [(f, d)]) S) : WS (dSs P C (.cons (.raiF c x f e) ss) σ S) Q := by
  simp only [dSs, dS, WS_nxt]
  exact WS_thn k
theorem z_rai {c : Nat} {x : Str} (k : Q.er c none S) : WS (dSs P C (.cons (.rai c x) ss) σ S) Q := by
  simp only [dSs, dS, WS_nxt]
  exact k
/-- x = f(..), where f may raise -/
theorem z_setX {i j : Nat} {es : Exs} (k : W (des P C es σ S) fun ds S => WE (C j ds S) (fun d S => WS (dSs P C ss (σ.set i (some d)) S) Q) Q.er) : WS (dSs P C (.cons (.set i (.cal j es)) ss) σ S) Q := by
  simp only [dSs, dS, WS_nxt]
  refine WS_thnE ?_
  simp only [de, fin_f]
  obtain ⟨ds, S1, e, h⟩ := W_ex k
  rw [e]
  exact h
theorem z_try1 {b : Sms} {c : Nat} {x : Str} {i : Nat} {f lit : Str} (k : WS (dSs P C b σ S) { Q with nx := fun σ S => WS (dSs P C ss σ S) Q, er := fun c' fs S' => ∃ l d, c' = c ∧ fs = some l ∧ l.lookup f = some d ∧ Q.rt (.tup [.str lit, d]) S' }) : WS (dSs P C (.cons (.try1 b c x i f lit) ss) σ S) Q := by
  simp only [dSs, dS, WS_nxt]
  revert k
  cases dSs P C b σ S with
  | err c' fs σ1 S1 =>
    intro k
    obtain ⟨l, d, rfl, rfl, h3, h4⟩ := k
    simp only [h3, if_true]
    exact h4
  | _ => exact fun k => k
theorem z_forK {i v : Nat} {b : Sms} {a : Nat} {kvs : List (Key × D)} (h1 : σ[v]? = some (some (.loc a))) (h2 : S[a]? = some (.dk kvs)) (k : WS (forN (.vs (kvs.map fun kv => keyD' kv.1)) (.nm i) (fun σ S => dSs P C b σ S) kvs.length 0 σ (S.set a (.fk kvs)))
      { nx := fun σ S => (∃ z, S[a]? = some (.fk z)) ∧ WS (dSs P C ss σ (S.set a (.dk kvs))) Q, rt := fun d S => (∃ z, S[a]? = some (.fk z)) ∧ Q.rt d (S.set a (.dk kvs)) }) : WS (dSs P C (.cons (.forK i v b) ss) σ S) Q := by
  simp only [dSs, dS, WS_nxt, h1, h2]
  revert k
  cases forN (.vs (kvs.map fun kv => keyD' kv.1)) (.nm i) (fun σ S => dSs P C b σ S) kvs.length 0 σ (S.set a (.fk kvs)) with
  | nx σ1 S1 =>
    rintro ⟨⟨z, hz⟩, k⟩
    unfold unfk
    simp only [hz]
    exact k
  | rt d S1 =>
    rintro ⟨⟨z, hz⟩, k⟩
    unfold unfk
    simp only [hz]
    exact k
  | _ => exact fun k => k.elim
end
end DI

set_option Elab.async false
set_option linter.all false
set_option maxRecDepth 100000
set_option maxHeartbeats 4000000
/-! Equality of plain data. -/
namespace DI
open L2 PySem PySem.Spec PyProof.Rows
def plD : Nat → D → Bool
  | 0, _ => false
  | _ + 1, .non => true
  | _ + 1, .int _ => true
  | _ + 1, .str x => PyData.canLay0 (.str x)
  | n + 1, .tup xs => xs.all (plD n)
  | _ + 1, _ => false
def toQ : Nat → D → PyData
  | 0, _ => .none
  | _ + 1, .int i => .int i
  | _ + 1, .str x => .str x
  | n + 1, .tup xs => .tuple (xs.map (toQ n))
  | _ + 1, _ => .none
theorem toP_all {S : Sto} {n : Nat} (ih : ∀ x, plD n x = true → toP S n x = some (toQ n x)) : ∀ xs : List D, xs.all (plD n) = true → xs.mapM (toP S n) = some (xs.map (toQ n))
  | [], _ => rfl
  | x :: xs, h => by
    simp only [List.all_cons, Bool.and_eq_true] at h
    rw [List.mapM_cons, ih x h.1, toP_all ih xs h.2]
    rfl
theorem toP_pl {S : Sto} : ∀ n x, plD n x = true → toP S n x = some (toQ n x) := by
  intro n
  induction n with
  | zero => intro x h; simp [plD] at h
  | succ n ih =>
    intro x h
    cases x with
    | non => rfl
    | int i => rfl
    | str z => rfl
    | tup xs =>
      simp only [plD] at h
      simp only [toP, toP_all ih xs h, toQ, Option.map_some]
    | _ => simp [plD] at h
theorem lay_all {n : Nat} (ih : ∀ x, plD n x = true → PyData.canLay0 (toQ n x) = true) : ∀ xs : List D, xs.all (plD n) = true → PyData.canLayAll0 (xs.map (toQ n)) = true
  | [], _ => by simp [PyData.canLayAll0]
  | x :: xs, h => by
    simp only [List.all_cons, Bool.and_eq_true] at h
    simp only [List.map_cons, PyData.canLayAll0, ih x h.1, lay_all ih xs h.2, Bool.and_self]
theorem lay_pl : ∀ n x, plD n x = true → PyData.canLay0 (toQ n x) = true := by
  intro n
  induction n with
  | zero => intro x h; simp [plD] at h
  | succ n ih =>
    intro x h
    cases x with
    | non => simp [toQ, PyData.canLay0]
    | int i => simp [toQ, PyData.canLay0]
    | str z => simpa [toQ, plD] using h
    | tup xs =>
      simp only [plD] at h
      simp only [toQ, PyData.canLay0, lay_all ih xs h]
    | _ => simp [plD] at h
theorem dep_all {n : Nat} (ih : ∀ x, PyData.depth (toQ n x) ≤ n) : ∀ xs : List D, PyData.depthAll (xs.map (toQ n)) ≤ n
  | [] => by simp [PyData.depthAll]
  | x :: xs => by
    simp only [List.map_cons, PyData.depthAll]
    exact Nat.max_le.mpr ⟨ih x, dep_all ih xs⟩
theorem dep_pl : ∀ n x, PyData.depth (toQ n x) ≤ n := by
  intro n
  induction n with
  | zero => intro x; simp [toQ, PyData.depth]
  | succ n ih =>
    intro x
    cases x with
    | tup xs =>
      simp only [toQ, PyData.depth]
      have := dep_all ih xs
      omega
    | _ => simp [toQ, PyData.depth]
theorem eqv_all {n : Nat} (ih : ∀ x y, plD n x = true → plD n y = true → (PyData.eqv (toQ n x) (toQ n y) = true ↔ x = y)) : ∀ xs ys : List D, xs.all (plD n) = true → ys.all (plD n) = true → (PyData.eqvAll (xs.map (toQ n)) (ys.map (toQ n)) = true ↔ xs = ys)
  | [], [], _, _ => by simp [PyData.eqvAll]
  | [], _ :: _, _, _ => by simp [PyData.eqvAll]
  | _ :: _, [], _, _ => by simp [PyData.eqvAll]
  | x :: xs, y :: ys, h, g => by
    simp only [List.all_cons, Bool.and_eq_true] at h g
    simp only [List.map_cons, PyData.eqvAll, Bool.and_eq_true, ih x y h.1 g.1, eqv_all ih xs ys h.2 g.2, List.cons.injEq]
theorem eqv_pl : ∀ n x y, plD n x = true → plD n y = true → (PyData.eqv (toQ n x) (toQ n y) = true ↔ x = y) := by
  intro n
  induction n with
  | zero => intro x y h; simp [plD] at h
  | succ n ih =>
    intro x y h g
    cases x <;> (try (simp [plD] at h; done)) <;> cases y <;> (try (simp [plD] at g; done)) <;> simp only [toQ, PyData.eqv, reduceCtorEq, iff_false, Bool.false_eq_true, not_false_eq_true, beq_iff_eq, D.int.injEq, D.str.injEq, true_iff, iff_true]
    simp only [plD] at h g
    rw [eqv_all ih _ _ h g, D.tup.injEq]
/-- equality of plain data -/
theorem eq_pl {S : Sto} {x y : D} (hx : plD 32 x = true) (hy : plD 32 y = true) : ∃ t, eqSem x y S = some t ∧ (t = true ↔ x = y) := by
  refine ⟨PyData.eqv (toQ 32 x) (toQ 32 y), ?_, eqv_pl 32 x y hx hy⟩
  unfold eqSem
  rw [toP_pl 32 x hx, toP_pl 32 y hy]
  have a : ∀ x, plD 32 x = true → SeqAt.shaped (toQ 32 x) = true := fun x h => by
    unfold SeqAt.shaped
    rw [lay_pl 32 x h, Bool.true_and]
    have := dep_pl 32 x
    exact decide_eq_true (by omega)
  simp only [a x hx, a y hy, and_self, if_true]
theorem eqD_int {S : Sto} {i j : Int} : eqSem (.int i) (.int j) S = some (i == j) := by
  obtain ⟨t, h1, h2⟩ := eq_pl (S := S) (x := .int i) (y := .int j) rfl rfl
  rw [h1]
  congr 1
  rw [Bool.eq_iff_iff, h2, D.int.injEq, beq_iff_eq]
theorem sz {n : Nat} (h : n ≤ 1000000) : n ≤ sizeLine := Nat.le_trans h (by decide)
theorem ix_loc {S : Sto} {Q : D → Prop} {a : Nat} {xs : List D} {k : Int} {d : D} (h : S[a]? = some (.lst xs)) (h2 : atI xs k = some d) (q : Q d) : ∃ d, itemSem (.loc a) (.int k) S = some d ∧ Q d := ⟨d, by simp only [itemSem, h, h2], q⟩
theorem set_loc {S : Sto} {Q : Sto → Prop} {a : Nat} {xs : List D} {k : Int} {j : Nat} {d : D} (h : S[a]? = some (.lst xs)) (h2 : ixN xs.length k = some j) (q : Q (S.set a (.lst (xs.set j d)))) : ∃ S', setSem (.loc a) (.int k) d S = some S' ∧ Q S' := ⟨_, by simp only [setSem, h, h2, Option.map_some], q⟩
theorem ixN_nat {n k : Nat} (h : k < n) : ixN n (k : Int) = some k := by
  unfold ixN
  rw [if_pos (Int.natCast_nonneg k), if_pos (by omega), Int.toNat_natCast]
theorem atI_nat {xs : List D} {k : Nat} {d : D} (h : xs[k]? = some d) : atI xs (k : Int) = some d := by
  unfold atI
  rw [ixN_nat (List.getElem?_eq_some_iff.mp h).1]
  exact h
theorem atI_of {xs : List D} {x : Int} (h0 : 0 ≤ x) (h1 : x < xs.length) : ∃ d, xs[x.toNat]? = some d ∧ atI xs x = some d := by
  obtain ⟨k, rfl⟩ := Int.eq_ofNat_of_zero_le h0
  have hk : k < xs.length := by omega
  refine ⟨xs[k], ?_, atI_nat (List.getElem?_eq_getElem hk)⟩
  rw [Int.toNat_natCast]
  exact List.getElem?_eq_getElem hk
end DI

set_option Elab.async false
set_option linter.all false
set_option maxRecDepth 100000
set_option maxHeartbeats 4000000
/-! Comprehensions whose tests and items change nothing; lists of ints. -/
namespace DI
open L2 PySem PySem.Spec PyProof.Rows
theorem intsD_map : ∀ l : List Int, intsD (l.map D.int) = some l
  | [] => rfl
  | i :: r => by
    show (intsD (r.map D.int)).map (i :: ·) = _
    rw [intsD_map r]
    rfl
section
variable {P : Pg} {C : Nat → List D → Sto → Out D}
theorem lcLoop_pure {w : Walk} {tg : Tg} {σ : Sl} {S : Sto} {test : Sl → Sto → Out Bool} {elt : Sl → Sto → Out D} {xs : List D} (f : D → Option D) (hw : ∀ i acc, wgo w i (S ++ [Cell.lst acc]) = some xs[i]?) (hlen : xs.length ≤ 1000000)
    (step : ∀ d, d ∈ xs → ∀ acc : List D, ∃ σ', setTg tg d σ = some σ' ∧ W (test σ' (S ++ [Cell.lst acc])) fun t S1 => S1 = S ++ [Cell.lst acc] ∧ (t = true → W (elt σ' (S ++ [Cell.lst acc])) fun v S2 => S2 = S ++ [Cell.lst acc] ∧ f d = some v) ∧ (t = false → f d = none)) :
    W (lcLoop w tg σ S.length test elt xs.length 0 (S ++ [Cell.lst []])) fun _ S' => S' = S ++ [Cell.lst (xs.filterMap f)] := by
  refine W_lcLoop (J := fun i S' => i ≤ xs.length ∧ S' = S ++ [Cell.lst ((xs.take i).filterMap f)]) (k0 := xs.length) ?_ ?_ ?_ xs.length 0 _ (by omega) ⟨by omega, by simp⟩
  · rintro S' ⟨_, rfl⟩
    rw [hw]
    simp
  · rintro i S' hi ⟨_, rfl⟩
    obtain ⟨σ', h1, h2⟩ := step xs[i] (List.getElem_mem hi) ((xs.take i).filterMap f)
    refine ⟨xs[i], σ', ?_, h1, W_mono h2 ?_⟩
    · rw [hw, List.getElem?_eq_getElem hi]
    · rintro t S1 ⟨rfl, h3, h4⟩
      have et : xs.take (i + 1) = xs.take i ++ [xs[i]] := by simp
      cases t with
      | false =>
        refine ⟨by omega, ?_⟩
        rw [et, List.filterMap_append]
        simp [h4 rfl]
      | true =>
        refine W_mono (h3 rfl) ?_
        rintro v S2 ⟨rfl, h5⟩
        refine ⟨(xs.take i).filterMap f, get_push, ?_, by omega, ?_⟩
        · have := List.length_filterMap_le f (xs.take i)
          have h7 : (xs.take i).length ≤ i := by simp; omega
          exact Nat.lt_of_lt_of_le (Nat.lt_of_le_of_lt (Nat.le_trans this h7) (Nat.lt_of_lt_of_le hi hlen)) (by decide)
        · rw [et, List.filterMap_append]
          simp [h5]
  · rintro S' ⟨_, rfl⟩
    simp
theorem li_walk {S : Sto} {a : Nat} {xs : List D} (h : S[a]? = some (.lst xs)) (i : Nat) (acc : List D) : wgo (.li a) i (S ++ [Cell.lst acc]) = some xs[i]? := by
  simp only [wgo, get_pushl h]
theorem rng_walk {S : Sto} {n : Nat} (i : Nat) (acc : List D) : wgo (.rng 0 n) i (S ++ [Cell.lst acc]) = some ((List.range n).map (fun k : Nat => D.int k))[i]? := by
  simp only [wgo, List.getElem?_map, List.getElem?_range']
  by_cases h : i < n
  · simp [h]
  · simp [h]
end
theorem foldl_max : ∀ (l : List Int) (a : Int), a ≤ l.foldl max a ∧ ∀ x ∈ l, x ≤ l.foldl max a
  | [], a => ⟨Int.le_refl _, by simp⟩
  | y :: l, a => by
    have h := foldl_max l (max a y)
    refine ⟨?_, fun x hx => ?_⟩
    · simp only [List.foldl_cons]; have := h.1; omega
    · simp only [List.foldl_cons]
      rcases List.mem_cons.mp hx with rfl | hx
      · have := h.1; omega
      · exact h.2 x hx
theorem foldl_min : ∀ (l : List Int) (a : Int), l.foldl min a ≤ a ∧ (∀ x ∈ l, l.foldl min a ≤ x) ∧ (l.foldl min a = a ∨ l.foldl min a ∈ l)
  | [], a => ⟨Int.le_refl _, by simp, .inl rfl⟩
  | y :: l, a => by
    have h := foldl_min l (min a y)
    simp only [List.foldl_cons]
    refine ⟨?_, fun x hx => ?_, ?_⟩
    · have := h.1; omega
    · rcases List.mem_cons.mp hx with rfl | hx
      · have := h.1; omega
      · exact h.2.1 x hx
    · rcases h.2.2 with h3 | h3
      · rw [h3]
        by_cases c : a ≤ y
        · left; omega
        · right; have : min a y = y := by omega
          rw [this]; simp
      · right; exact List.mem_cons_of_mem _ h3
/-! ### what changes nothing -/
def V (P : Pg) (C : Nat → List D → Sto → Out D) (e : Ex) (σ : Sl) (S : Sto) (v : D) : Prop := W (de P C e false σ S) fun d S' => S' = S ∧ d = v
def T (P : Pg) (C : Nat → List D → Sto → Out D) (e : Ex) (σ : Sl) (S : Sto) (p : Bool) : Prop := W (de P C e true σ S) fun d S' => S' = S ∧ d = .bl p
section
variable {P : Pg} {C : Nat → List D → Sto → Out D} {σ : Sl} {S : Sto} {a c : Ex} {x y z : D} {p q : Bool}
theorem V_var {i : Nat} (h : σ[i]? = some (some x)) : V P C (.var i) σ S x := w_var ⟨_, h, rfl, rfl⟩
theorem V_int {i : Int} : V P C (.cst (.int i)) σ S (.int i) := w_int ⟨rfl, rfl⟩
theorem V_str {i : Str} : V P C (.cst (.str i)) σ S (.str i) := w_str ⟨rfl, rfl⟩
theorem V_non : V P C (.cst .non) σ S .non := w_non ⟨rfl, rfl⟩
theorem V_bl {i : Bool} : V P C (.cst (.bl i)) σ S (.bl i) := w_blc ⟨rfl, rfl⟩
theorem V_bty {n : String} : V P C (.bty n) σ S (.ty n) := w_bty ⟨rfl, rfl⟩
theorem V_use {e : Ex} {Q : D → Sto → Prop} (h : V P C e σ S x) (k : Q x S) : W (de P C e false σ S) Q := W_mono h fun d S' ⟨e1, e2⟩ => by rw [e1, e2]; exact k
theorem T_use {e : Ex} {Q : D → Sto → Prop} (h : T P C e σ S p) (k : Q (.bl p) S) : W (de P C e true σ S) Q := W_mono h fun d S' ⟨e1, e2⟩ => by rw [e1, e2]; exact k
theorem V_bin {o : Operator} (ha : V P C a σ S x) (hc : V P C c σ S y) (h : opSem o x y S = some (z, S)) : V P C (.bin o a c) σ S z := w_bin (V_use ha (V_use hc (by rw [h]; exact ⟨rfl, rfl⟩)))
theorem V_ix {o i : Ex} (ha : V P C o σ S x) (hc : V P C i σ S y) (h : itemSem x y S = some z) : V P C (.ix o i) σ S z := w_ix (V_use ha (V_use hc ⟨_, h, rfl, rfl⟩))
theorem V_fld {n : Nat} {f : Str} (ha : V P C a σ S x) (h : fldSem x n f S = some z) : V P C (.fld n a f) σ S z := w_fld (V_use ha ⟨_, h, rfl, rfl⟩)
theorem V_bi1 {f : BI} (ha : V P C a σ S x) (h : biSem f [x] S = some (z, S)) : V P C (.bi f (.cons a .nil)) σ S z := w_bi (w_cons (V_use ha (w_nil ⟨_, _, h, rfl, rfl⟩)))
theorem V_bi2 {f : BI} (ha : V P C a σ S x) (hc : V P C c σ S y) (h : biSem f [x, y] S = some (z, S)) : V P C (.bi f (.cons a (.cons c .nil))) σ S z := w_bi (w_cons (V_use ha (w_cons (V_use hc (w_nil ⟨_, _, h, rfl, rfl⟩)))))
theorem V_neg {i : Int} (ha : V P C a σ S (.int i)) : V P C (.neg a) σ S (.int (-i)) := w_neg (V_use ha ⟨_, rfl, rfl, rfl⟩)
theorem V_cmp {o : CmpOp} (ha : V P C a σ S x) (hc : V P C c σ S y) (h : cmpSem o x y S = some p) : V P C (.cmp o a c) σ S (.bl p) := w_cmp (V_use ha (V_use hc ⟨_, h, rfl, rfl⟩))
theorem T_cmp {o : CmpOp} (ha : V P C a σ S x) (hc : V P C c σ S y) (h : cmpSem o x y S = some p) : T P C (.cmp o a c) σ S p := w_cmp (V_use ha (V_use hc ⟨_, h, rfl, rfl⟩))
theorem T_tru (h : isFin a = true) (ha : V P C a σ S x) (ht : truSem x S = some p) : T P C a σ S p := w_tru h (V_use ha ⟨_, ht, rfl, rfl⟩)
theorem T_and (ha : T P C a σ S p) (hc : p = true → T P C c σ S q) : T P C (.and_ a c) σ S (p && q) := w_and (T_use ha ⟨_, rfl, fun h => by subst h; exact hc rfl, fun h => by subst h; exact ⟨rfl, rfl⟩⟩)
theorem T_or (ha : T P C a σ S p) (hc : p = false → T P C c σ S q) : T P C (.or_ a c) σ S (p || q) := w_or (T_use ha ⟨_, rfl, fun h => by subst h; exact ⟨rfl, rfl⟩, fun h => by subst h; exact hc rfl⟩)
theorem T_not (ha : T P C a σ S p) : T P C (.not_ a) σ S (!p) := w_not (T_use ha ⟨_, rfl, rfl, rfl⟩)
theorem T_cast (h : T P C a σ S p) (e : p = q) : T P C a σ S q := e ▸ h
theorem z_iteT {Q : Po} {ss a b : Sms} (h : T P C c σ S p) (h1 : p = true → WS (dSs P C a σ S) { Q with nx := fun σ S => WS (dSs P C ss σ S) Q }) (h2 : p = false → WS (dSs P C b σ S) { Q with nx := fun σ S => WS (dSs P C ss σ S) Q }) : WS (dSs P C (.cons (.ite c a b) ss) σ S) Q := z_ite (T_use h ⟨_, rfl, h1, h2⟩)
theorem w_iteT {Q : D → Sto → Prop} {t : Ex} {b : Bool} (h : T P C t σ S p) (h1 : p = true → W (de P C a b σ S) Q) (h2 : p = false → W (de P C c b σ S) Q) : W (de P C (.ite t a c) b σ S) Q := w_ite (T_use h ⟨_, rfl, h1, h2⟩)
end
theorem bi_max1 {S : Sto} {a : Nat} {st : Int} {l : List Int} (h : S[a]? = some (.lst (D.int st :: l.map D.int))) : biSem .max1 [.loc a] S = some (.int (l.foldl max st), S) := by
  have e : intsD (D.int st :: l.map D.int) = some (st :: l) := by rw [← List.map_cons, intsD_map]
  simp only [biSem, listD, h, e, maxL, Option.bind, Option.map]
theorem bi_min1 {S : Sto} {a : Nat} {st : Int} {l : List Int} (h : S[a]? = some (.lst (D.int st :: l.map D.int))) : biSem .min1 [.loc a] S = some (.int (l.foldl min st), S) := by
  have e : intsD (D.int st :: l.map D.int) = some (st :: l) := by rw [← List.map_cons, intsD_map]
  simp only [biSem, listD, h, e, minL, Option.bind, Option.map]
end DI

set_option Elab.async false
set_option linter.all false
set_option maxRecDepth 100000
set_option maxHeartbeats 4000000
/-! Comprehensions over a list of any kind, by a test and an item; equality of lists; walks. -/
namespace DI
open L2 PySem PySem.Spec PyProof.Rows
def IsW (w : Walk) (S : Sto) (xs : List D) : Prop := (∀ i acc, wgo w i (S ++ [Cell.lst acc]) = some xs[i]?) ∧ wlen w S = xs.length ∧ xs.length ≤ 1000000
theorem IsW.li {S : Sto} {a : Nat} {xs : List D} (h : S[a]? = some (.lst xs)) (hl : xs.length ≤ 1000000) : IsW (.li a) S xs := ⟨fun i acc => li_walk h i acc, by simp only [wlen, h], hl⟩
theorem IsW.vs {S : Sto} {xs : List D} (hl : xs.length ≤ 1000000) : IsW (.vs xs) S xs := ⟨fun i acc => rfl, rfl, hl⟩
theorem IsW.rng {S : Sto} {n : Nat} (hl : n ≤ 1000000) : IsW (.rng 0 n) S ((List.range n).map fun k : Nat => D.int k) := ⟨fun i acc => rng_walk i acc, by simp only [wlen, List.length_map, List.length_range], by simpa using hl⟩
section
variable {P : Pg} {C : Nat → List D → Sto → Out D} {σ : Sl} {S : Sto}
theorem lc_pure {α : Type} {xs : List α} (rd : α → D) (p : α → Bool) (g : α → D) {own : List (Str × Nat)} {tg : Tg} {it : Ir} {ifs : Exs} {elt : Ex} {Q : D → Sto → Prop}
    (hit : W (deI P C it σ S) fun w S1 => IsW w S1 (xs.map rd) ∧ (∀ x ∈ xs, ∀ acc, ∃ σ', setTg tg (rd x) (wipeD σ (own.map (·.2))) = some σ' ∧ W (deT P C ifs σ' (S1 ++ [Cell.lst acc])) (fun t S2 => S2 = S1 ++ [Cell.lst acc] ∧ t = p x) ∧ (p x = true → V P C elt σ' (S1 ++ [Cell.lst acc]) (g x))) ∧
      Q (.loc S1.length) (S1 ++ [Cell.lst ((xs.filter p).map g)])) : W (de P C (.lc own tg it ifs elt) false σ S) Q := by
  refine w_lc (W_mono hit fun w S1 ⟨⟨hw1, hw2, hw3⟩, hs, hq⟩ => ?_)
  rw [hw2, List.length_map]
  rw [List.length_map] at hw3
  refine W_lcLoop (J := fun i S' => i ≤ xs.length ∧ S' = S1 ++ [Cell.lst (((xs.take i).filter p).map g)]) (k0 := xs.length) ?_ ?_ ?_ xs.length 0 _ (by omega) ⟨by omega, by simp⟩
  · rintro S' ⟨_, rfl⟩
    rw [hw1]
    simp
  · rintro i S' hi ⟨_, rfl⟩
    obtain ⟨σ', h1, h2, h3⟩ := hs xs[i] (List.getElem_mem hi) (((xs.take i).filter p).map g)
    refine ⟨rd xs[i], σ', ?_, h1, W_mono h2 ?_⟩
    · rw [hw1, List.getElem?_map, List.getElem?_eq_getElem hi]
      rfl
    · rintro t S2 ⟨rfl, rfl⟩
      have et : xs.take (i + 1) = xs.take i ++ [xs[i]] := by simp
      cases hp : p xs[i] with
      | false =>
        show if false = true then _ else _
        rw [if_neg (by decide)]
        refine ⟨by omega, ?_⟩
        rw [et, List.filter_append]
        simp [hp]
      | true =>
        show if true = true then _ else _
        rw [if_pos rfl]
        refine W_mono (h3 hp) ?_
        rintro v S3 ⟨rfl, rfl⟩
        refine ⟨((xs.take i).filter p).map g, get_push, ?_, by omega, ?_⟩
        · have h6 := List.length_filter_le p (xs.take i)
          have h7 : (xs.take i).length ≤ i := by simp; omega
          rw [List.length_map]
          exact Nat.lt_of_lt_of_le (Nat.lt_of_le_of_lt (Nat.le_trans h6 h7) (Nat.lt_of_lt_of_le hi hw3)) (by decide)
        · rw [et, List.filter_append]
          simp [hp]
  · rintro S' ⟨_, rfl⟩
    rw [List.take_length]
    exact hq
theorem dT1 {e : Ex} {p : Bool} (h : T P C e σ S p) : W (deT P C (.cons e .nil) σ S) fun t S' => S' = S ∧ t = p := w_T1 (W_mono h fun d S' ⟨e1, e2⟩ => ⟨p, e2, e1, rfl⟩)
theorem dT0 : W (deT P C .nil σ S) fun t S' => S' = S ∧ t = true := w_T0 ⟨rfl, rfl⟩
theorem lc_set {own : List (Str × Nat)} {v : Nat} {d : D} {e : own.map (·.2) = [v]} : setTg (.nm v) d (wipeD σ (own.map (·.2))) = some (σ.set v (some d)) := by
  rw [e]
  show some ((σ.set v none).set v (some d)) = _
  rw [List.set_set]
end
theorem toP_list {S : Sto} {a : Nat} {xs : List D} (h : S[a]? = some (.lst xs)) (hp : xs.all (plD 31) = true) : toP S 32 (.loc a) = some (.list (xs.map (toQ 31))) := by
  simp only [toP, h, toP_all (fun x hx => toP_pl 31 x hx) xs hp, Option.map_some]
theorem shaped_list {xs : List D} (p1 : xs.all (plD 31) = true) : SeqAt.shaped (.list (xs.map (toQ 31))) = true := by
  unfold SeqAt.shaped
  have h1 := lay_all (fun x hx => lay_pl 31 x hx) xs p1
  have h2 := dep_all (fun x => dep_pl 31 x) xs
  simp only [PyData.canLay0, h1, Bool.true_and, PyData.depth]
  exact decide_eq_true (by omega)
/-- equality of lists of plain data -/
theorem eq_lls {S : Sto} {a b : Nat} {xs ys : List D} (h1 : S[a]? = some (.lst xs)) (h2 : S[b]? = some (.lst ys)) (p1 : xs.all (plD 31) = true) (p2 : ys.all (plD 31) = true) : ∃ t, eqSem (.loc a) (.loc b) S = some t ∧ (t = true ↔ xs = ys) := by
  refine ⟨PyData.eqv (.list (xs.map (toQ 31))) (.list (ys.map (toQ 31))), ?_, ?_⟩
  · simp only [eqSem, toP_list h1 p1, toP_list h2 p2, shaped_list p1, shaped_list p2, and_self, if_true]
  · simp only [PyData.eqv]
    exact eqv_all (fun x y hx hy => eqv_pl 31 x y hx hy) xs ys p1 p2
theorem pl_ints : ∀ (l : List Int), (l.map D.int).all (plD 31) = true
  | [] => rfl
  | i :: l => by simp only [List.map_cons, List.all_cons, pl_ints l, Bool.and_true]; rfl
/-- a list of ints is not empty -/
theorem ne_nil {S : Sto} {a b : Nat} {l : List Int} (h1 : S[a]? = some (.lst (l.map D.int))) (h2 : S[b]? = some (.lst [])) : cmpSem .NotEq (.loc a) (.loc b) S = some (!l.isEmpty) := by
  obtain ⟨t, e, i⟩ := eq_lls h1 h2 (pl_ints l) rfl
  simp only [cmpSem, e, Option.map_some]
  cases l with
  | nil => rw [i.mpr rfl]; rfl
  | cons x l => cases t with
    | false => rfl
    | true => have := i.mp rfl; simp at this
theorem NE_of {x y : D} {S : Sto} {t : Bool} (h : eqSem x y S = some t) : cmpSem .NotEq x y S = some (!t) := by simp only [cmpSem, h, Option.map_some]
theorem eq_self {x : D} {S : Sto} (h : plD 32 x = true) : eqSem x x S = some true := by
  obtain ⟨t, e, i⟩ := eq_pl (S := S) h h
  rw [e, i.mpr rfl]
theorem ne_self {x : D} {S : Sto} (h : plD 32 x = true) : cmpSem .NotEq x x S = some false := NE_of (eq_self h)
section
variable {P : Pg} {C : Nat → List D → Sto → Out D} {σ : Sl} {S : Sto} {a c e : Ex} {x y z : D} {p q : Bool}
theorem T_chn {o o' : CmpOp} (ha : V P C a σ S x) (hc : V P C c σ S y) (h : cmpSem o x y S = some p) (he : p = true → V P C e σ S z) (h' : cmpSem o' y z S = some q) : T P C (.chn o o' a c e) σ S (p && q) :=
  w_chn (V_use ha (V_use hc ⟨_, h, fun hp => by subst hp; exact V_use (he rfl) ⟨_, h', rfl, rfl⟩, fun hp => by subst hp; exact ⟨rfl, rfl⟩⟩))
end
theorem walk_lst {S : Sto} {a : Nat} {xs : List D} (h : S[a]? = some (.lst xs)) : walkOf (.loc a) S = some (.li a) := by simp only [walkOf, h]
/-- a comprehension without tests, whose item may change what stands -/
theorem lc_eff {P : Pg} {C : Nat → List D → Sto → Out D} {σ : Sl} {S : Sto} {α : Type} {xs : List α} (rd : α → D) (I : Nat → List D → Sto → Prop) {own : List (Str × Nat)} {tg : Tg} {it : Ir} {elt : Ex} {Q : D → Sto → Prop}
    (hit : W (deI P C it σ S) fun w S1 => (∀ i acc S', I i acc S' → S'[S1.length]? = some (Cell.lst acc) → wgo w i S' = some (xs.map rd)[i]?) ∧ wlen w S1 = xs.length ∧ xs.length ≤ 1000000 ∧ I 0 [] (S1 ++ [Cell.lst []]) ∧
      (∀ i (h : i < xs.length) acc S', acc.length = i → I i acc S' → S'[S1.length]? = some (Cell.lst acc) → ∃ σ', setTg tg (rd xs[i]) (wipeD σ (own.map (·.2))) = some σ' ∧ W (de P C elt false σ' S') fun v S2 => S2[S1.length]? = some (Cell.lst acc) ∧ I (i + 1) (acc ++ [v]) (S2.set S1.length (Cell.lst (acc ++ [v])))) ∧
      (∀ acc S', acc.length = xs.length → I xs.length acc S' → S'[S1.length]? = some (Cell.lst acc) → Q (.loc S1.length) S')) : W (de P C (.lc own tg it .nil elt) false σ S) Q := by
  refine w_lc (W_mono hit fun w S1 ⟨hw1, hw2, hw3, h0, hs, hq⟩ => ?_)
  rw [hw2]
  refine W_lcLoop (J := fun i S' => i ≤ xs.length ∧ ∃ acc, acc.length = i ∧ I i acc S' ∧ S'[S1.length]? = some (Cell.lst acc)) (k0 := xs.length) ?_ ?_ ?_ xs.length 0 _ (by omega) ⟨by omega, [], rfl, h0, get_push⟩
  · rintro S' ⟨_, acc, h1, h2, h3⟩
    rw [hw1 _ _ _ h2 h3]
    simp
  · rintro i S' hi ⟨_, acc, h1, h2, h3⟩
    obtain ⟨σ', e1, e2⟩ := hs i hi acc S' h1 h2 h3
    refine ⟨rd xs[i], σ', ?_, e1, w_T0 ?_⟩
    · rw [hw1 _ _ _ h2 h3, List.getElem?_map, List.getElem?_eq_getElem hi]
      rfl
    · rw [if_pos rfl]
      refine W_mono e2 fun v S2 ⟨k1, k2⟩ => ⟨acc, k1, ?_, by omega, _, ?_, k2, get_set (lt_of k1)⟩
      · exact Nat.lt_of_lt_of_le (m := 1000001) (by omega) (by decide)
      · rw [List.length_append, h1]; rfl
  · rintro S' ⟨_, acc, h1, h2, h3⟩
    exact hq acc S' h1 h2 h3
theorem w_mulL {a : Nat} {k : Int} {xs : List D} {S : Sto} {Q : D → Sto → Prop} (h : S[a]? = some (.lst xs)) (h1 : -(2 ^ 63) ≤ k ∧ k < 2 ^ 63 ∧ xs.length * k.toNat ≤ sizeLine) (hk : Q (.loc S.length) (S ++ [.lst (List.replicate k.toNat xs).flatten])) : W (.of (opSem .Mult (.loc a) (.int k) S)) Q := by
  unfold opSem
  simp only [h, h1, and_self, if_true]
  exact hk
end DI

set_option Elab.async false
set_option linter.all false
set_option maxRecDepth 100000
set_option maxHeartbeats 4000000
/-! Plain values by their types; expressions that change nothing. -/
namespace DI
open L2 PySem PySem.Spec PyProof.Rows
/-- data that an equality takes -/
def Sh (S : Sto) (d : D) : Prop := ∃ p, toP S 32 d = some p ∧ SeqAt.shaped p = true
/-- a value of a type that can be told -/
inductive VOk (S : Sto) : D → Prop
  | non : VOk S .non
  | bl (b : Bool) : VOk S (.bl b)
  | int (i : Int) : VOk S (.int i)
  | str {x : Str} : PyData.canLay0 (.str x) = true → VOk S (.str x)
  | tup {xs : List D} : (∀ x ∈ xs, VOk S x) → (∀ x ∈ xs, Sh S x) → VOk S (.tup xs)
  | lst {a : Nat} {xs : List D} : S[a]? = some (.lst xs) → VOk S (.loc a)
  | dk {a : Nat} {kvs : List (Key × D)} : S[a]? = some (.dk kvs) → VOk S (.loc a)
  | fk {a : Nat} {kvs : List (Key × D)} : S[a]? = some (.fk kvs) → VOk S (.loc a)
/-- .. of which no more is asked -/
inductive TOk (S : Sto) : D → Prop
  | non : TOk S .non
  | bl (b : Bool) : TOk S (.bl b)
  | int (i : Int) : TOk S (.int i)
  | str (x : Str) : TOk S (.str x)
  | tup (xs : List D) : TOk S (.tup xs)
  | lst {a : Nat} {xs : List D} : S[a]? = some (.lst xs) → TOk S (.loc a)
  | dk {a : Nat} {kvs : List (Key × D)} : S[a]? = some (.dk kvs) → TOk S (.loc a)
  | fk {a : Nat} {kvs : List (Key × D)} : S[a]? = some (.fk kvs) → TOk S (.loc a)
theorem VOk.t {S : Sto} {d : D} (h : VOk S d) : TOk S d := by
  cases h with
  | non => exact .non
  | bl b => exact .bl b
  | int i => exact .int i
  | str h => exact .str _
  | tup _ _ => exact .tup _
  | lst h => exact .lst h
  | dk h => exact .dk h
  | fk h => exact .fk h
theorem TOk.mono {S S' : Sto} (hs : ∀ (a : Nat) (c : Cell), S[a]? = some c → S'[a]? = some c) {d : D} (h : TOk S d) : TOk S' d := by
  cases h with
  | non => exact .non
  | bl b => exact .bl b
  | int i => exact .int i
  | str x => exact .str x
  | tup xs => exact .tup xs
  | lst h => exact .lst (hs _ _ h)
  | dk h => exact .dk (hs _ _ h)
  | fk h => exact .fk (hs _ _ h)
def ti : D → Bool | .int _ => true | .bl _ => true | _ => false
def tb : D → Bool | .bl _ => true | _ => false
def ts : D → Bool | .str _ => true | _ => false
def tt : D → Bool | .tup _ => true | _ => false
def td (S : Sto) : D → Bool
  | .loc a => match S[a]? with | some c => isDk c | none => false
  | _ => false
section
variable {P : Pg} {C : Nat → List D → Sto → Out D} {σ : Sl} {S : Sto} {a c : Ex} {d x y z : D} {p q : Bool}
theorem V_and (ha : V P C a σ S (.bl p)) (hc : p = true → V P C c σ S (.bl q)) : V P C (.and_ a c) σ S (.bl (p && q)) := w_and (V_use ha ⟨p, rfl, fun h => by subst h; exact hc rfl, fun h => by subst h; exact ⟨rfl, rfl⟩⟩)
theorem V_or (ha : V P C a σ S (.bl p)) (hc : p = false → V P C c σ S (.bl q)) : V P C (.or_ a c) σ S (.bl (p || q)) := w_or (V_use ha ⟨p, rfl, fun h => by subst h; exact ⟨rfl, rfl⟩, fun h => by subst h; exact hc rfl⟩)
theorem V_not (ha : V P C a σ S (.bl p)) : V P C (.not_ a) σ S (.bl (!p)) := w_not (V_use ha ⟨p, rfl, rfl, rfl⟩)
theorem V_glo {g : Str} (h : P.glo g = some d) : V P C (.glo g) σ S d := w_glo h ⟨rfl, rfl⟩
theorem V_cal {j : Nat} (ha : V P C a σ S x) (h : W (C j [x] S) fun r S' => S' = S ∧ r = z) : V P C (.cal j (.cons a .nil)) σ S z := w_cal (w_cons (V_use ha (w_nil h)))
theorem V_chn {o o' : CmpOp} {e : Ex} (ha : V P C a σ S x) (hc : V P C c σ S y) (h : cmpSem o x y S = some p) (he : p = true → V P C e σ S z) (h' : cmpSem o' y z S = some q) : V P C (.chn o o' a c e) σ S (.bl (p && q)) :=
  w_chn (V_use ha (V_use hc ⟨p, h, fun hp => by subst hp; exact V_use (he rfl) ⟨q, h', rfl, rfl⟩, fun hp => by subst hp; exact ⟨rfl, rfl⟩⟩))
theorem V_cast (h : V P C a σ S x) (e : x = y) : V P C a σ S y := e ▸ h
theorem T_bl (h : isFin a = true) (ha : V P C a σ S (.bl p)) : T P C a σ S p := T_tru h ha rfl
theorem isi_ok {n t : String} (h1 : tyName x S = some t) (h2 : kitB t n = some p) : biSem .isi [x, .ty n] S = some (.bl p, S) := by
  show ((tyName x S).bind fun t => (kitB t n).map fun b => ((.bl b, S) : D × Sto)) = _
  rw [h1]
  show (kitB t n).map _ = _
  rw [h2] <;> rfl
theorem ty_lst {i : Nat} {xs : List D} (h : S[i]? = some (.lst xs)) : tyName (.loc i) S = some "list" := by simp only [tyName, h]
theorem ty_dk {i : Nat} {xs : List (Key × D)} (h : S[i]? = some (.dk xs)) : tyName (.loc i) S = some "dict" := by simp only [tyName, h]
theorem ty_fk {i : Nat} {xs : List (Key × D)} (h : S[i]? = some (.fk xs)) : tyName (.loc i) S = some "dict" := by simp only [tyName, h]
theorem v_ti (hv : TOk S d) (ha : V P C a σ S d) : V P C (.bi .isi (.cons a (.cons (.bty "int") .nil))) σ S (.bl (ti d)) := by
  refine V_bi2 ha V_bty ?_
  cases hv with
  | lst h => exact isi_ok (ty_lst h) rfl
  | dk h => exact isi_ok (ty_dk h) rfl
  | fk h => exact isi_ok (ty_fk h) rfl
  | _ => rfl
theorem v_tb (hv : TOk S d) (ha : V P C a σ S d) : V P C (.bi .isi (.cons a (.cons (.bty "bool") .nil))) σ S (.bl (tb d)) := by
  refine V_bi2 ha V_bty ?_
  cases hv with
  | lst h => exact isi_ok (ty_lst h) rfl
  | dk h => exact isi_ok (ty_dk h) rfl
  | fk h => exact isi_ok (ty_fk h) rfl
  | _ => rfl
theorem v_ts (hv : TOk S d) (ha : V P C a σ S d) : V P C (.bi .isi (.cons a (.cons (.bty "str") .nil))) σ S (.bl (ts d)) := by
  refine V_bi2 ha V_bty ?_
  cases hv with
  | lst h => exact isi_ok (ty_lst h) rfl
  | dk h => exact isi_ok (ty_dk h) rfl
  | fk h => exact isi_ok (ty_fk h) rfl
  | _ => rfl
theorem v_tt (hv : TOk S d) (ha : V P C a σ S d) : V P C (.bi .isi (.cons a (.cons (.bty "tuple") .nil))) σ S (.bl (tt d)) := by
  refine V_bi2 ha V_bty ?_
  cases hv with
  | lst h => exact isi_ok (ty_lst h) rfl
  | dk h => exact isi_ok (ty_dk h) rfl
  | fk h => exact isi_ok (ty_fk h) rfl
  | _ => rfl
theorem v_td (hv : TOk S d) (ha : V P C a σ S d) : V P C (.bi .isi (.cons a (.cons (.bty "dict") .nil))) σ S (.bl (td S d)) := by
  refine V_bi2 ha V_bty ?_
  cases hv with
  | lst h => rw [show td S (.loc _) = false by simp only [td, h, isDk]]; exact isi_ok (ty_lst h) rfl
  | dk h => rw [show td S (.loc _) = true by simp only [td, h, isDk]]; exact isi_ok (ty_dk h) rfl
  | fk h => rw [show td S (.loc _) = true by simp only [td, h, isDk]]; exact isi_ok (ty_fk h) rfl
  | _ => rfl
/-- is: with None -/
def isN : D → Bool | .non => true | _ => false
theorem v_is (ha : V P C a σ S d) : V P C (.cmp .Is a (.cst .non)) σ S (.bl (isN d)) := V_cmp ha V_non (by cases d <;> rfl)
theorem v_isnt (ha : V P C a σ S d) : V P C (.cmp .IsNot a (.cst .non)) σ S (.bl (!isN d)) := V_cmp ha V_non (by cases d <;> rfl)
/-- == of anything with a text -/
def isS (s : Str) : D → Bool | .str x => x == s | _ => false
theorem shp {x : Str} (h : PyData.canLay0 (.str x) = true) : SeqAt.shaped (.str x) = true := by
  unfold SeqAt.shaped
  rw [h] <;> rfl
theorem eq_str {s : Str} (hs : PyData.canLay0 (.str s) = true) (h : Sh S d) : eqSem d (.str s) S = some (isS s d) := by
  obtain ⟨p, h1, h2⟩ := h
  have e2 : toP S 32 (.str s) = some (.str s) := rfl
  unfold eqSem
  rw [h1, e2]
  dsimp only
  rw [if_pos ⟨h2, shp hs⟩]
  congr 1
  cases d with
  | str x =>
    have : toP S 32 (.str x) = some (.str x) := rfl
    rw [this] at h1; cases h1
    simp only [PyData.eqv, isS]
  | non => cases h1; rfl
  | bl b => cases h1; rfl
  | int i => cases h1; rfl
  | tup xs =>
    simp only [toP, Option.map_eq_some_iff] at h1
    obtain ⟨ps, _, rfl⟩ := h1
    rfl
  | rl xs =>
    simp only [toP, Option.map_eq_some_iff] at h1
    obtain ⟨ps, _, rfl⟩ := h1
    rfl
  | loc i =>
    simp only [toP] at h1
    split at h1
    · simp only [Option.map_eq_some_iff] at h1
      obtain ⟨ps, _, rfl⟩ := h1
      rfl
    · cases h1
  | _ => simp [toP] at h1
theorem sh_str {x : Str} (h : PyData.canLay0 (.str x) = true) : Sh S (.str x) := ⟨.str x, rfl, shp h⟩
theorem sh_int {x : Int} : Sh S (.int x) := ⟨.int x, rfl, rfl⟩
theorem sh_bl {x : Bool} : Sh S (.bl x) := ⟨.bool x, rfl, rfl⟩
theorem sh_non : Sh S .non := ⟨.none, rfl, rfl⟩
theorem cmp_str {s : Str} : cmpSem .Eq d (.str s) S = eqSem d (.str s) S := by cases d <;> rfl
theorem v_eqS {s : Str} (h : Sh S d) (ha : V P C a σ S d) (hs : PyData.canLay0 (.str s) = true := by decide +kernel) : V P C (.cmp .Eq a (.cst (.str s))) σ S (.bl (isS s d)) := V_cmp ha V_str (cmp_str.trans (eq_str hs h))
/-- len of a tuple, == a number -/
theorem v_lenT {xs : List D} {n : Int} (ha : V P C a σ S (.tup xs)) : V P C (.cmp .Eq (.bi .len (.cons a .nil)) (.cst (.int n))) σ S (.bl ((xs.length : Int) == n)) := V_cmp (V_bi1 (z := .int xs.length) ha rfl) V_int (eqD_int (S := S))
theorem v_ixT {xs : List D} {n : Int} (ha : V P C a σ S (.tup xs)) (h : atI xs n = some d) : V P C (.ix a (.cst (.int n))) σ S d := V_ix ha V_int h
theorem v_geI {i n : Int} (ha : V P C a σ S (.int i)) : V P C (.cmp .GtE a (.cst (.int n))) σ S (.bl (decide (n ≤ i))) := V_cmp ha V_int rfl
end
/-! what stays when the store grows -/
theorem toPs_mono {S S' : Sto} {n : Nat} (ih : ∀ d p, toP S n d = some p → toP S' n d = some p) : ∀ (xs : List D) (ps : List PyData), xs.mapM (toP S n) = some ps → xs.mapM (toP S' n) = some ps
  | [], ps, h => h
  | x :: xs, ps, h => by
    rw [List.mapM_cons] at h ⊢
    cases h1 : toP S n x with
    | none => rw [h1] at h; cases h
    | some q =>
      rw [h1] at h
      rw [ih _ _ h1]
      cases h2 : xs.mapM (toP S n) with
      | none => rw [h2] at h; cases h
      | some qs =>
        rw [h2] at h
        rw [toPs_mono ih xs qs h2]
        exact h
theorem toP_monoL {S S' : Sto} (hs : ∀ (a : Nat) (c : List D), S[a]? = some (.lst c) → S'[a]? = some (.lst c)) : ∀ n d p, toP S n d = some p → toP S' n d = some p := by
  intro n
  induction n with
  | zero => intro d p h; simp [toP] at h
  | succ n ih =>
    intro d p h
    cases d with
    | tup xs =>
      simp only [toP, Option.map_eq_some_iff] at h ⊢
      obtain ⟨ps, h1, h2⟩ := h
      exact ⟨ps, toPs_mono ih xs ps h1, h2⟩
    | rl xs =>
      simp only [toP, Option.map_eq_some_iff] at h ⊢
      obtain ⟨ps, h1, h2⟩ := h
      exact ⟨ps, toPs_mono ih xs ps h1, h2⟩
    | loc a =>
      simp only [toP] at h ⊢
      split at h
      · rename_i xs hx
        rw [hs _ _ hx]
        simp only [Option.map_eq_some_iff] at h ⊢
        obtain ⟨ps, h1, h2⟩ := h
        exact ⟨ps, toPs_mono ih xs ps h1, h2⟩
      · cases h
    | _ => exact h
theorem toP_mono {S S' : Sto} (hs : ∀ (a : Nat) (c : Cell), S[a]? = some c → S'[a]? = some c) : ∀ n d p, toP S n d = some p → toP S' n d = some p := toP_monoL fun a c => hs a _
theorem Sh.mono {S S' : Sto} {d : D} (h : Sh S d) (hs : ∀ (a : Nat) (c : Cell), S[a]? = some c → S'[a]? = some c) : Sh S' d := let ⟨p, h1, h2⟩ := h; ⟨p, toP_mono hs _ _ _ h1, h2⟩
theorem VOk.mono {S S' : Sto} (hs : ∀ (a : Nat) (c : Cell), S[a]? = some c → S'[a]? = some c) : ∀ {d : D}, VOk S d → VOk S' d
  | _, .non => .non
  | _, .bl b => .bl b
  | _, .int i => .int i
  | _, .str h => .str h
  | _, .tup h1 h2 => .tup (fun x hx => VOk.mono hs (h1 x hx)) fun x hx => (h2 x hx).mono hs
  | _, .lst h => .lst (hs _ _ h)
  | _, .dk h => .dk (hs _ _ h)
  | _, .fk h => .fk (hs _ _ h)
/-- a dict is locked: values stay values -/
theorem VOk.lock {S : Sto} {a : Nat} {kvs : List (Key × D)} (h : S[a]? = some (.dk kvs)) : ∀ {d : D}, VOk S d → VOk (S.set a (.fk kvs)) d
  | _, .non => .non
  | _, .bl b => .bl b
  | _, .int i => .int i
  | _, .str h => .str h
  | _, .tup h1 h2 => .tup (fun x hx => VOk.lock h (h1 x hx)) fun x hx => let ⟨p, e1, e2⟩ := h2 x hx; ⟨p, toP_monoL (fun b c hb => by
      rw [List.getElem?_set_ne (fun e => by rw [e, hb] at h; cases h)]; exact hb) _ _ _ e1, e2⟩
  | _, .lst (a := b) hb => .lst (a := b) (by rw [List.getElem?_set_ne (fun e => by rw [e, hb] at h; cases h)]; exact hb)
  | _, .dk (a := b) (kvs := ks) hb => by
    by_cases e : a = b
    · subst e
      exact .fk (a := a) (get_set (lt_of h))
    · exact .dk (a := b) (by rw [List.getElem?_set_ne e]; exact hb)
  | _, .fk (a := b) hb => .fk (a := b) (by rw [List.getElem?_set_ne (fun e => by rw [e, hb] at h; cases h)]; exact hb)
theorem Fr.lock {S S1 : Sto} {a : Nat} {kvs : List (Key × D)} (h : S[a]? = some (.dk kvs)) (f : Fr [] (S.set a (.fk kvs)) S1) : Fr [] S (S1.set a (.dk kvs)) := by
  have hl := lt_of h
  refine ⟨by have := f.1; simp only [List.length_set] at this ⊢; exact this, fun k hk _ => ?_⟩
  by_cases e : a = k
  · subst e
    rw [get_set (Nat.lt_of_lt_of_le hl (by have := f.1; simpa using this)), h]
  · rw [List.getElem?_set_ne e, f.2 k (by simpa using hk) (by simp), List.getElem?_set_ne e]
theorem Fr.all {S S' : Sto} (f : Fr [] S S') : ∀ (a : Nat) (c : Cell), S[a]? = some c → S'[a]? = some c := fun a c h => f.get h (by simp)
theorem push_all' {S : Sto} {c : Cell} : ∀ (a : Nat) (c' : Cell), S[a]? = some c' → (S ++ [c])[a]? = some c' := fun a c' h => get_pushl h
theorem blsD_map : ∀ l : List Bool, blsD (l.map D.bl) = some l
  | [] => rfl
  | b :: r => by show (blsD (r.map D.bl)).map (b :: ·) = _; rw [blsD_map r]; rfl
theorem bi_all {S : Sto} {a : Nat} {l : List Bool} (h : S[a]? = some (.lst (l.map D.bl))) : biSem .all_ [.loc a] S = some (.bl (l.all id), S) := by
  simp only [biSem, listD, h, Option.bind_some, blsD_map, Option.map_some]
section
variable {P : Pg} {C : Nat → List D → Sto → Out D} {σ : Sl} {S : Sto} {Q : D → Sto → Prop}
theorem w_dct0 (k : Q (.loc S.length) (S ++ [.dk []])) : W (de P C (.dct0 false) false σ S) Q := by
  simp only [de, fin_f]; exact k
theorem tru_l {a : Nat} {xs : List D} (h : S[a]? = some (.lst xs)) : truSem (.loc a) S = some (!xs.isEmpty) := by simp only [truSem, h]
theorem bm_pop {a : Nat} {xs : List D} {d : D} (h : S[a]? = some (.lst (xs ++ [d]))) : bmSem .pop (.loc a) [] S = some (d, S.set a (.lst xs)) := by
  simp only [bmSem, h]
  rw [show (xs ++ [d]).length - 1 = xs.length by simp, List.getElem?_append_right (Nat.le_refl _)]
  simp
theorem bm_ext {a c : Nat} {xs ys : List D} (h1 : S[a]? = some (.lst xs)) (h2 : S[c]? = some (.lst ys)) (h : xs.length + ys.length ≤ sizeLine) : bmSem .extend (.loc a) [.loc c] S = some (.non, S.set a (.lst (xs ++ ys))) := by
  simp only [bmSem, h1, h2, h, if_true]
def ixs (ks : List D) : List (Nat × D) := ks.mapIdx fun i d => (i, d)
theorem IsW.en {ks : List D} (hl : ks.length ≤ 1000000) : IsW (.en (.vs ks)) S ((ixs ks).map fun q => D.tup [.int (q.1 : Nat), q.2]) := by
  refine ⟨fun i acc => ?_, ?_, ?_⟩
  · show (some ks[i]?).map _ = _
    unfold ixs
    rw [List.getElem?_map, List.getElem?_mapIdx]
    cases ks[i]? <;> rfl
  · show ks.length = _
    unfold ixs
    rw [List.length_map, List.length_mapIdx]
  · unfold ixs
    rw [List.length_map, List.length_mapIdx]; exact hl
end
/-! dicts written with constants -/
def litD (l : List (Str × Lit)) : List (Key × D) := l.map fun q => (.inr q.1, q.2.d)
def litEs : List (Str × Lit) → Exs
  | [] => .nil
  | q :: r => .cons (.cst q.2) (litEs r)
def dictE (l : List (Str × Lit)) : Ex := match l with | [] => .dct0 false | _ => .dctK (l.map (·.1)) (litEs l)
def dictEs : List (List (Str × Lit)) → Exs
  | [] => .nil
  | l :: r => .cons (dictE l) (dictEs r)
def layL : Lit → Bool | .str x => PyData.canLay0 (.str x) | _ => true
def okL (l : List (Str × Lit)) : Bool := l.all (fun q => PyData.canLay0 (.str q.1) && layL q.2) && decide (l.map (·.1)).Nodup && decide (l.length ≤ 15)
theorem look_nd : ∀ {l : List (Str × Lit)}, (l.map (·.1)).Nodup → ∀ kv ∈ litD l, lookK (litD l) kv.1 = some kv.2
  | [], _, kv, h => by cases h
  | q :: r, hn, kv, h => by
    rw [List.map_cons, List.nodup_cons] at hn
    show lookK ((.inr q.1, q.2.d) :: litD r) kv.1 = _
    unfold lookK
    rw [List.find?_cons]
    rcases List.mem_cons.mp h with rfl | h
    · rw [decide_eq_true rfl] <;> rfl
    · have : (Sum.inr q.1 : Key) ≠ kv.1 := by
        intro e
        obtain ⟨q', h', e'⟩ := List.mem_map.mp h
        rw [← e'] at e
        exact hn.1 (List.mem_map.mpr ⟨q', h', (Sum.inr.inj e).symm⟩)
      rw [decide_eq_false this]
      exact look_nd hn.2 kv h
theorem any_lit {l : List (Str × Lit)} {k : Str} (h : k ∉ l.map (·.1)) : ((litD l).any fun kv => decide (kv.1 = (Sum.inr k : Key))) = false := by
  rw [Bool.eq_false_iff]
  intro hb
  obtain ⟨kv, h1, h2⟩ := List.any_eq_true.mp hb
  obtain ⟨q, h3, rfl⟩ := List.mem_map.mp h1
  exact h (List.mem_map.mpr ⟨q, h3, Sum.inr.inj (of_decide_eq_true h2)⟩)
theorem merge_lit : ∀ (l acc : List (Str × Lit)), ((acc ++ l).map (·.1)).Nodup → mergeD (litD acc) ((l.map fun q => (Sum.inr q.1 : Key)).zip (l.map fun q => q.2.d)) = litD (acc ++ l)
  | [], acc, _ => by simp [mergeD]
  | q :: r, acc, h => by
    show mergeD (putD (litD acc) (.inr q.1) q.2.d) _ = _
    have hq : q.1 ∉ acc.map (·.1) := by
      rw [List.map_append, List.map_cons, List.nodup_append] at h
      exact fun z => h.2.2 _ z _ List.mem_cons_self rfl
    unfold putD
    rw [any_lit hq, if_neg (by decide)]
    have e : litD acc ++ [((.inr q.1 : Key), q.2.d)] = litD (acc ++ [q]) := by unfold litD; rw [List.map_append]; rfl
    rw [e]
    have := merge_lit r (acc ++ [q]) (by rw [List.append_assoc]; exact h)
    rw [List.append_assoc] at this
    exact this
section
variable {P : Pg} {C : Nat → List D → Sto → Out D} {σ : Sl} {S : Sto}
theorem w_lits : ∀ {l : List (Str × Lit)} {Q : List D → Sto → Prop}, Q (l.map fun q => q.2.d) S → W (des P C (litEs l) σ S) Q
  | [], Q, h => w_nil h
  | q :: r, Q, h => w_cons (by
    show W (de P C (.cst q.2) false σ S) _
    simp only [de, fin_f]
    exact w_lits (l := r) (Q := fun ds S => Q (q.2.d :: ds) S) h)
theorem w_dictE {l : List (Str × Lit)} {Q : D → Sto → Prop} (h : okL l = true) (k : Q (.loc S.length) (S ++ [.dk (litD l)])) : W (de P C (dictE l) false σ S) Q := by
  unfold okL at h
  simp only [Bool.and_eq_true, decide_eq_true_eq] at h
  cases l with
  | nil => exact w_dct0 k
  | cons q r =>
    show W (de P C (.dctK ((q :: r).map (·.1)) (litEs (q :: r))) false σ S) Q
    refine w_dctK (w_lits ⟨get_push, ⟨by simp, by simpa using h.2⟩, ?_⟩)
    have e := merge_lit (q :: r) [] h.1.2
    rw [List.map_map]
    rw [show (mergeD [] (((q :: r).map (Sum.inr ∘ fun x => x.1)).zip ((q :: r).map fun q => q.2.d))) = litD (q :: r) from e]
    rw [show (S ++ [Cell.dk []]).set S.length (Cell.dk (litD (q :: r))) = S ++ [Cell.dk (litD (q :: r))] by simp]
    exact k
theorem w_dicts : ∀ {ls : List (List (Str × Lit))} {S : Sto} {Q : List D → Sto → Prop}, ls.all okL = true → Q ((List.range ls.length).map fun i => D.loc (S.length + i)) (S ++ ls.map fun l => Cell.dk (litD l)) → W (des P C (dictEs ls) σ S) Q
  | [], S, Q, _, k => w_nil (by simpa using k)
  | l :: r, S, Q, h, k => by
    rw [List.all_cons, Bool.and_eq_true] at h
    refine w_cons (w_dictE h.1 (w_dicts (ls := r) (Q := fun ds S' => Q (.loc S.length :: ds) S') h.2 ?_))
    rw [List.length_cons, List.range_succ_eq_map, List.map_cons, List.map_map] at k
    rw [List.length_append, List.length_singleton, List.append_assoc]
    have e : (fun i => D.loc (S.length + 1 + i)) = ((fun i => D.loc (S.length + i)) ∘ Nat.succ) := by funext i; show D.loc _ = D.loc _; congr 1; omega
    rw [e]
    exact k
end
theorem pick_of {ls : List (List (Str × Lit))} {S S' : Sto} {x : D} (hx : x ∈ (List.range ls.length).map fun i => D.loc (S.length + i)) (hs : ∀ (a : Nat) (kvs : List (Key × D)), (S ++ ls.map fun l => Cell.dk (litD l))[a]? = some (.dk kvs) → S'[a]? = some (.dk kvs)) :
    ∃ a l, l ∈ ls ∧ x = .loc a ∧ S'[a]? = some (.dk (litD l)) := by
  obtain ⟨i, hi, rfl⟩ := List.mem_map.mp hx
  have hi' := List.mem_range.mp hi
  refine ⟨_, ls[i], List.getElem_mem hi', rfl, hs _ _ ?_⟩
  rw [List.getElem?_append_right (by omega), Nat.add_sub_cancel_left, List.getElem?_map, List.getElem?_eq_getElem hi']
  rfl
theorem VOk.lit {S : Sto} {l : Lit} (h : layL l = true) : VOk S l.d := by
  cases l with
  | non => exact .non
  | bl b => exact .bl b
  | int i => exact .int i
  | str x => exact .str h
end DI

set_option Elab.async false
set_option linter.all false
set_option maxRecDepth 100000
set_option maxHeartbeats 4000000
namespace K85
open L2 DI PySem PySem.Spec PyProof.Rows
def dep : Nat := 60
/-- a drawer's list -/
def StL (l : List D) : Prop := (∃ n : Int, l = [.int n]) ∨ ∃ a b c : Int, l = [.int a, .int b, .int c]
def St (S : Sto) (i : Nat) : Prop := ∃ l, S[i]? = some (.lst l) ∧ StL l
theorem St.fr {S S' : Sto} {i : Nat} {B : List Nat} (h : St S i) (f : DI.Fr B S S') (hi : i ∉ B) : St S' i := by
  obtain ⟨l, h1, h2⟩ := h
  exact ⟨l, f.get h1 hi, h2⟩
theorem St.lt {S : Sto} {i : Nat} (h : St S i) : i < S.length := by
  obtain ⟨l, h1, h2⟩ := h
  exact lt_of h1
theorem digit_b {d i : Nat} {S : Sto} {a b c base : Int} (h : S[i]? = some (.lst [.int a, .int b, .int c])) (h0 : 0 < base) (h1 : base < 1073741824) (Q : Po)
    (hQ : ∀ x a' b' c' : Int, 0 ≤ x → x < base → Q.rt (.int x) (S.set i (.lst [.int a', .int b', .int c']))) :
    WS (dSs P0 (calls P0 fs d) t_law_digit_4 [some (.loc i), some (.int base), none, none] S) Q := by
  have hl := lt_of h
  unfold t_law_digit_4
  (repeat (first | ((with_reducible refine w_var ?_); refine ⟨_, rfl, ?_⟩) | with_reducible refine z_set ?_ | with_reducible refine z_setT ?_ | with_reducible refine z_par ?_ | with_reducible refine z_fld ?_ | with_reducible refine z_sub ?_ | with_reducible refine z_exp ?_ | with_reducible refine z_ret ?_ | with_reducible refine z_retN ?_ | with_reducible refine z_ite ?_ | with_reducible refine z_whl ?_ | with_reducible refine z_for ?_ | with_reducible refine z_pass ?_ | with_reducible refine z_brk ?_ | with_reducible refine z_cnt ?_ | with_reducible refine z_nil ?_ | with_reducible refine z_par3 ?_ | with_reducible refine z_sub2 ?_ | with_reducible refine z_sub3 ?_ | with_reducible refine z_raiF ?_ | with_reducible refine z_rai ?_ | with_reducible refine z_try1 ?_ | with_reducible refine w_bin ?_ | with_reducible refine w_int ?_ | with_reducible refine w_str ?_ | with_reducible refine w_blc ?_ | with_reducible refine w_non ?_ | with_reducible refine w_bty ?_ | with_reducible refine w_neg ?_ | with_reducible refine w_cmp ?_ | with_reducible refine w_chn ?_ | with_reducible refine w_and ?_ | with_reducible refine w_or ?_ | with_reducible refine w_not ?_ | with_reducible refine w_ite ?_ | with_reducible refine w_fld ?_ | with_reducible refine w_ix ?_ | with_reducible refine w_sl ?_ | with_reducible refine w_no ?_ | with_reducible refine w_so ?_ | with_reducible refine w_nil ?_ | with_reducible refine w_cons ?_ | with_reducible refine w_tup ?_ | with_reducible refine w_lst ?_ | with_reducible refine w_cal ?_ | with_reducible refine w_mk ?_ | with_reducible refine w_mth ?_ | with_reducible refine w_bi ?_ | with_reducible refine w_bm ?_ | with_reducible refine w_lc ?_ | with_reducible refine w_iex ?_ | with_reducible refine w_rng1 ?_ | with_reducible refine w_rng2 ?_ | with_reducible refine w_enum ?_ | with_reducible refine w_T0 ?_ | with_reducible refine w_T1 ?_ | with_reducible refine w_add ?_ | with_reducible refine w_sub ?_ | with_reducible refine w_dctK ?_ | with_reducible refine w_dget1 ?_ | with_reducible refine w_dget2 ?_ | with_reducible refine w_rev ?_ | ((with_reducible refine w_tru ?_ ?_); exact rfl)))
  refine ix_loc h (by rfl) ?_
  (repeat (first | ((with_reducible refine w_var ?_); refine ⟨_, rfl, ?_⟩) | with_reducible refine z_set ?_ | with_reducible refine z_setT ?_ | with_reducible refine z_par ?_ | with_reducible refine z_fld ?_ | with_reducible refine z_sub ?_ | with_reducible refine z_exp ?_ | with_reducible refine z_ret ?_ | with_reducible refine z_retN ?_ | with_reducible refine z_ite ?_ | with_reducible refine z_whl ?_ | with_reducible refine z_for ?_ | with_reducible refine z_pass ?_ | with_reducible refine z_brk ?_ | with_reducible refine z_cnt ?_ | with_reducible refine z_nil ?_ | with_reducible refine z_par3 ?_ | with_reducible refine z_sub2 ?_ | with_reducible refine z_sub3 ?_ | with_reducible refine z_raiF ?_ | with_reducible refine z_rai ?_ | with_reducible refine z_try1 ?_ | with_reducible refine w_bin ?_ | with_reducible refine w_int ?_ | with_reducible refine w_str ?_ | with_reducible refine w_blc ?_ | with_reducible refine w_non ?_ | with_reducible refine w_bty ?_ | with_reducible refine w_neg ?_ | with_reducible refine w_cmp ?_ | with_reducible refine w_chn ?_ | with_reducible refine w_and ?_ | with_reducible refine w_or ?_ | with_reducible refine w_not ?_ | with_reducible refine w_ite ?_ | with_reducible refine w_fld ?_ | with_reducible refine w_ix ?_ | with_reducible refine w_sl ?_ | with_reducible refine w_no ?_ | with_reducible refine w_so ?_ | with_reducible refine w_nil ?_ | with_reducible refine w_cons ?_ | with_reducible refine w_tup ?_ | with_reducible refine w_lst ?_ | with_reducible refine w_cal ?_ | with_reducible refine w_mk ?_ | with_reducible refine w_mth ?_ | with_reducible refine w_bi ?_ | with_reducible refine w_bm ?_ | with_reducible refine w_lc ?_ | with_reducible refine w_iex ?_ | with_reducible refine w_rng1 ?_ | with_reducible refine w_rng2 ?_ | with_reducible refine w_enum ?_ | with_reducible refine w_T0 ?_ | with_reducible refine w_T1 ?_ | with_reducible refine w_add ?_ | with_reducible refine w_sub ?_ | with_reducible refine w_dctK ?_ | with_reducible refine w_dget1 ?_ | with_reducible refine w_dget2 ?_ | with_reducible refine w_rev ?_ | ((with_reducible refine w_tru ?_ ?_); exact rfl)))
  refine ⟨_, rfl, _, rfl, fun _ => ?_, fun _ => ?_⟩
  · unfold t_law_digit_2
    (repeat (first | ((with_reducible refine w_var ?_); refine ⟨_, rfl, ?_⟩) | with_reducible refine z_set ?_ | with_reducible refine z_setT ?_ | with_reducible refine z_par ?_ | with_reducible refine z_fld ?_ | with_reducible refine z_sub ?_ | with_reducible refine z_exp ?_ | with_reducible refine z_ret ?_ | with_reducible refine z_retN ?_ | with_reducible refine z_ite ?_ | with_reducible refine z_whl ?_ | with_reducible refine z_for ?_ | with_reducible refine z_pass ?_ | with_reducible refine z_brk ?_ | with_reducible refine z_cnt ?_ | with_reducible refine z_nil ?_ | with_reducible refine z_par3 ?_ | with_reducible refine z_sub2 ?_ | with_reducible refine z_sub3 ?_ | with_reducible refine z_raiF ?_ | with_reducible refine z_rai ?_ | with_reducible refine z_try1 ?_ | with_reducible refine w_bin ?_ | with_reducible refine w_int ?_ | with_reducible refine w_str ?_ | with_reducible refine w_blc ?_ | with_reducible refine w_non ?_ | with_reducible refine w_bty ?_ | with_reducible refine w_neg ?_ | with_reducible refine w_cmp ?_ | with_reducible refine w_chn ?_ | with_reducible refine w_and ?_ | with_reducible refine w_or ?_ | with_reducible refine w_not ?_ | with_reducible refine w_ite ?_ | with_reducible refine w_fld ?_ | with_reducible refine w_ix ?_ | with_reducible refine w_sl ?_ | with_reducible refine w_no ?_ | with_reducible refine w_so ?_ | with_reducible refine w_nil ?_ | with_reducible refine w_cons ?_ | with_reducible refine w_tup ?_ | with_reducible refine w_lst ?_ | with_reducible refine w_cal ?_ | with_reducible refine w_mk ?_ | with_reducible refine w_mth ?_ | with_reducible refine w_bi ?_ | with_reducible refine w_bm ?_ | with_reducible refine w_lc ?_ | with_reducible refine w_iex ?_ | with_reducible refine w_rng1 ?_ | with_reducible refine w_rng2 ?_ | with_reducible refine w_enum ?_ | with_reducible refine w_T0 ?_ | with_reducible refine w_T1 ?_ | with_reducible refine w_add ?_ | with_reducible refine w_sub ?_ | with_reducible refine w_dctK ?_ | with_reducible refine w_dget1 ?_ | with_reducible refine w_dget2 ?_ | with_reducible refine w_rev ?_ | ((with_reducible refine w_tru ?_ ?_); exact rfl)))
    refine ix_loc h (by rfl) ?_
    (repeat (first | ((with_reducible refine w_var ?_); refine ⟨_, rfl, ?_⟩) | with_reducible refine z_set ?_ | with_reducible refine z_setT ?_ | with_reducible refine z_par ?_ | with_reducible refine z_fld ?_ | with_reducible refine z_sub ?_ | with_reducible refine z_exp ?_ | with_reducible refine z_ret ?_ | with_reducible refine z_retN ?_ | with_reducible refine z_ite ?_ | with_reducible refine z_whl ?_ | with_reducible refine z_for ?_ | with_reducible refine z_pass ?_ | with_reducible refine z_brk ?_ | with_reducible refine z_cnt ?_ | with_reducible refine z_nil ?_ | with_reducible refine z_par3 ?_ | with_reducible refine z_sub2 ?_ | with_reducible refine z_sub3 ?_ | with_reducible refine z_raiF ?_ | with_reducible refine z_rai ?_ | with_reducible refine z_try1 ?_ | with_reducible refine w_bin ?_ | with_reducible refine w_int ?_ | with_reducible refine w_str ?_ | with_reducible refine w_blc ?_ | with_reducible refine w_non ?_ | with_reducible refine w_bty ?_ | with_reducible refine w_neg ?_ | with_reducible refine w_cmp ?_ | with_reducible refine w_chn ?_ | with_reducible refine w_and ?_ | with_reducible refine w_or ?_ | with_reducible refine w_not ?_ | with_reducible refine w_ite ?_ | with_reducible refine w_fld ?_ | with_reducible refine w_ix ?_ | with_reducible refine w_sl ?_ | with_reducible refine w_no ?_ | with_reducible refine w_so ?_ | with_reducible refine w_nil ?_ | with_reducible refine w_cons ?_ | with_reducible refine w_tup ?_ | with_reducible refine w_lst ?_ | with_reducible refine w_cal ?_ | with_reducible refine w_mk ?_ | with_reducible refine w_mth ?_ | with_reducible refine w_bi ?_ | with_reducible refine w_bm ?_ | with_reducible refine w_lc ?_ | with_reducible refine w_iex ?_ | with_reducible refine w_rng1 ?_ | with_reducible refine w_rng2 ?_ | with_reducible refine w_enum ?_ | with_reducible refine w_T0 ?_ | with_reducible refine w_T1 ?_ | with_reducible refine w_add ?_ | with_reducible refine w_sub ?_ | with_reducible refine w_dctK ?_ | with_reducible refine w_dget1 ?_ | with_reducible refine w_dget2 ?_ | with_reducible refine w_rev ?_ | ((with_reducible refine w_tru ?_ ?_); exact rfl)))
    refine ⟨_, _, rfl, ?_⟩
    (repeat (first | ((with_reducible refine w_var ?_); refine ⟨_, rfl, ?_⟩) | with_reducible refine z_set ?_ | with_reducible refine z_setT ?_ | with_reducible refine z_par ?_ | with_reducible refine z_fld ?_ | with_reducible refine z_sub ?_ | with_reducible refine z_exp ?_ | with_reducible refine z_ret ?_ | with_reducible refine z_retN ?_ | with_reducible refine z_ite ?_ | with_reducible refine z_whl ?_ | with_reducible refine z_for ?_ | with_reducible refine z_pass ?_ | with_reducible refine z_brk ?_ | with_reducible refine z_cnt ?_ | with_reducible refine z_nil ?_ | with_reducible refine z_par3 ?_ | with_reducible refine z_sub2 ?_ | with_reducible refine z_sub3 ?_ | with_reducible refine z_raiF ?_ | with_reducible refine z_rai ?_ | with_reducible refine z_try1 ?_ | with_reducible refine w_bin ?_ | with_reducible refine w_int ?_ | with_reducible refine w_str ?_ | with_reducible refine w_blc ?_ | with_reducible refine w_non ?_ | with_reducible refine w_bty ?_ | with_reducible refine w_neg ?_ | with_reducible refine w_cmp ?_ | with_reducible refine w_chn ?_ | with_reducible refine w_and ?_ | with_reducible refine w_or ?_ | with_reducible refine w_not ?_ | with_reducible refine w_ite ?_ | with_reducible refine w_fld ?_ | with_reducible refine w_ix ?_ | with_reducible refine w_sl ?_ | with_reducible refine w_no ?_ | with_reducible refine w_so ?_ | with_reducible refine w_nil ?_ | with_reducible refine w_cons ?_ | with_reducible refine w_tup ?_ | with_reducible refine w_lst ?_ | with_reducible refine w_cal ?_ | with_reducible refine w_mk ?_ | with_reducible refine w_mth ?_ | with_reducible refine w_bi ?_ | with_reducible refine w_bm ?_ | with_reducible refine w_lc ?_ | with_reducible refine w_iex ?_ | with_reducible refine w_rng1 ?_ | with_reducible refine w_rng2 ?_ | with_reducible refine w_enum ?_ | with_reducible refine w_T0 ?_ | with_reducible refine w_T1 ?_ | with_reducible refine w_add ?_ | with_reducible refine w_sub ?_ | with_reducible refine w_dctK ?_ | with_reducible refine w_dget1 ?_ | with_reducible refine w_dget2 ?_ | with_reducible refine w_rev ?_ | ((with_reducible refine w_tru ?_ ?_); exact rfl)))
    refine w_mod h0 ?_
    (repeat (first | ((with_reducible refine w_var ?_); refine ⟨_, rfl, ?_⟩) | with_reducible refine z_set ?_ | with_reducible refine z_setT ?_ | with_reducible refine z_par ?_ | with_reducible refine z_fld ?_ | with_reducible refine z_sub ?_ | with_reducible refine z_exp ?_ | with_reducible refine z_ret ?_ | with_reducible refine z_retN ?_ | with_reducible refine z_ite ?_ | with_reducible refine z_whl ?_ | with_reducible refine z_for ?_ | with_reducible refine z_pass ?_ | with_reducible refine z_brk ?_ | with_reducible refine z_cnt ?_ | with_reducible refine z_nil ?_ | with_reducible refine z_par3 ?_ | with_reducible refine z_sub2 ?_ | with_reducible refine z_sub3 ?_ | with_reducible refine z_raiF ?_ | with_reducible refine z_rai ?_ | with_reducible refine z_try1 ?_ | with_reducible refine w_bin ?_ | with_reducible refine w_int ?_ | with_reducible refine w_str ?_ | with_reducible refine w_blc ?_ | with_reducible refine w_non ?_ | with_reducible refine w_bty ?_ | with_reducible refine w_neg ?_ | with_reducible refine w_cmp ?_ | with_reducible refine w_chn ?_ | with_reducible refine w_and ?_ | with_reducible refine w_or ?_ | with_reducible refine w_not ?_ | with_reducible refine w_ite ?_ | with_reducible refine w_fld ?_ | with_reducible refine w_ix ?_ | with_reducible refine w_sl ?_ | with_reducible refine w_no ?_ | with_reducible refine w_so ?_ | with_reducible refine w_nil ?_ | with_reducible refine w_cons ?_ | with_reducible refine w_tup ?_ | with_reducible refine w_lst ?_ | with_reducible refine w_cal ?_ | with_reducible refine w_mk ?_ | with_reducible refine w_mth ?_ | with_reducible refine w_bi ?_ | with_reducible refine w_bm ?_ | with_reducible refine w_lc ?_ | with_reducible refine w_iex ?_ | with_reducible refine w_rng1 ?_ | with_reducible refine w_rng2 ?_ | with_reducible refine w_enum ?_ | with_reducible refine w_T0 ?_ | with_reducible refine w_T1 ?_ | with_reducible refine w_add ?_ | with_reducible refine w_sub ?_ | with_reducible refine w_dctK ?_ | with_reducible refine w_dget1 ?_ | with_reducible refine w_dget2 ?_ | with_reducible refine w_rev ?_ | ((with_reducible refine w_tru ?_ ?_); exact rfl)))
    refine ix_loc h (by rfl) ?_
    (repeat (first | ((with_reducible refine w_var ?_); refine ⟨_, rfl, ?_⟩) | with_reducible refine z_set ?_ | with_reducible refine z_setT ?_ | with_reducible refine z_par ?_ | with_reducible refine z_fld ?_ | with_reducible refine z_sub ?_ | with_reducible refine z_exp ?_ | with_reducible refine z_ret ?_ | with_reducible refine z_retN ?_ | with_reducible refine z_ite ?_ | with_reducible refine z_whl ?_ | with_reducible refine z_for ?_ | with_reducible refine z_pass ?_ | with_reducible refine z_brk ?_ | with_reducible refine z_cnt ?_ | with_reducible refine z_nil ?_ | with_reducible refine z_par3 ?_ | with_reducible refine z_sub2 ?_ | with_reducible refine z_sub3 ?_ | with_reducible refine z_raiF ?_ | with_reducible refine z_rai ?_ | with_reducible refine z_try1 ?_ | with_reducible refine w_bin ?_ | with_reducible refine w_int ?_ | with_reducible refine w_str ?_ | with_reducible refine w_blc ?_ | with_reducible refine w_non ?_ | with_reducible refine w_bty ?_ | with_reducible refine w_neg ?_ | with_reducible refine w_cmp ?_ | with_reducible refine w_chn ?_ | with_reducible refine w_and ?_ | with_reducible refine w_or ?_ | with_reducible refine w_not ?_ | with_reducible refine w_ite ?_ | with_reducible refine w_fld ?_ | with_reducible refine w_ix ?_ | with_reducible refine w_sl ?_ | with_reducible refine w_no ?_ | with_reducible refine w_so ?_ | with_reducible refine w_nil ?_ | with_reducible refine w_cons ?_ | with_reducible refine w_tup ?_ | with_reducible refine w_lst ?_ | with_reducible refine w_cal ?_ | with_reducible refine w_mk ?_ | with_reducible refine w_mth ?_ | with_reducible refine w_bi ?_ | with_reducible refine w_bm ?_ | with_reducible refine w_lc ?_ | with_reducible refine w_iex ?_ | with_reducible refine w_rng1 ?_ | with_reducible refine w_rng2 ?_ | with_reducible refine w_enum ?_ | with_reducible refine w_T0 ?_ | with_reducible refine w_T1 ?_ | with_reducible refine w_add ?_ | with_reducible refine w_sub ?_ | with_reducible refine w_dctK ?_ | with_reducible refine w_dget1 ?_ | with_reducible refine w_dget2 ?_ | with_reducible refine w_rev ?_ | ((with_reducible refine w_tru ?_ ?_); exact rfl)))
    refine w_div ⟨h0, h1⟩ ?_
    (repeat (first | ((with_reducible refine w_var ?_); refine ⟨_, rfl, ?_⟩) | with_reducible refine z_set ?_ | with_reducible refine z_setT ?_ | with_reducible refine z_par ?_ | with_reducible refine z_fld ?_ | with_reducible refine z_sub ?_ | with_reducible refine z_exp ?_ | with_reducible refine z_ret ?_ | with_reducible refine z_retN ?_ | with_reducible refine z_ite ?_ | with_reducible refine z_whl ?_ | with_reducible refine z_for ?_ | with_reducible refine z_pass ?_ | with_reducible refine z_brk ?_ | with_reducible refine z_cnt ?_ | with_reducible refine z_nil ?_ | with_reducible refine z_par3 ?_ | with_reducible refine z_sub2 ?_ | with_reducible refine z_sub3 ?_ | with_reducible refine z_raiF ?_ | with_reducible refine z_rai ?_ | with_reducible refine z_try1 ?_ | with_reducible refine w_bin ?_ | with_reducible refine w_int ?_ | with_reducible refine w_str ?_ | with_reducible refine w_blc ?_ | with_reducible refine w_non ?_ | with_reducible refine w_bty ?_ | with_reducible refine w_neg ?_ | with_reducible refine w_cmp ?_ | with_reducible refine w_chn ?_ | with_reducible refine w_and ?_ | with_reducible refine w_or ?_ | with_reducible refine w_not ?_ | with_reducible refine w_ite ?_ | with_reducible refine w_fld ?_ | with_reducible refine w_ix ?_ | with_reducible refine w_sl ?_ | with_reducible refine w_no ?_ | with_reducible refine w_so ?_ | with_reducible refine w_nil ?_ | with_reducible refine w_cons ?_ | with_reducible refine w_tup ?_ | with_reducible refine w_lst ?_ | with_reducible refine w_cal ?_ | with_reducible refine w_mk ?_ | with_reducible refine w_mth ?_ | with_reducible refine w_bi ?_ | with_reducible refine w_bm ?_ | with_reducible refine w_lc ?_ | with_reducible refine w_iex ?_ | with_reducible refine w_rng1 ?_ | with_reducible refine w_rng2 ?_ | with_reducible refine w_enum ?_ | with_reducible refine w_T0 ?_ | with_reducible refine w_T1 ?_ | with_reducible refine w_add ?_ | with_reducible refine w_sub ?_ | with_reducible refine w_dctK ?_ | with_reducible refine w_dget1 ?_ | with_reducible refine w_dget2 ?_ | with_reducible refine w_rev ?_ | ((with_reducible refine w_tru ?_ ?_); exact rfl)))
    refine set_loc h (by rfl) ?_
    (repeat (first | ((with_reducible refine w_var ?_); refine ⟨_, rfl, ?_⟩) | with_reducible refine z_set ?_ | with_reducible refine z_setT ?_ | with_reducible refine z_par ?_ | with_reducible refine z_fld ?_ | with_reducible refine z_sub ?_ | with_reducible refine z_exp ?_ | with_reducible refine z_ret ?_ | with_reducible refine z_retN ?_ | with_reducible refine z_ite ?_ | with_reducible refine z_whl ?_ | with_reducible refine z_for ?_ | with_reducible refine z_pass ?_ | with_reducible refine z_brk ?_ | with_reducible refine z_cnt ?_ | with_reducible refine z_nil ?_ | with_reducible refine z_par3 ?_ | with_reducible refine z_sub2 ?_ | with_reducible refine z_sub3 ?_ | with_reducible refine z_raiF ?_ | with_reducible refine z_rai ?_ | with_reducible refine z_try1 ?_ | with_reducible refine w_bin ?_ | with_reducible refine w_int ?_ | with_reducible refine w_str ?_ | with_reducible refine w_blc ?_ | with_reducible refine w_non ?_ | with_reducible refine w_bty ?_ | with_reducible refine w_neg ?_ | with_reducible refine w_cmp ?_ | with_reducible refine w_chn ?_ | with_reducible refine w_and ?_ | with_reducible refine w_or ?_ | with_reducible refine w_not ?_ | with_reducible refine w_ite ?_ | with_reducible refine w_fld ?_ | with_reducible refine w_ix ?_ | with_reducible refine w_sl ?_ | with_reducible refine w_no ?_ | with_reducible refine w_so ?_ | with_reducible refine w_nil ?_ | with_reducible refine w_cons ?_ | with_reducible refine w_tup ?_ | with_reducible refine w_lst ?_ | with_reducible refine w_cal ?_ | with_reducible refine w_mk ?_ | with_reducible refine w_mth ?_ | with_reducible refine w_bi ?_ | with_reducible refine w_bm ?_ | with_reducible refine w_lc ?_ | with_reducible refine w_iex ?_ | with_reducible refine w_rng1 ?_ | with_reducible refine w_rng2 ?_ | with_reducible refine w_enum ?_ | with_reducible refine w_T0 ?_ | with_reducible refine w_T1 ?_ | with_reducible refine w_add ?_ | with_reducible refine w_sub ?_ | with_reducible refine w_dctK ?_ | with_reducible refine w_dget1 ?_ | with_reducible refine w_dget2 ?_ | with_reducible refine w_rev ?_ | ((with_reducible refine w_tru ?_ ?_); exact rfl)))
    exact hQ _ _ _ _ (Int.emod_nonneg _ (by omega)) (Int.emod_lt_of_pos _ h0)
  · (repeat (first | ((with_reducible refine w_var ?_); refine ⟨_, rfl, ?_⟩) | with_reducible refine z_set ?_ | with_reducible refine z_setT ?_ | with_reducible refine z_par ?_ | with_reducible refine z_fld ?_ | with_reducible refine z_sub ?_ | with_reducible refine z_exp ?_ | with_reducible refine z_ret ?_ | with_reducible refine z_retN ?_ | with_reducible refine z_ite ?_ | with_reducible refine z_whl ?_ | with_reducible refine z_for ?_ | with_reducible refine z_pass ?_ | with_reducible refine z_brk ?_ | with_reducible refine z_cnt ?_ | with_reducible refine z_nil ?_ | with_reducible refine z_par3 ?_ | with_reducible refine z_sub2 ?_ | with_reducible refine z_sub3 ?_ | with_reducible refine z_raiF ?_ | with_reducible refine z_rai ?_ | with_reducible refine z_try1 ?_ | with_reducible refine w_bin ?_ | with_reducible refine w_int ?_ | with_reducible refine w_str ?_ | with_reducible refine w_blc ?_ | with_reducible refine w_non ?_ | with_reducible refine w_bty ?_ | with_reducible refine w_neg ?_ | with_reducible refine w_cmp ?_ | with_reducible refine w_chn ?_ | with_reducible refine w_and ?_ | with_reducible refine w_or ?_ | with_reducible refine w_not ?_ | with_reducible refine w_ite ?_ | with_reducible refine w_fld ?_ | with_reducible refine w_ix ?_ | with_reducible refine w_sl ?_ | with_reducible refine w_no ?_ | with_reducible refine w_so ?_ | with_reducible refine w_nil ?_ | with_reducible refine w_cons ?_ | with_reducible refine w_tup ?_ | with_reducible refine w_lst ?_ | with_reducible refine w_cal ?_ | with_reducible refine w_mk ?_ | with_reducible refine w_mth ?_ | with_reducible refine w_bi ?_ | with_reducible refine w_bm ?_ | with_reducible refine w_lc ?_ | with_reducible refine w_iex ?_ | with_reducible refine w_rng1 ?_ | with_reducible refine w_rng2 ?_ | with_reducible refine w_enum ?_ | with_reducible refine w_T0 ?_ | with_reducible refine w_T1 ?_ | with_reducible refine w_add ?_ | with_reducible refine w_sub ?_ | with_reducible refine w_dctK ?_ | with_reducible refine w_dget1 ?_ | with_reducible refine w_dget2 ?_ | with_reducible refine w_rev ?_ | ((with_reducible refine w_tru ?_ ?_); exact rfl)))
    unfold t_law_digit_3
    (repeat (first | ((with_reducible refine w_var ?_); refine ⟨_, rfl, ?_⟩) | with_reducible refine z_set ?_ | with_reducible refine z_setT ?_ | with_reducible refine z_par ?_ | with_reducible refine z_fld ?_ | with_reducible refine z_sub ?_ | with_reducible refine z_exp ?_ | with_reducible refine z_ret ?_ | with_reducible refine z_retN ?_ | with_reducible refine z_ite ?_ | with_reducible refine z_whl ?_ | with_reducible refine z_for ?_ | with_reducible refine z_pass ?_ | with_reducible refine z_brk ?_ | with_reducible refine z_cnt ?_ | with_reducible refine z_nil ?_ | with_reducible refine z_par3 ?_ | with_reducible refine z_sub2 ?_ | with_reducible refine z_sub3 ?_ | with_reducible refine z_raiF ?_ | with_reducible refine z_rai ?_ | with_reducible refine z_try1 ?_ | with_reducible refine w_bin ?_ | with_reducible refine w_int ?_ | with_reducible refine w_str ?_ | with_reducible refine w_blc ?_ | with_reducible refine w_non ?_ | with_reducible refine w_bty ?_ | with_reducible refine w_neg ?_ | with_reducible refine w_cmp ?_ | with_reducible refine w_chn ?_ | with_reducible refine w_and ?_ | with_reducible refine w_or ?_ | with_reducible refine w_not ?_ | with_reducible refine w_ite ?_ | with_reducible refine w_fld ?_ | with_reducible refine w_ix ?_ | with_reducible refine w_sl ?_ | with_reducible refine w_no ?_ | with_reducible refine w_so ?_ | with_reducible refine w_nil ?_ | with_reducible refine w_cons ?_ | with_reducible refine w_tup ?_ | with_reducible refine w_lst ?_ | with_reducible refine w_cal ?_ | with_reducible refine w_mk ?_ | with_reducible refine w_mth ?_ | with_reducible refine w_bi ?_ | with_reducible refine w_bm ?_ | with_reducible refine w_lc ?_ | with_reducible refine w_iex ?_ | with_reducible refine w_rng1 ?_ | with_reducible refine w_rng2 ?_ | with_reducible refine w_enum ?_ | with_reducible refine w_T0 ?_ | with_reducible refine w_T1 ?_ | with_reducible refine w_add ?_ | with_reducible refine w_sub ?_ | with_reducible refine w_dctK ?_ | with_reducible refine w_dget1 ?_ | with_reducible refine w_dget2 ?_ | with_reducible refine w_rev ?_ | ((with_reducible refine w_tru ?_ ?_); exact rfl)))
    refine ix_loc h (by rfl) ?_
    (repeat (first | ((with_reducible refine w_var ?_); refine ⟨_, rfl, ?_⟩) | with_reducible refine z_set ?_ | with_reducible refine z_setT ?_ | with_reducible refine z_par ?_ | with_reducible refine z_fld ?_ | with_reducible refine z_sub ?_ | with_reducible refine z_exp ?_ | with_reducible refine z_ret ?_ | with_reducible refine z_retN ?_ | with_reducible refine z_ite ?_ | with_reducible refine z_whl ?_ | with_reducible refine z_for ?_ | with_reducible refine z_pass ?_ | with_reducible refine z_brk ?_ | with_reducible refine z_cnt ?_ | with_reducible refine z_nil ?_ | with_reducible refine z_par3 ?_ | with_reducible refine z_sub2 ?_ | with_reducible refine z_sub3 ?_ | with_reducible refine z_raiF ?_ | with_reducible refine z_rai ?_ | with_reducible refine z_try1 ?_ | with_reducible refine w_bin ?_ | with_reducible refine w_int ?_ | with_reducible refine w_str ?_ | with_reducible refine w_blc ?_ | with_reducible refine w_non ?_ | with_reducible refine w_bty ?_ | with_reducible refine w_neg ?_ | with_reducible refine w_cmp ?_ | with_reducible refine w_chn ?_ | with_reducible refine w_and ?_ | with_reducible refine w_or ?_ | with_reducible refine w_not ?_ | with_reducible refine w_ite ?_ | with_reducible refine w_fld ?_ | with_reducible refine w_ix ?_ | with_reducible refine w_sl ?_ | with_reducible refine w_no ?_ | with_reducible refine w_so ?_ | with_reducible refine w_nil ?_ | with_reducible refine w_cons ?_ | with_reducible refine w_tup ?_ | with_reducible refine w_lst ?_ | with_reducible refine w_cal ?_ | with_reducible refine w_mk ?_ | with_reducible refine w_mth ?_ | with_reducible refine w_bi ?_ | with_reducible refine w_bm ?_ | with_reducible refine w_lc ?_ | with_reducible refine w_iex ?_ | with_reducible refine w_rng1 ?_ | with_reducible refine w_rng2 ?_ | with_reducible refine w_enum ?_ | with_reducible refine w_T0 ?_ | with_reducible refine w_T1 ?_ | with_reducible refine w_add ?_ | with_reducible refine w_sub ?_ | with_reducible refine w_dctK ?_ | with_reducible refine w_dget1 ?_ | with_reducible refine w_dget2 ?_ | with_reducible refine w_rev ?_ | ((with_reducible refine w_tru ?_ ?_); exact rfl)))
    refine set_loc h (by rfl) ?_
    (repeat (first | ((with_reducible refine w_var ?_); refine ⟨_, rfl, ?_⟩) | with_reducible refine z_set ?_ | with_reducible refine z_setT ?_ | with_reducible refine z_par ?_ | with_reducible refine z_fld ?_ | with_reducible refine z_sub ?_ | with_reducible refine z_exp ?_ | with_reducible refine z_ret ?_ | with_reducible refine z_retN ?_ | with_reducible refine z_ite ?_ | with_reducible refine z_whl ?_ | with_reducible refine z_for ?_ | with_reducible refine z_pass ?_ | with_reducible refine z_brk ?_ | with_reducible refine z_cnt ?_ | with_reducible refine z_nil ?_ | with_reducible refine z_par3 ?_ | with_reducible refine z_sub2 ?_ | with_reducible refine z_sub3 ?_ | with_reducible refine z_raiF ?_ | with_reducible refine z_rai ?_ | with_reducible refine z_try1 ?_ | with_reducible refine w_bin ?_ | with_reducible refine w_int ?_ | with_reducible refine w_str ?_ | with_reducible refine w_blc ?_ | with_reducible refine w_non ?_ | with_reducible refine w_bty ?_ | with_reducible refine w_neg ?_ | with_reducible refine w_cmp ?_ | with_reducible refine w_chn ?_ | with_reducible refine w_and ?_ | with_reducible refine w_or ?_ | with_reducible refine w_not ?_ | with_reducible refine w_ite ?_ | with_reducible refine w_fld ?_ | with_reducible refine w_ix ?_ | with_reducible refine w_sl ?_ | with_reducible refine w_no ?_ | with_reducible refine w_so ?_ | with_reducible refine w_nil ?_ | with_reducible refine w_cons ?_ | with_reducible refine w_tup ?_ | with_reducible refine w_lst ?_ | with_reducible refine w_cal ?_ | with_reducible refine w_mk ?_ | with_reducible refine w_mth ?_ | with_reducible refine w_bi ?_ | with_reducible refine w_bm ?_ | with_reducible refine w_lc ?_ | with_reducible refine w_iex ?_ | with_reducible refine w_rng1 ?_ | with_reducible refine w_rng2 ?_ | with_reducible refine w_enum ?_ | with_reducible refine w_T0 ?_ | with_reducible refine w_T1 ?_ | with_reducible refine w_add ?_ | with_reducible refine w_sub ?_ | with_reducible refine w_dctK ?_ | with_reducible refine w_dget1 ?_ | with_reducible refine w_dget2 ?_ | with_reducible refine w_rev ?_ | ((with_reducible refine w_tru ?_ ?_); exact rfl)))
    refine ix_loc (get_set hl) (by rfl) ?_
    (repeat (first | ((with_reducible refine w_var ?_); refine ⟨_, rfl, ?_⟩) | with_reducible refine z_set ?_ | with_reducible refine z_setT ?_ | with_reducible refine z_par ?_ | with_reducible refine z_fld ?_ | with_reducible refine z_sub ?_ | with_reducible refine z_exp ?_ | with_reducible refine z_ret ?_ | with_reducible refine z_retN ?_ | with_reducible refine z_ite ?_ | with_reducible refine z_whl ?_ | with_reducible refine z_for ?_ | with_reducible refine z_pass ?_ | with_reducible refine z_brk ?_ | with_reducible refine z_cnt ?_ | with_reducible refine z_nil ?_ | with_reducible refine z_par3 ?_ | with_reducible refine z_sub2 ?_ | with_reducible refine z_sub3 ?_ | with_reducible refine z_raiF ?_ | with_reducible refine z_rai ?_ | with_reducible refine z_try1 ?_ | with_reducible refine w_bin ?_ | with_reducible refine w_int ?_ | with_reducible refine w_str ?_ | with_reducible refine w_blc ?_ | with_reducible refine w_non ?_ | with_reducible refine w_bty ?_ | with_reducible refine w_neg ?_ | with_reducible refine w_cmp ?_ | with_reducible refine w_chn ?_ | with_reducible refine w_and ?_ | with_reducible refine w_or ?_ | with_reducible refine w_not ?_ | with_reducible refine w_ite ?_ | with_reducible refine w_fld ?_ | with_reducible refine w_ix ?_ | with_reducible refine w_sl ?_ | with_reducible refine w_no ?_ | with_reducible refine w_so ?_ | with_reducible refine w_nil ?_ | with_reducible refine w_cons ?_ | with_reducible refine w_tup ?_ | with_reducible refine w_lst ?_ | with_reducible refine w_cal ?_ | with_reducible refine w_mk ?_ | with_reducible refine w_mth ?_ | with_reducible refine w_bi ?_ | with_reducible refine w_bm ?_ | with_reducible refine w_lc ?_ | with_reducible refine w_iex ?_ | with_reducible refine w_rng1 ?_ | with_reducible refine w_rng2 ?_ | with_reducible refine w_enum ?_ | with_reducible refine w_T0 ?_ | with_reducible refine w_T1 ?_ | with_reducible refine w_add ?_ | with_reducible refine w_sub ?_ | with_reducible refine w_dctK ?_ | with_reducible refine w_dget1 ?_ | with_reducible refine w_dget2 ?_ | with_reducible refine w_rev ?_ | ((with_reducible refine w_tru ?_ ?_); exact rfl)))
    refine ix_loc (get_set hl) (by rfl) ?_
    (repeat (first | ((with_reducible refine w_var ?_); refine ⟨_, rfl, ?_⟩) | with_reducible refine z_set ?_ | with_reducible refine z_setT ?_ | with_reducible refine z_par ?_ | with_reducible refine z_fld ?_ | with_reducible refine z_sub ?_ | with_reducible refine z_exp ?_ | with_reducible refine z_ret ?_ | with_reducible refine z_retN ?_ | with_reducible refine z_ite ?_ | with_reducible refine z_whl ?_ | with_reducible refine z_for ?_ | with_reducible refine z_pass ?_ | with_reducible refine z_brk ?_ | with_reducible refine z_cnt ?_ | with_reducible refine z_nil ?_ | with_reducible refine z_par3 ?_ | with_reducible refine z_sub2 ?_ | with_reducible refine z_sub3 ?_ | with_reducible refine z_raiF ?_ | with_reducible refine z_rai ?_ | with_reducible refine z_try1 ?_ | with_reducible refine w_bin ?_ | with_reducible refine w_int ?_ | with_reducible refine w_str ?_ | with_reducible refine w_blc ?_ | with_reducible refine w_non ?_ | with_reducible refine w_bty ?_ | with_reducible refine w_neg ?_ | with_reducible refine w_cmp ?_ | with_reducible refine w_chn ?_ | with_reducible refine w_and ?_ | with_reducible refine w_or ?_ | with_reducible refine w_not ?_ | with_reducible refine w_ite ?_ | with_reducible refine w_fld ?_ | with_reducible refine w_ix ?_ | with_reducible refine w_sl ?_ | with_reducible refine w_no ?_ | with_reducible refine w_so ?_ | with_reducible refine w_nil ?_ | with_reducible refine w_cons ?_ | with_reducible refine w_tup ?_ | with_reducible refine w_lst ?_ | with_reducible refine w_cal ?_ | with_reducible refine w_mk ?_ | with_reducible refine w_mth ?_ | with_reducible refine w_bi ?_ | with_reducible refine w_bm ?_ | with_reducible refine w_lc ?_ | with_reducible refine w_iex ?_ | with_reducible refine w_rng1 ?_ | with_reducible refine w_rng2 ?_ | with_reducible refine w_enum ?_ | with_reducible refine w_T0 ?_ | with_reducible refine w_T1 ?_ | with_reducible refine w_add ?_ | with_reducible refine w_sub ?_ | with_reducible refine w_dctK ?_ | with_reducible refine w_dget1 ?_ | with_reducible refine w_dget2 ?_ | with_reducible refine w_rev ?_ | ((with_reducible refine w_tru ?_ ?_); exact rfl)))
    refine w_mul (.inl (by omega)) ?_
    (repeat (first | ((with_reducible refine w_var ?_); refine ⟨_, rfl, ?_⟩) | with_reducible refine z_set ?_ | with_reducible refine z_setT ?_ | with_reducible refine z_par ?_ | with_reducible refine z_fld ?_ | with_reducible refine z_sub ?_ | with_reducible refine z_exp ?_ | with_reducible refine z_ret ?_ | with_reducible refine z_retN ?_ | with_reducible refine z_ite ?_ | with_reducible refine z_whl ?_ | with_reducible refine z_for ?_ | with_reducible refine z_pass ?_ | with_reducible refine z_brk ?_ | with_reducible refine z_cnt ?_ | with_reducible refine z_nil ?_ | with_reducible refine z_par3 ?_ | with_reducible refine z_sub2 ?_ | with_reducible refine z_sub3 ?_ | with_reducible refine z_raiF ?_ | with_reducible refine z_rai ?_ | with_reducible refine z_try1 ?_ | with_reducible refine w_bin ?_ | with_reducible refine w_int ?_ | with_reducible refine w_str ?_ | with_reducible refine w_blc ?_ | with_reducible refine w_non ?_ | with_reducible refine w_bty ?_ | with_reducible refine w_neg ?_ | with_reducible refine w_cmp ?_ | with_reducible refine w_chn ?_ | with_reducible refine w_and ?_ | with_reducible refine w_or ?_ | with_reducible refine w_not ?_ | with_reducible refine w_ite ?_ | with_reducible refine w_fld ?_ | with_reducible refine w_ix ?_ | with_reducible refine w_sl ?_ | with_reducible refine w_no ?_ | with_reducible refine w_so ?_ | with_reducible refine w_nil ?_ | with_reducible refine w_cons ?_ | with_reducible refine w_tup ?_ | with_reducible refine w_lst ?_ | with_reducible refine w_cal ?_ | with_reducible refine w_mk ?_ | with_reducible refine w_mth ?_ | with_reducible refine w_bi ?_ | with_reducible refine w_bm ?_ | with_reducible refine w_lc ?_ | with_reducible refine w_iex ?_ | with_reducible refine w_rng1 ?_ | with_reducible refine w_rng2 ?_ | with_reducible refine w_enum ?_ | with_reducible refine w_T0 ?_ | with_reducible refine w_T1 ?_ | with_reducible refine w_add ?_ | with_reducible refine w_sub ?_ | with_reducible refine w_dctK ?_ | with_reducible refine w_dget1 ?_ | with_reducible refine w_dget2 ?_ | with_reducible refine w_rev ?_ | ((with_reducible refine w_tru ?_ ?_); exact rfl)))
    refine w_mul (.inr (by omega)) ?_
    refine ⟨_, _, rfl, ?_⟩
    (repeat (first | ((with_reducible refine w_var ?_); refine ⟨_, rfl, ?_⟩) | with_reducible refine z_set ?_ | with_reducible refine z_setT ?_ | with_reducible refine z_par ?_ | with_reducible refine z_fld ?_ | with_reducible refine z_sub ?_ | with_reducible refine z_exp ?_ | with_reducible refine z_ret ?_ | with_reducible refine z_retN ?_ | with_reducible refine z_ite ?_ | with_reducible refine z_whl ?_ | with_reducible refine z_for ?_ | with_reducible refine z_pass ?_ | with_reducible refine z_brk ?_ | with_reducible refine z_cnt ?_ | with_reducible refine z_nil ?_ | with_reducible refine z_par3 ?_ | with_reducible refine z_sub2 ?_ | with_reducible refine z_sub3 ?_ | with_reducible refine z_raiF ?_ | with_reducible refine z_rai ?_ | with_reducible refine z_try1 ?_ | with_reducible refine w_bin ?_ | with_reducible refine w_int ?_ | with_reducible refine w_str ?_ | with_reducible refine w_blc ?_ | with_reducible refine w_non ?_ | with_reducible refine w_bty ?_ | with_reducible refine w_neg ?_ | with_reducible refine w_cmp ?_ | with_reducible refine w_chn ?_ | with_reducible refine w_and ?_ | with_reducible refine w_or ?_ | with_reducible refine w_not ?_ | with_reducible refine w_ite ?_ | with_reducible refine w_fld ?_ | with_reducible refine w_ix ?_ | with_reducible refine w_sl ?_ | with_reducible refine w_no ?_ | with_reducible refine w_so ?_ | with_reducible refine w_nil ?_ | with_reducible refine w_cons ?_ | with_reducible refine w_tup ?_ | with_reducible refine w_lst ?_ | with_reducible refine w_cal ?_ | with_reducible refine w_mk ?_ | with_reducible refine w_mth ?_ | with_reducible refine w_bi ?_ | with_reducible refine w_bm ?_ | with_reducible refine w_lc ?_ | with_reducible refine w_iex ?_ | with_reducible refine w_rng1 ?_ | with_reducible refine w_rng2 ?_ | with_reducible refine w_enum ?_ | with_reducible refine w_T0 ?_ | with_reducible refine w_T1 ?_ | with_reducible refine w_add ?_ | with_reducible refine w_sub ?_ | with_reducible refine w_dctK ?_ | with_reducible refine w_dget1 ?_ | with_reducible refine w_dget2 ?_ | with_reducible refine w_rev ?_ | ((with_reducible refine w_tru ?_ ?_); exact rfl)))
    refine w_mod (by omega) ?_
    (repeat (first | ((with_reducible refine w_var ?_); refine ⟨_, rfl, ?_⟩) | with_reducible refine z_set ?_ | with_reducible refine z_setT ?_ | with_reducible refine z_par ?_ | with_reducible refine z_fld ?_ | with_reducible refine z_sub ?_ | with_reducible refine z_exp ?_ | with_reducible refine z_ret ?_ | with_reducible refine z_retN ?_ | with_reducible refine z_ite ?_ | with_reducible refine z_whl ?_ | with_reducible refine z_for ?_ | with_reducible refine z_pass ?_ | with_reducible refine z_brk ?_ | with_reducible refine z_cnt ?_ | with_reducible refine z_nil ?_ | with_reducible refine z_par3 ?_ | with_reducible refine z_sub2 ?_ | with_reducible refine z_sub3 ?_ | with_reducible refine z_raiF ?_ | with_reducible refine z_rai ?_ | with_reducible refine z_try1 ?_ | with_reducible refine w_bin ?_ | with_reducible refine w_int ?_ | with_reducible refine w_str ?_ | with_reducible refine w_blc ?_ | with_reducible refine w_non ?_ | with_reducible refine w_bty ?_ | with_reducible refine w_neg ?_ | with_reducible refine w_cmp ?_ | with_reducible refine w_chn ?_ | with_reducible refine w_and ?_ | with_reducible refine w_or ?_ | with_reducible refine w_not ?_ | with_reducible refine w_ite ?_ | with_reducible refine w_fld ?_ | with_reducible refine w_ix ?_ | with_reducible refine w_sl ?_ | with_reducible refine w_no ?_ | with_reducible refine w_so ?_ | with_reducible refine w_nil ?_ | with_reducible refine w_cons ?_ | with_reducible refine w_tup ?_ | with_reducible refine w_lst ?_ | with_reducible refine w_cal ?_ | with_reducible refine w_mk ?_ | with_reducible refine w_mth ?_ | with_reducible refine w_bi ?_ | with_reducible refine w_bm ?_ | with_reducible refine w_lc ?_ | with_reducible refine w_iex ?_ | with_reducible refine w_rng1 ?_ | with_reducible refine w_rng2 ?_ | with_reducible refine w_enum ?_ | with_reducible refine w_T0 ?_ | with_reducible refine w_T1 ?_ | with_reducible refine w_add ?_ | with_reducible refine w_sub ?_ | with_reducible refine w_dctK ?_ | with_reducible refine w_dget1 ?_ | with_reducible refine w_dget2 ?_ | with_reducible refine w_rev ?_ | ((with_reducible refine w_tru ?_ ?_); exact rfl)))
    refine w_div (by omega) ?_
    (repeat (first | ((with_reducible refine w_var ?_); refine ⟨_, rfl, ?_⟩) | with_reducible refine z_set ?_ | with_reducible refine z_setT ?_ | with_reducible refine z_par ?_ | with_reducible refine z_fld ?_ | with_reducible refine z_sub ?_ | with_reducible refine z_exp ?_ | with_reducible refine z_ret ?_ | with_reducible refine z_retN ?_ | with_reducible refine z_ite ?_ | with_reducible refine z_whl ?_ | with_reducible refine z_for ?_ | with_reducible refine z_pass ?_ | with_reducible refine z_brk ?_ | with_reducible refine z_cnt ?_ | with_reducible refine z_nil ?_ | with_reducible refine z_par3 ?_ | with_reducible refine z_sub2 ?_ | with_reducible refine z_sub3 ?_ | with_reducible refine z_raiF ?_ | with_reducible refine z_rai ?_ | with_reducible refine z_try1 ?_ | with_reducible refine w_bin ?_ | with_reducible refine w_int ?_ | with_reducible refine w_str ?_ | with_reducible refine w_blc ?_ | with_reducible refine w_non ?_ | with_reducible refine w_bty ?_ | with_reducible refine w_neg ?_ | with_reducible refine w_cmp ?_ | with_reducible refine w_chn ?_ | with_reducible refine w_and ?_ | with_reducible refine w_or ?_ | with_reducible refine w_not ?_ | with_reducible refine w_ite ?_ | with_reducible refine w_fld ?_ | with_reducible refine w_ix ?_ | with_reducible refine w_sl ?_ | with_reducible refine w_no ?_ | with_reducible refine w_so ?_ | with_reducible refine w_nil ?_ | with_reducible refine w_cons ?_ | with_reducible refine w_tup ?_ | with_reducible refine w_lst ?_ | with_reducible refine w_cal ?_ | with_reducible refine w_mk ?_ | with_reducible refine w_mth ?_ | with_reducible refine w_bi ?_ | with_reducible refine w_bm ?_ | with_reducible refine w_lc ?_ | with_reducible refine w_iex ?_ | with_reducible refine w_rng1 ?_ | with_reducible refine w_rng2 ?_ | with_reducible refine w_enum ?_ | with_reducible refine w_T0 ?_ | with_reducible refine w_T1 ?_ | with_reducible refine w_add ?_ | with_reducible refine w_sub ?_ | with_reducible refine w_dctK ?_ | with_reducible refine w_dget1 ?_ | with_reducible refine w_dget2 ?_ | with_reducible refine w_rev ?_ | ((with_reducible refine w_tru ?_ ?_); exact rfl)))
    refine w_mul (.inl ?_) ?_
    · constructor <;> omega
    refine ⟨_, _, rfl, ?_⟩
    (repeat (first | ((with_reducible refine w_var ?_); refine ⟨_, rfl, ?_⟩) | with_reducible refine z_set ?_ | with_reducible refine z_setT ?_ | with_reducible refine z_par ?_ | with_reducible refine z_fld ?_ | with_reducible refine z_sub ?_ | with_reducible refine z_exp ?_ | with_reducible refine z_ret ?_ | with_reducible refine z_retN ?_ | with_reducible refine z_ite ?_ | with_reducible refine z_whl ?_ | with_reducible refine z_for ?_ | with_reducible refine z_pass ?_ | with_reducible refine z_brk ?_ | with_reducible refine z_cnt ?_ | with_reducible refine z_nil ?_ | with_reducible refine z_par3 ?_ | with_reducible refine z_sub2 ?_ | with_reducible refine z_sub3 ?_ | with_reducible refine z_raiF ?_ | with_reducible refine z_rai ?_ | with_reducible refine z_try1 ?_ | with_reducible refine w_bin ?_ | with_reducible refine w_int ?_ | with_reducible refine w_str ?_ | with_reducible refine w_blc ?_ | with_reducible refine w_non ?_ | with_reducible refine w_bty ?_ | with_reducible refine w_neg ?_ | with_reducible refine w_cmp ?_ | with_reducible refine w_chn ?_ | with_reducible refine w_and ?_ | with_reducible refine w_or ?_ | with_reducible refine w_not ?_ | with_reducible refine w_ite ?_ | with_reducible refine w_fld ?_ | with_reducible refine w_ix ?_ | with_reducible refine w_sl ?_ | with_reducible refine w_no ?_ | with_reducible refine w_so ?_ | with_reducible refine w_nil ?_ | with_reducible refine w_cons ?_ | with_reducible refine w_tup ?_ | with_reducible refine w_lst ?_ | with_reducible refine w_cal ?_ | with_reducible refine w_mk ?_ | with_reducible refine w_mth ?_ | with_reducible refine w_bi ?_ | with_reducible refine w_bm ?_ | with_reducible refine w_lc ?_ | with_reducible refine w_iex ?_ | with_reducible refine w_rng1 ?_ | with_reducible refine w_rng2 ?_ | with_reducible refine w_enum ?_ | with_reducible refine w_T0 ?_ | with_reducible refine w_T1 ?_ | with_reducible refine w_add ?_ | with_reducible refine w_sub ?_ | with_reducible refine w_dctK ?_ | with_reducible refine w_dget1 ?_ | with_reducible refine w_dget2 ?_ | with_reducible refine w_rev ?_ | ((with_reducible refine w_tru ?_ ?_); exact rfl)))
    refine w_mod (by omega) ?_
    (repeat (first | ((with_reducible refine w_var ?_); refine ⟨_, rfl, ?_⟩) | with_reducible refine z_set ?_ | with_reducible refine z_setT ?_ | with_reducible refine z_par ?_ | with_reducible refine z_fld ?_ | with_reducible refine z_sub ?_ | with_reducible refine z_exp ?_ | with_reducible refine z_ret ?_ | with_reducible refine z_retN ?_ | with_reducible refine z_ite ?_ | with_reducible refine z_whl ?_ | with_reducible refine z_for ?_ | with_reducible refine z_pass ?_ | with_reducible refine z_brk ?_ | with_reducible refine z_cnt ?_ | with_reducible refine z_nil ?_ | with_reducible refine z_par3 ?_ | with_reducible refine z_sub2 ?_ | with_reducible refine z_sub3 ?_ | with_reducible refine z_raiF ?_ | with_reducible refine z_rai ?_ | with_reducible refine z_try1 ?_ | with_reducible refine w_bin ?_ | with_reducible refine w_int ?_ | with_reducible refine w_str ?_ | with_reducible refine w_blc ?_ | with_reducible refine w_non ?_ | with_reducible refine w_bty ?_ | with_reducible refine w_neg ?_ | with_reducible refine w_cmp ?_ | with_reducible refine w_chn ?_ | with_reducible refine w_and ?_ | with_reducible refine w_or ?_ | with_reducible refine w_not ?_ | with_reducible refine w_ite ?_ | with_reducible refine w_fld ?_ | with_reducible refine w_ix ?_ | with_reducible refine w_sl ?_ | with_reducible refine w_no ?_ | with_reducible refine w_so ?_ | with_reducible refine w_nil ?_ | with_reducible refine w_cons ?_ | with_reducible refine w_tup ?_ | with_reducible refine w_lst ?_ | with_reducible refine w_cal ?_ | with_reducible refine w_mk ?_ | with_reducible refine w_mth ?_ | with_reducible refine w_bi ?_ | with_reducible refine w_bm ?_ | with_reducible refine w_lc ?_ | with_reducible refine w_iex ?_ | with_reducible refine w_rng1 ?_ | with_reducible refine w_rng2 ?_ | with_reducible refine w_enum ?_ | with_reducible refine w_T0 ?_ | with_reducible refine w_T1 ?_ | with_reducible refine w_add ?_ | with_reducible refine w_sub ?_ | with_reducible refine w_dctK ?_ | with_reducible refine w_dget1 ?_ | with_reducible refine w_dget2 ?_ | with_reducible refine w_rev ?_ | ((with_reducible refine w_tru ?_ ?_); exact rfl)))
    refine w_div (by omega) ?_
    (repeat (first | ((with_reducible refine w_var ?_); refine ⟨_, rfl, ?_⟩) | with_reducible refine z_set ?_ | with_reducible refine z_setT ?_ | with_reducible refine z_par ?_ | with_reducible refine z_fld ?_ | with_reducible refine z_sub ?_ | with_reducible refine z_exp ?_ | with_reducible refine z_ret ?_ | with_reducible refine z_retN ?_ | with_reducible refine z_ite ?_ | with_reducible refine z_whl ?_ | with_reducible refine z_for ?_ | with_reducible refine z_pass ?_ | with_reducible refine z_brk ?_ | with_reducible refine z_cnt ?_ | with_reducible refine z_nil ?_ | with_reducible refine z_par3 ?_ | with_reducible refine z_sub2 ?_ | with_reducible refine z_sub3 ?_ | with_reducible refine z_raiF ?_ | with_reducible refine z_rai ?_ | with_reducible refine z_try1 ?_ | with_reducible refine w_bin ?_ | with_reducible refine w_int ?_ | with_reducible refine w_str ?_ | with_reducible refine w_blc ?_ | with_reducible refine w_non ?_ | with_reducible refine w_bty ?_ | with_reducible refine w_neg ?_ | with_reducible refine w_cmp ?_ | with_reducible refine w_chn ?_ | with_reducible refine w_and ?_ | with_reducible refine w_or ?_ | with_reducible refine w_not ?_ | with_reducible refine w_ite ?_ | with_reducible refine w_fld ?_ | with_reducible refine w_ix ?_ | with_reducible refine w_sl ?_ | with_reducible refine w_no ?_ | with_reducible refine w_so ?_ | with_reducible refine w_nil ?_ | with_reducible refine w_cons ?_ | with_reducible refine w_tup ?_ | with_reducible refine w_lst ?_ | with_reducible refine w_cal ?_ | with_reducible refine w_mk ?_ | with_reducible refine w_mth ?_ | with_reducible refine w_bi ?_ | with_reducible refine w_bm ?_ | with_reducible refine w_lc ?_ | with_reducible refine w_iex ?_ | with_reducible refine w_rng1 ?_ | with_reducible refine w_rng2 ?_ | with_reducible refine w_enum ?_ | with_reducible refine w_T0 ?_ | with_reducible refine w_T1 ?_ | with_reducible refine w_add ?_ | with_reducible refine w_sub ?_ | with_reducible refine w_dctK ?_ | with_reducible refine w_dget1 ?_ | with_reducible refine w_dget2 ?_ | with_reducible refine w_rev ?_ | ((with_reducible refine w_tru ?_ ?_); exact rfl)))
    refine w_mul (.inl ?_) ?_
    · constructor <;> omega
    refine ⟨_, _, rfl, ?_⟩
    (repeat (first | ((with_reducible refine w_var ?_); refine ⟨_, rfl, ?_⟩) | with_reducible refine z_set ?_ | with_reducible refine z_setT ?_ | with_reducible refine z_par ?_ | with_reducible refine z_fld ?_ | with_reducible refine z_sub ?_ | with_reducible refine z_exp ?_ | with_reducible refine z_ret ?_ | with_reducible refine z_retN ?_ | with_reducible refine z_ite ?_ | with_reducible refine z_whl ?_ | with_reducible refine z_for ?_ | with_reducible refine z_pass ?_ | with_reducible refine z_brk ?_ | with_reducible refine z_cnt ?_ | with_reducible refine z_nil ?_ | with_reducible refine z_par3 ?_ | with_reducible refine z_sub2 ?_ | with_reducible refine z_sub3 ?_ | with_reducible refine z_raiF ?_ | with_reducible refine z_rai ?_ | with_reducible refine z_try1 ?_ | with_reducible refine w_bin ?_ | with_reducible refine w_int ?_ | with_reducible refine w_str ?_ | with_reducible refine w_blc ?_ | with_reducible refine w_non ?_ | with_reducible refine w_bty ?_ | with_reducible refine w_neg ?_ | with_reducible refine w_cmp ?_ | with_reducible refine w_chn ?_ | with_reducible refine w_and ?_ | with_reducible refine w_or ?_ | with_reducible refine w_not ?_ | with_reducible refine w_ite ?_ | with_reducible refine w_fld ?_ | with_reducible refine w_ix ?_ | with_reducible refine w_sl ?_ | with_reducible refine w_no ?_ | with_reducible refine w_so ?_ | with_reducible refine w_nil ?_ | with_reducible refine w_cons ?_ | with_reducible refine w_tup ?_ | with_reducible refine w_lst ?_ | with_reducible refine w_cal ?_ | with_reducible refine w_mk ?_ | with_reducible refine w_mth ?_ | with_reducible refine w_bi ?_ | with_reducible refine w_bm ?_ | with_reducible refine w_lc ?_ | with_reducible refine w_iex ?_ | with_reducible refine w_rng1 ?_ | with_reducible refine w_rng2 ?_ | with_reducible refine w_enum ?_ | with_reducible refine w_T0 ?_ | with_reducible refine w_T1 ?_ | with_reducible refine w_add ?_ | with_reducible refine w_sub ?_ | with_reducible refine w_dctK ?_ | with_reducible refine w_dget1 ?_ | with_reducible refine w_dget2 ?_ | with_reducible refine w_rev ?_ | ((with_reducible refine w_tru ?_ ?_); exact rfl)))
    refine w_mod (by omega) ?_
    (repeat (first | ((with_reducible refine w_var ?_); refine ⟨_, rfl, ?_⟩) | with_reducible refine z_set ?_ | with_reducible refine z_setT ?_ | with_reducible refine z_par ?_ | with_reducible refine z_fld ?_ | with_reducible refine z_sub ?_ | with_reducible refine z_exp ?_ | with_reducible refine z_ret ?_ | with_reducible refine z_retN ?_ | with_reducible refine z_ite ?_ | with_reducible refine z_whl ?_ | with_reducible refine z_for ?_ | with_reducible refine z_pass ?_ | with_reducible refine z_brk ?_ | with_reducible refine z_cnt ?_ | with_reducible refine z_nil ?_ | with_reducible refine z_par3 ?_ | with_reducible refine z_sub2 ?_ | with_reducible refine z_sub3 ?_ | with_reducible refine z_raiF ?_ | with_reducible refine z_rai ?_ | with_reducible refine z_try1 ?_ | with_reducible refine w_bin ?_ | with_reducible refine w_int ?_ | with_reducible refine w_str ?_ | with_reducible refine w_blc ?_ | with_reducible refine w_non ?_ | with_reducible refine w_bty ?_ | with_reducible refine w_neg ?_ | with_reducible refine w_cmp ?_ | with_reducible refine w_chn ?_ | with_reducible refine w_and ?_ | with_reducible refine w_or ?_ | with_reducible refine w_not ?_ | with_reducible refine w_ite ?_ | with_reducible refine w_fld ?_ | with_reducible refine w_ix ?_ | with_reducible refine w_sl ?_ | with_reducible refine w_no ?_ | with_reducible refine w_so ?_ | with_reducible refine w_nil ?_ | with_reducible refine w_cons ?_ | with_reducible refine w_tup ?_ | with_reducible refine w_lst ?_ | with_reducible refine w_cal ?_ | with_reducible refine w_mk ?_ | with_reducible refine w_mth ?_ | with_reducible refine w_bi ?_ | with_reducible refine w_bm ?_ | with_reducible refine w_lc ?_ | with_reducible refine w_iex ?_ | with_reducible refine w_rng1 ?_ | with_reducible refine w_rng2 ?_ | with_reducible refine w_enum ?_ | with_reducible refine w_T0 ?_ | with_reducible refine w_T1 ?_ | with_reducible refine w_add ?_ | with_reducible refine w_sub ?_ | with_reducible refine w_dctK ?_ | with_reducible refine w_dget1 ?_ | with_reducible refine w_dget2 ?_ | with_reducible refine w_rev ?_ | ((with_reducible refine w_tru ?_ ?_); exact rfl)))
    first
      | refine w_mod h0 ?_
      | (refine ⟨_, _, rfl, ?_⟩
         (repeat (first | ((with_reducible refine w_var ?_); refine ⟨_, rfl, ?_⟩) | with_reducible refine z_set ?_ | with_reducible refine z_setT ?_ | with_reducible refine z_par ?_ | with_reducible refine z_fld ?_ | with_reducible refine z_sub ?_ | with_reducible refine z_exp ?_ | with_reducible refine z_ret ?_ | with_reducible refine z_retN ?_ | with_reducible refine z_ite ?_ | with_reducible refine z_whl ?_ | with_reducible refine z_for ?_ | with_reducible refine z_pass ?_ | with_reducible refine z_brk ?_ | with_reducible refine z_cnt ?_ | with_reducible refine z_nil ?_ | with_reducible refine z_par3 ?_ | with_reducible refine z_sub2 ?_ | with_reducible refine z_sub3 ?_ | with_reducible refine z_raiF ?_ | with_reducible refine z_rai ?_ | with_reducible refine z_try1 ?_ | with_reducible refine w_bin ?_ | with_reducible refine w_int ?_ | with_reducible refine w_str ?_ | with_reducible refine w_blc ?_ | with_reducible refine w_non ?_ | with_reducible refine w_bty ?_ | with_reducible refine w_neg ?_ | with_reducible refine w_cmp ?_ | with_reducible refine w_chn ?_ | with_reducible refine w_and ?_ | with_reducible refine w_or ?_ | with_reducible refine w_not ?_ | with_reducible refine w_ite ?_ | with_reducible refine w_fld ?_ | with_reducible refine w_ix ?_ | with_reducible refine w_sl ?_ | with_reducible refine w_no ?_ | with_reducible refine w_so ?_ | with_reducible refine w_nil ?_ | with_reducible refine w_cons ?_ | with_reducible refine w_tup ?_ | with_reducible refine w_lst ?_ | with_reducible refine w_cal ?_ | with_reducible refine w_mk ?_ | with_reducible refine w_mth ?_ | with_reducible refine w_bi ?_ | with_reducible refine w_bm ?_ | with_reducible refine w_lc ?_ | with_reducible refine w_iex ?_ | with_reducible refine w_rng1 ?_ | with_reducible refine w_rng2 ?_ | with_reducible refine w_enum ?_ | with_reducible refine w_T0 ?_ | with_reducible refine w_T1 ?_ | with_reducible refine w_add ?_ | with_reducible refine w_sub ?_ | with_reducible refine w_dctK ?_ | with_reducible refine w_dget1 ?_ | with_reducible refine w_dget2 ?_ | with_reducible refine w_rev ?_ | ((with_reducible refine w_tru ?_ ?_); exact rfl)))
         refine w_mod h0 ?_)
    exact hQ _ _ _ _ (Int.emod_nonneg _ (by omega)) (Int.emod_lt_of_pos _ h0)
/-- a digit -/
theorem digit {d i : Nat} {S : Sto} {base : Int} (h : St S i) (h0 : 0 < base) (h1 : base < 1073741824) {Q : D → Sto → Prop}
    (hQ : ∀ (x : Int) (S' : Sto), 0 ≤ x → x < base → St S' i → DI.Fr [i] S S' → Q (.int x) S') : W (calls P0 fs (d + 1) 22 [.loc i, .int base] S) Q := by
  refine W_call (f := d_law_digit) rfl rfl ?_
  obtain ⟨l, hl, hs⟩ := h
  have hi := lt_of hl
  have fin : ∀ (S1 : Sto) (a b c : Int), S1[i]? = some (.lst [.int a, .int b, .int c]) → DI.Fr [i] S S1 → WS (dSs P0 (calls P0 fs d) t_law_digit_4 [some (.loc i), some (.int base), none, none] S1) { nx := fun _ S => Q .non S, rt := Q } := by
    intro S1 a b c e f
    refine digit_b e h0 h1 _ fun x a' b' c' hx hx2 => ?_
    refine hQ _ _ hx hx2 ⟨_, get_set (lt_of e), .inr ⟨_, _, _, rfl⟩⟩ (f.setr (.inl (by simp)))
  show WS (dSs P0 (calls P0 fs d) t_law_digit [some (.loc i), some (.int base), none, none] S) _
  unfold t_law_digit
  (repeat (first | ((with_reducible refine w_var ?_); refine ⟨_, rfl, ?_⟩) | with_reducible refine z_set ?_ | with_reducible refine z_setT ?_ | with_reducible refine z_par ?_ | with_reducible refine z_fld ?_ | with_reducible refine z_sub ?_ | with_reducible refine z_exp ?_ | with_reducible refine z_ret ?_ | with_reducible refine z_retN ?_ | with_reducible refine z_ite ?_ | with_reducible refine z_whl ?_ | with_reducible refine z_for ?_ | with_reducible refine z_pass ?_ | with_reducible refine z_brk ?_ | with_reducible refine z_cnt ?_ | with_reducible refine z_nil ?_ | with_reducible refine z_par3 ?_ | with_reducible refine z_sub2 ?_ | with_reducible refine z_sub3 ?_ | with_reducible refine z_raiF ?_ | with_reducible refine z_rai ?_ | with_reducible refine z_try1 ?_ | with_reducible refine w_bin ?_ | with_reducible refine w_int ?_ | with_reducible refine w_str ?_ | with_reducible refine w_blc ?_ | with_reducible refine w_non ?_ | with_reducible refine w_bty ?_ | with_reducible refine w_neg ?_ | with_reducible refine w_cmp ?_ | with_reducible refine w_chn ?_ | with_reducible refine w_and ?_ | with_reducible refine w_or ?_ | with_reducible refine w_not ?_ | with_reducible refine w_ite ?_ | with_reducible refine w_fld ?_ | with_reducible refine w_ix ?_ | with_reducible refine w_sl ?_ | with_reducible refine w_no ?_ | with_reducible refine w_so ?_ | with_reducible refine w_nil ?_ | with_reducible refine w_cons ?_ | with_reducible refine w_tup ?_ | with_reducible refine w_lst ?_ | with_reducible refine w_cal ?_ | with_reducible refine w_mk ?_ | with_reducible refine w_mth ?_ | with_reducible refine w_bi ?_ | with_reducible refine w_bm ?_ | with_reducible refine w_lc ?_ | with_reducible refine w_iex ?_ | with_reducible refine w_rng1 ?_ | with_reducible refine w_rng2 ?_ | with_reducible refine w_enum ?_ | with_reducible refine w_T0 ?_ | with_reducible refine w_T1 ?_ | with_reducible refine w_add ?_ | with_reducible refine w_sub ?_ | with_reducible refine w_dctK ?_ | with_reducible refine w_dget1 ?_ | with_reducible refine w_dget2 ?_ | with_reducible refine w_rev ?_ | ((with_reducible refine w_tru ?_ ?_); exact rfl)))
  rcases hs with ⟨n, rfl⟩ | ⟨a, b, c, rfl⟩
  · refine ⟨.int 1, S, by simp [biSem, hl], ?_⟩
    (repeat (first | ((with_reducible refine w_var ?_); refine ⟨_, rfl, ?_⟩) | with_reducible refine z_set ?_ | with_reducible refine z_setT ?_ | with_reducible refine z_par ?_ | with_reducible refine z_fld ?_ | with_reducible refine z_sub ?_ | with_reducible refine z_exp ?_ | with_reducible refine z_ret ?_ | with_reducible refine z_retN ?_ | with_reducible refine z_ite ?_ | with_reducible refine z_whl ?_ | with_reducible refine z_for ?_ | with_reducible refine z_pass ?_ | with_reducible refine z_brk ?_ | with_reducible refine z_cnt ?_ | with_reducible refine z_nil ?_ | with_reducible refine z_par3 ?_ | with_reducible refine z_sub2 ?_ | with_reducible refine z_sub3 ?_ | with_reducible refine z_raiF ?_ | with_reducible refine z_rai ?_ | with_reducible refine z_try1 ?_ | with_reducible refine w_bin ?_ | with_reducible refine w_int ?_ | with_reducible refine w_str ?_ | with_reducible refine w_blc ?_ | with_reducible refine w_non ?_ | with_reducible refine w_bty ?_ | with_reducible refine w_neg ?_ | with_reducible refine w_cmp ?_ | with_reducible refine w_chn ?_ | with_reducible refine w_and ?_ | with_reducible refine w_or ?_ | with_reducible refine w_not ?_ | with_reducible refine w_ite ?_ | with_reducible refine w_fld ?_ | with_reducible refine w_ix ?_ | with_reducible refine w_sl ?_ | with_reducible refine w_no ?_ | with_reducible refine w_so ?_ | with_reducible refine w_nil ?_ | with_reducible refine w_cons ?_ | with_reducible refine w_tup ?_ | with_reducible refine w_lst ?_ | with_reducible refine w_cal ?_ | with_reducible refine w_mk ?_ | with_reducible refine w_mth ?_ | with_reducible refine w_bi ?_ | with_reducible refine w_bm ?_ | with_reducible refine w_lc ?_ | with_reducible refine w_iex ?_ | with_reducible refine w_rng1 ?_ | with_reducible refine w_rng2 ?_ | with_reducible refine w_enum ?_ | with_reducible refine w_T0 ?_ | with_reducible refine w_T1 ?_ | with_reducible refine w_add ?_ | with_reducible refine w_sub ?_ | with_reducible refine w_dctK ?_ | with_reducible refine w_dget1 ?_ | with_reducible refine w_dget2 ?_ | with_reducible refine w_rev ?_ | ((with_reducible refine w_tru ?_ ?_); exact rfl)))
    refine ⟨true, by simp [cmpSem, eqD_int], true, rfl, fun _ => ?_, fun h => by cases h⟩
    unfold t_law_digit_1
    (repeat (first | ((with_reducible refine w_var ?_); refine ⟨_, rfl, ?_⟩) | with_reducible refine z_set ?_ | with_reducible refine z_setT ?_ | with_reducible refine z_par ?_ | with_reducible refine z_fld ?_ | with_reducible refine z_sub ?_ | with_reducible refine z_exp ?_ | with_reducible refine z_ret ?_ | with_reducible refine z_retN ?_ | with_reducible refine z_ite ?_ | with_reducible refine z_whl ?_ | with_reducible refine z_for ?_ | with_reducible refine z_pass ?_ | with_reducible refine z_brk ?_ | with_reducible refine z_cnt ?_ | with_reducible refine z_nil ?_ | with_reducible refine z_par3 ?_ | with_reducible refine z_sub2 ?_ | with_reducible refine z_sub3 ?_ | with_reducible refine z_raiF ?_ | with_reducible refine z_rai ?_ | with_reducible refine z_try1 ?_ | with_reducible refine w_bin ?_ | with_reducible refine w_int ?_ | with_reducible refine w_str ?_ | with_reducible refine w_blc ?_ | with_reducible refine w_non ?_ | with_reducible refine w_bty ?_ | with_reducible refine w_neg ?_ | with_reducible refine w_cmp ?_ | with_reducible refine w_chn ?_ | with_reducible refine w_and ?_ | with_reducible refine w_or ?_ | with_reducible refine w_not ?_ | with_reducible refine w_ite ?_ | with_reducible refine w_fld ?_ | with_reducible refine w_ix ?_ | with_reducible refine w_sl ?_ | with_reducible refine w_no ?_ | with_reducible refine w_so ?_ | with_reducible refine w_nil ?_ | with_reducible refine w_cons ?_ | with_reducible refine w_tup ?_ | with_reducible refine w_lst ?_ | with_reducible refine w_cal ?_ | with_reducible refine w_mk ?_ | with_reducible refine w_mth ?_ | with_reducible refine w_bi ?_ | with_reducible refine w_bm ?_ | with_reducible refine w_lc ?_ | with_reducible refine w_iex ?_ | with_reducible refine w_rng1 ?_ | with_reducible refine w_rng2 ?_ | with_reducible refine w_enum ?_ | with_reducible refine w_T0 ?_ | with_reducible refine w_T1 ?_ | with_reducible refine w_add ?_ | with_reducible refine w_sub ?_ | with_reducible refine w_dctK ?_ | with_reducible refine w_dget1 ?_ | with_reducible refine w_dget2 ?_ | with_reducible refine w_rev ?_ | ((with_reducible refine w_tru ?_ ?_); exact rfl)))
    refine ⟨i, _, rfl, hl, ?_⟩
    (repeat (first | ((with_reducible refine w_var ?_); refine ⟨_, rfl, ?_⟩) | with_reducible refine z_set ?_ | with_reducible refine z_setT ?_ | with_reducible refine z_par ?_ | with_reducible refine z_fld ?_ | with_reducible refine z_sub ?_ | with_reducible refine z_exp ?_ | with_reducible refine z_ret ?_ | with_reducible refine z_retN ?_ | with_reducible refine z_ite ?_ | with_reducible refine z_whl ?_ | with_reducible refine z_for ?_ | with_reducible refine z_pass ?_ | with_reducible refine z_brk ?_ | with_reducible refine z_cnt ?_ | with_reducible refine z_nil ?_ | with_reducible refine z_par3 ?_ | with_reducible refine z_sub2 ?_ | with_reducible refine z_sub3 ?_ | with_reducible refine z_raiF ?_ | with_reducible refine z_rai ?_ | with_reducible refine z_try1 ?_ | with_reducible refine w_bin ?_ | with_reducible refine w_int ?_ | with_reducible refine w_str ?_ | with_reducible refine w_blc ?_ | with_reducible refine w_non ?_ | with_reducible refine w_bty ?_ | with_reducible refine w_neg ?_ | with_reducible refine w_cmp ?_ | with_reducible refine w_chn ?_ | with_reducible refine w_and ?_ | with_reducible refine w_or ?_ | with_reducible refine w_not ?_ | with_reducible refine w_ite ?_ | with_reducible refine w_fld ?_ | with_reducible refine w_ix ?_ | with_reducible refine w_sl ?_ | with_reducible refine w_no ?_ | with_reducible refine w_so ?_ | with_reducible refine w_nil ?_ | with_reducible refine w_cons ?_ | with_reducible refine w_tup ?_ | with_reducible refine w_lst ?_ | with_reducible refine w_cal ?_ | with_reducible refine w_mk ?_ | with_reducible refine w_mth ?_ | with_reducible refine w_bi ?_ | with_reducible refine w_bm ?_ | with_reducible refine w_lc ?_ | with_reducible refine w_iex ?_ | with_reducible refine w_rng1 ?_ | with_reducible refine w_rng2 ?_ | with_reducible refine w_enum ?_ | with_reducible refine w_T0 ?_ | with_reducible refine w_T1 ?_ | with_reducible refine w_add ?_ | with_reducible refine w_sub ?_ | with_reducible refine w_dctK ?_ | with_reducible refine w_dget1 ?_ | with_reducible refine w_dget2 ?_ | with_reducible refine w_rev ?_ | ((with_reducible refine w_tru ?_ ?_); exact rfl)))
    refine ix_loc hl (by rfl) ?_
    refine ⟨_, _, rfl, ?_⟩
    (repeat (first | ((with_reducible refine w_var ?_); refine ⟨_, rfl, ?_⟩) | with_reducible refine z_set ?_ | with_reducible refine z_setT ?_ | with_reducible refine z_par ?_ | with_reducible refine z_fld ?_ | with_reducible refine z_sub ?_ | with_reducible refine z_exp ?_ | with_reducible refine z_ret ?_ | with_reducible refine z_retN ?_ | with_reducible refine z_ite ?_ | with_reducible refine z_whl ?_ | with_reducible refine z_for ?_ | with_reducible refine z_pass ?_ | with_reducible refine z_brk ?_ | with_reducible refine z_cnt ?_ | with_reducible refine z_nil ?_ | with_reducible refine z_par3 ?_ | with_reducible refine z_sub2 ?_ | with_reducible refine z_sub3 ?_ | with_reducible refine z_raiF ?_ | with_reducible refine z_rai ?_ | with_reducible refine z_try1 ?_ | with_reducible refine w_bin ?_ | with_reducible refine w_int ?_ | with_reducible refine w_str ?_ | with_reducible refine w_blc ?_ | with_reducible refine w_non ?_ | with_reducible refine w_bty ?_ | with_reducible refine w_neg ?_ | with_reducible refine w_cmp ?_ | with_reducible refine w_chn ?_ | with_reducible refine w_and ?_ | with_reducible refine w_or ?_ | with_reducible refine w_not ?_ | with_reducible refine w_ite ?_ | with_reducible refine w_fld ?_ | with_reducible refine w_ix ?_ | with_reducible refine w_sl ?_ | with_reducible refine w_no ?_ | with_reducible refine w_so ?_ | with_reducible refine w_nil ?_ | with_reducible refine w_cons ?_ | with_reducible refine w_tup ?_ | with_reducible refine w_lst ?_ | with_reducible refine w_cal ?_ | with_reducible refine w_mk ?_ | with_reducible refine w_mth ?_ | with_reducible refine w_bi ?_ | with_reducible refine w_bm ?_ | with_reducible refine w_lc ?_ | with_reducible refine w_iex ?_ | with_reducible refine w_rng1 ?_ | with_reducible refine w_rng2 ?_ | with_reducible refine w_enum ?_ | with_reducible refine w_T0 ?_ | with_reducible refine w_T1 ?_ | with_reducible refine w_add ?_ | with_reducible refine w_sub ?_ | with_reducible refine w_dctK ?_ | with_reducible refine w_dget1 ?_ | with_reducible refine w_dget2 ?_ | with_reducible refine w_rev ?_ | ((with_reducible refine w_tru ?_ ?_); exact rfl)))
    refine w_mod (by omega) ?_
    (repeat (first | ((with_reducible refine w_var ?_); refine ⟨_, rfl, ?_⟩) | with_reducible refine z_set ?_ | with_reducible refine z_setT ?_ | with_reducible refine z_par ?_ | with_reducible refine z_fld ?_ | with_reducible refine z_sub ?_ | with_reducible refine z_exp ?_ | with_reducible refine z_ret ?_ | with_reducible refine z_retN ?_ | with_reducible refine z_ite ?_ | with_reducible refine z_whl ?_ | with_reducible refine z_for ?_ | with_reducible refine z_pass ?_ | with_reducible refine z_brk ?_ | with_reducible refine z_cnt ?_ | with_reducible refine z_nil ?_ | with_reducible refine z_par3 ?_ | with_reducible refine z_sub2 ?_ | with_reducible refine z_sub3 ?_ | with_reducible refine z_raiF ?_ | with_reducible refine z_rai ?_ | with_reducible refine z_try1 ?_ | with_reducible refine w_bin ?_ | with_reducible refine w_int ?_ | with_reducible refine w_str ?_ | with_reducible refine w_blc ?_ | with_reducible refine w_non ?_ | with_reducible refine w_bty ?_ | with_reducible refine w_neg ?_ | with_reducible refine w_cmp ?_ | with_reducible refine w_chn ?_ | with_reducible refine w_and ?_ | with_reducible refine w_or ?_ | with_reducible refine w_not ?_ | with_reducible refine w_ite ?_ | with_reducible refine w_fld ?_ | with_reducible refine w_ix ?_ | with_reducible refine w_sl ?_ | with_reducible refine w_no ?_ | with_reducible refine w_so ?_ | with_reducible refine w_nil ?_ | with_reducible refine w_cons ?_ | with_reducible refine w_tup ?_ | with_reducible refine w_lst ?_ | with_reducible refine w_cal ?_ | with_reducible refine w_mk ?_ | with_reducible refine w_mth ?_ | with_reducible refine w_bi ?_ | with_reducible refine w_bm ?_ | with_reducible refine w_lc ?_ | with_reducible refine w_iex ?_ | with_reducible refine w_rng1 ?_ | with_reducible refine w_rng2 ?_ | with_reducible refine w_enum ?_ | with_reducible refine w_T0 ?_ | with_reducible refine w_T1 ?_ | with_reducible refine w_add ?_ | with_reducible refine w_sub ?_ | with_reducible refine w_dctK ?_ | with_reducible refine w_dget1 ?_ | with_reducible refine w_dget2 ?_ | with_reducible refine w_rev ?_ | ((with_reducible refine w_tru ?_ ?_); exact rfl)))
    refine ⟨sz (by simp), ?_⟩
    refine ⟨.non, (S ++ [Cell.lst [D.int (n % 2147483647), D.int 0]]).set i (Cell.lst [D.int n, D.int (n % 2147483647), D.int 0]), by simp [bmSem, get_pushl hl]; decide, ?_⟩
    obtain ⟨S3, hS3⟩ : ∃ S3 : Sto, S3 = (S ++ [Cell.lst [D.int (n % 2147483647), D.int 0]]).set i (Cell.lst [D.int n, D.int (n % 2147483647), D.int 0]) := ⟨_, rfl⟩
    rw [← hS3]
    have h3 : S3[i]? = some (.lst [.int n, .int (n % 2147483647), .int 0]) := by rw [hS3]; exact get_set (by simp; omega)
    have f3 : DI.Fr [i] S S3 := by rw [hS3]; exact DI.Fr.setr DI.Fr.push (.inl (by simp))
    (repeat (first | ((with_reducible refine w_var ?_); refine ⟨_, rfl, ?_⟩) | with_reducible refine z_set ?_ | with_reducible refine z_setT ?_ | with_reducible refine z_par ?_ | with_reducible refine z_fld ?_ | with_reducible refine z_sub ?_ | with_reducible refine z_exp ?_ | with_reducible refine z_ret ?_ | with_reducible refine z_retN ?_ | with_reducible refine z_ite ?_ | with_reducible refine z_whl ?_ | with_reducible refine z_for ?_ | with_reducible refine z_pass ?_ | with_reducible refine z_brk ?_ | with_reducible refine z_cnt ?_ | with_reducible refine z_nil ?_ | with_reducible refine z_par3 ?_ | with_reducible refine z_sub2 ?_ | with_reducible refine z_sub3 ?_ | with_reducible refine z_raiF ?_ | with_reducible refine z_rai ?_ | with_reducible refine z_try1 ?_ | with_reducible refine w_bin ?_ | with_reducible refine w_int ?_ | with_reducible refine w_str ?_ | with_reducible refine w_blc ?_ | with_reducible refine w_non ?_ | with_reducible refine w_bty ?_ | with_reducible refine w_neg ?_ | with_reducible refine w_cmp ?_ | with_reducible refine w_chn ?_ | with_reducible refine w_and ?_ | with_reducible refine w_or ?_ | with_reducible refine w_not ?_ | with_reducible refine w_ite ?_ | with_reducible refine w_fld ?_ | with_reducible refine w_ix ?_ | with_reducible refine w_sl ?_ | with_reducible refine w_no ?_ | with_reducible refine w_so ?_ | with_reducible refine w_nil ?_ | with_reducible refine w_cons ?_ | with_reducible refine w_tup ?_ | with_reducible refine w_lst ?_ | with_reducible refine w_cal ?_ | with_reducible refine w_mk ?_ | with_reducible refine w_mth ?_ | with_reducible refine w_bi ?_ | with_reducible refine w_bm ?_ | with_reducible refine w_lc ?_ | with_reducible refine w_iex ?_ | with_reducible refine w_rng1 ?_ | with_reducible refine w_rng2 ?_ | with_reducible refine w_enum ?_ | with_reducible refine w_T0 ?_ | with_reducible refine w_T1 ?_ | with_reducible refine w_add ?_ | with_reducible refine w_sub ?_ | with_reducible refine w_dctK ?_ | with_reducible refine w_dget1 ?_ | with_reducible refine w_dget2 ?_ | with_reducible refine w_rev ?_ | ((with_reducible refine w_tru ?_ ?_); exact rfl)))
    refine ix_loc h3 (by rfl) ?_
    refine ⟨sz (by simp), ?_⟩
    (repeat (first | ((with_reducible refine w_var ?_); refine ⟨_, rfl, ?_⟩) | with_reducible refine z_set ?_ | with_reducible refine z_setT ?_ | with_reducible refine z_par ?_ | with_reducible refine z_fld ?_ | with_reducible refine z_sub ?_ | with_reducible refine z_exp ?_ | with_reducible refine z_ret ?_ | with_reducible refine z_retN ?_ | with_reducible refine z_ite ?_ | with_reducible refine z_whl ?_ | with_reducible refine z_for ?_ | with_reducible refine z_pass ?_ | with_reducible refine z_brk ?_ | with_reducible refine z_cnt ?_ | with_reducible refine z_nil ?_ | with_reducible refine z_par3 ?_ | with_reducible refine z_sub2 ?_ | with_reducible refine z_sub3 ?_ | with_reducible refine z_raiF ?_ | with_reducible refine z_rai ?_ | with_reducible refine z_try1 ?_ | with_reducible refine w_bin ?_ | with_reducible refine w_int ?_ | with_reducible refine w_str ?_ | with_reducible refine w_blc ?_ | with_reducible refine w_non ?_ | with_reducible refine w_bty ?_ | with_reducible refine w_neg ?_ | with_reducible refine w_cmp ?_ | with_reducible refine w_chn ?_ | with_reducible refine w_and ?_ | with_reducible refine w_or ?_ | with_reducible refine w_not ?_ | with_reducible refine w_ite ?_ | with_reducible refine w_fld ?_ | with_reducible refine w_ix ?_ | with_reducible refine w_sl ?_ | with_reducible refine w_no ?_ | with_reducible refine w_so ?_ | with_reducible refine w_nil ?_ | with_reducible refine w_cons ?_ | with_reducible refine w_tup ?_ | with_reducible refine w_lst ?_ | with_reducible refine w_cal ?_ | with_reducible refine w_mk ?_ | with_reducible refine w_mth ?_ | with_reducible refine w_bi ?_ | with_reducible refine w_bm ?_ | with_reducible refine w_lc ?_ | with_reducible refine w_iex ?_ | with_reducible refine w_rng1 ?_ | with_reducible refine w_rng2 ?_ | with_reducible refine w_enum ?_ | with_reducible refine w_T0 ?_ | with_reducible refine w_T1 ?_ | with_reducible refine w_add ?_ | with_reducible refine w_sub ?_ | with_reducible refine w_dctK ?_ | with_reducible refine w_dget1 ?_ | with_reducible refine w_dget2 ?_ | with_reducible refine w_rev ?_ | ((with_reducible refine w_tru ?_ ?_); exact rfl)))
    refine ix_loc (get_pushl h3) (by rfl) ?_
    (repeat (first | ((with_reducible refine w_var ?_); refine ⟨_, rfl, ?_⟩) | with_reducible refine z_set ?_ | with_reducible refine z_setT ?_ | with_reducible refine z_par ?_ | with_reducible refine z_fld ?_ | with_reducible refine z_sub ?_ | with_reducible refine z_exp ?_ | with_reducible refine z_ret ?_ | with_reducible refine z_retN ?_ | with_reducible refine z_ite ?_ | with_reducible refine z_whl ?_ | with_reducible refine z_for ?_ | with_reducible refine z_pass ?_ | with_reducible refine z_brk ?_ | with_reducible refine z_cnt ?_ | with_reducible refine z_nil ?_ | with_reducible refine z_par3 ?_ | with_reducible refine z_sub2 ?_ | with_reducible refine z_sub3 ?_ | with_reducible refine z_raiF ?_ | with_reducible refine z_rai ?_ | with_reducible refine z_try1 ?_ | with_reducible refine w_bin ?_ | with_reducible refine w_int ?_ | with_reducible refine w_str ?_ | with_reducible refine w_blc ?_ | with_reducible refine w_non ?_ | with_reducible refine w_bty ?_ | with_reducible refine w_neg ?_ | with_reducible refine w_cmp ?_ | with_reducible refine w_chn ?_ | with_reducible refine w_and ?_ | with_reducible refine w_or ?_ | with_reducible refine w_not ?_ | with_reducible refine w_ite ?_ | with_reducible refine w_fld ?_ | with_reducible refine w_ix ?_ | with_reducible refine w_sl ?_ | with_reducible refine w_no ?_ | with_reducible refine w_so ?_ | with_reducible refine w_nil ?_ | with_reducible refine w_cons ?_ | with_reducible refine w_tup ?_ | with_reducible refine w_lst ?_ | with_reducible refine w_cal ?_ | with_reducible refine w_mk ?_ | with_reducible refine w_mth ?_ | with_reducible refine w_bi ?_ | with_reducible refine w_bm ?_ | with_reducible refine w_lc ?_ | with_reducible refine w_iex ?_ | with_reducible refine w_rng1 ?_ | with_reducible refine w_rng2 ?_ | with_reducible refine w_enum ?_ | with_reducible refine w_T0 ?_ | with_reducible refine w_T1 ?_ | with_reducible refine w_add ?_ | with_reducible refine w_sub ?_ | with_reducible refine w_dctK ?_ | with_reducible refine w_dget1 ?_ | with_reducible refine w_dget2 ?_ | with_reducible refine w_rev ?_ | ((with_reducible refine w_tru ?_ ?_); exact rfl)))
    refine w_pow (by decide) ?_
    refine ⟨_, rfl, ?_⟩
    refine ⟨_, _, rfl, ?_⟩
    have f4 : DI.Fr [i] S (S3 ++ [Cell.lst [D.int 0, D.int n]]) := f3.pushr
    refine ⟨.int (if decide ((10 : Int) ^ (18 : Int).toNat ≤ n) = true then n else 0), ?_, ?_⟩
    · cases decide ((10 : Int) ^ (18 : Int).toNat ≤ n) <;> simp [itemSem, get_push] <;> rfl
    (repeat (first | ((with_reducible refine w_var ?_); refine ⟨_, rfl, ?_⟩) | with_reducible refine z_set ?_ | with_reducible refine z_setT ?_ | with_reducible refine z_par ?_ | with_reducible refine z_fld ?_ | with_reducible refine z_sub ?_ | with_reducible refine z_exp ?_ | with_reducible refine z_ret ?_ | with_reducible refine z_retN ?_ | with_reducible refine z_ite ?_ | with_reducible refine z_whl ?_ | with_reducible refine z_for ?_ | with_reducible refine z_pass ?_ | with_reducible refine z_brk ?_ | with_reducible refine z_cnt ?_ | with_reducible refine z_nil ?_ | with_reducible refine z_par3 ?_ | with_reducible refine z_sub2 ?_ | with_reducible refine z_sub3 ?_ | with_reducible refine z_raiF ?_ | with_reducible refine z_rai ?_ | with_reducible refine z_try1 ?_ | with_reducible refine w_bin ?_ | with_reducible refine w_int ?_ | with_reducible refine w_str ?_ | with_reducible refine w_blc ?_ | with_reducible refine w_non ?_ | with_reducible refine w_bty ?_ | with_reducible refine w_neg ?_ | with_reducible refine w_cmp ?_ | with_reducible refine w_chn ?_ | with_reducible refine w_and ?_ | with_reducible refine w_or ?_ | with_reducible refine w_not ?_ | with_reducible refine w_ite ?_ | with_reducible refine w_fld ?_ | with_reducible refine w_ix ?_ | with_reducible refine w_sl ?_ | with_reducible refine w_no ?_ | with_reducible refine w_so ?_ | with_reducible refine w_nil ?_ | with_reducible refine w_cons ?_ | with_reducible refine w_tup ?_ | with_reducible refine w_lst ?_ | with_reducible refine w_cal ?_ | with_reducible refine w_mk ?_ | with_reducible refine w_mth ?_ | with_reducible refine w_bi ?_ | with_reducible refine w_bm ?_ | with_reducible refine w_lc ?_ | with_reducible refine w_iex ?_ | with_reducible refine w_rng1 ?_ | with_reducible refine w_rng2 ?_ | with_reducible refine w_enum ?_ | with_reducible refine w_T0 ?_ | with_reducible refine w_T1 ?_ | with_reducible refine w_add ?_ | with_reducible refine w_sub ?_ | with_reducible refine w_dctK ?_ | with_reducible refine w_dget1 ?_ | with_reducible refine w_dget2 ?_ | with_reducible refine w_rev ?_ | ((with_reducible refine w_tru ?_ ?_); exact rfl)))
    refine set_loc (get_pushl h3) (by rfl) ?_
    (repeat (first | ((with_reducible refine w_var ?_); refine ⟨_, rfl, ?_⟩) | with_reducible refine z_set ?_ | with_reducible refine z_setT ?_ | with_reducible refine z_par ?_ | with_reducible refine z_fld ?_ | with_reducible refine z_sub ?_ | with_reducible refine z_exp ?_ | with_reducible refine z_ret ?_ | with_reducible refine z_retN ?_ | with_reducible refine z_ite ?_ | with_reducible refine z_whl ?_ | with_reducible refine z_for ?_ | with_reducible refine z_pass ?_ | with_reducible refine z_brk ?_ | with_reducible refine z_cnt ?_ | with_reducible refine z_nil ?_ | with_reducible refine z_par3 ?_ | with_reducible refine z_sub2 ?_ | with_reducible refine z_sub3 ?_ | with_reducible refine z_raiF ?_ | with_reducible refine z_rai ?_ | with_reducible refine z_try1 ?_ | with_reducible refine w_bin ?_ | with_reducible refine w_int ?_ | with_reducible refine w_str ?_ | with_reducible refine w_blc ?_ | with_reducible refine w_non ?_ | with_reducible refine w_bty ?_ | with_reducible refine w_neg ?_ | with_reducible refine w_cmp ?_ | with_reducible refine w_chn ?_ | with_reducible refine w_and ?_ | with_reducible refine w_or ?_ | with_reducible refine w_not ?_ | with_reducible refine w_ite ?_ | with_reducible refine w_fld ?_ | with_reducible refine w_ix ?_ | with_reducible refine w_sl ?_ | with_reducible refine w_no ?_ | with_reducible refine w_so ?_ | with_reducible refine w_nil ?_ | with_reducible refine w_cons ?_ | with_reducible refine w_tup ?_ | with_reducible refine w_lst ?_ | with_reducible refine w_cal ?_ | with_reducible refine w_mk ?_ | with_reducible refine w_mth ?_ | with_reducible refine w_bi ?_ | with_reducible refine w_bm ?_ | with_reducible refine w_lc ?_ | with_reducible refine w_iex ?_ | with_reducible refine w_rng1 ?_ | with_reducible refine w_rng2 ?_ | with_reducible refine w_enum ?_ | with_reducible refine w_T0 ?_ | with_reducible refine w_T1 ?_ | with_reducible refine w_add ?_ | with_reducible refine w_sub ?_ | with_reducible refine w_dctK ?_ | with_reducible refine w_dget1 ?_ | with_reducible refine w_dget2 ?_ | with_reducible refine w_rev ?_ | ((with_reducible refine w_tru ?_ ?_); exact rfl)))
    exact fin _ _ _ _ (get_set (by simp; have := lt_of h3; omega)) (f4.setr (.inl (by simp)))
  · refine ⟨.int 3, S, by simp [biSem, hl], ?_⟩
    (repeat (first | ((with_reducible refine w_var ?_); refine ⟨_, rfl, ?_⟩) | with_reducible refine z_set ?_ | with_reducible refine z_setT ?_ | with_reducible refine z_par ?_ | with_reducible refine z_fld ?_ | with_reducible refine z_sub ?_ | with_reducible refine z_exp ?_ | with_reducible refine z_ret ?_ | with_reducible refine z_retN ?_ | with_reducible refine z_ite ?_ | with_reducible refine z_whl ?_ | with_reducible refine z_for ?_ | with_reducible refine z_pass ?_ | with_reducible refine z_brk ?_ | with_reducible refine z_cnt ?_ | with_reducible refine z_nil ?_ | with_reducible refine z_par3 ?_ | with_reducible refine z_sub2 ?_ | with_reducible refine z_sub3 ?_ | with_reducible refine z_raiF ?_ | with_reducible refine z_rai ?_ | with_reducible refine z_try1 ?_ | with_reducible refine w_bin ?_ | with_reducible refine w_int ?_ | with_reducible refine w_str ?_ | with_reducible refine w_blc ?_ | with_reducible refine w_non ?_ | with_reducible refine w_bty ?_ | with_reducible refine w_neg ?_ | with_reducible refine w_cmp ?_ | with_reducible refine w_chn ?_ | with_reducible refine w_and ?_ | with_reducible refine w_or ?_ | with_reducible refine w_not ?_ | with_reducible refine w_ite ?_ | with_reducible refine w_fld ?_ | with_reducible refine w_ix ?_ | with_reducible refine w_sl ?_ | with_reducible refine w_no ?_ | with_reducible refine w_so ?_ | with_reducible refine w_nil ?_ | with_reducible refine w_cons ?_ | with_reducible refine w_tup ?_ | with_reducible refine w_lst ?_ | with_reducible refine w_cal ?_ | with_reducible refine w_mk ?_ | with_reducible refine w_mth ?_ | with_reducible refine w_bi ?_ | with_reducible refine w_bm ?_ | with_reducible refine w_lc ?_ | with_reducible refine w_iex ?_ | with_reducible refine w_rng1 ?_ | with_reducible refine w_rng2 ?_ | with_reducible refine w_enum ?_ | with_reducible refine w_T0 ?_ | with_reducible refine w_T1 ?_ | with_reducible refine w_add ?_ | with_reducible refine w_sub ?_ | with_reducible refine w_dctK ?_ | with_reducible refine w_dget1 ?_ | with_reducible refine w_dget2 ?_ | with_reducible refine w_rev ?_ | ((with_reducible refine w_tru ?_ ?_); exact rfl)))
    refine ⟨false, by simp [cmpSem, eqD_int], false, rfl, fun h => (by cases h), fun _ => ?_⟩
    (repeat (first | ((with_reducible refine w_var ?_); refine ⟨_, rfl, ?_⟩) | with_reducible refine z_set ?_ | with_reducible refine z_setT ?_ | with_reducible refine z_par ?_ | with_reducible refine z_fld ?_ | with_reducible refine z_sub ?_ | with_reducible refine z_exp ?_ | with_reducible refine z_ret ?_ | with_reducible refine z_retN ?_ | with_reducible refine z_ite ?_ | with_reducible refine z_whl ?_ | with_reducible refine z_for ?_ | with_reducible refine z_pass ?_ | with_reducible refine z_brk ?_ | with_reducible refine z_cnt ?_ | with_reducible refine z_nil ?_ | with_reducible refine z_par3 ?_ | with_reducible refine z_sub2 ?_ | with_reducible refine z_sub3 ?_ | with_reducible refine z_raiF ?_ | with_reducible refine z_rai ?_ | with_reducible refine z_try1 ?_ | with_reducible refine w_bin ?_ | with_reducible refine w_int ?_ | with_reducible refine w_str ?_ | with_reducible refine w_blc ?_ | with_reducible refine w_non ?_ | with_reducible refine w_bty ?_ | with_reducible refine w_neg ?_ | with_reducible refine w_cmp ?_ | with_reducible refine w_chn ?_ | with_reducible refine w_and ?_ | with_reducible refine w_or ?_ | with_reducible refine w_not ?_ | with_reducible refine w_ite ?_ | with_reducible refine w_fld ?_ | with_reducible refine w_ix ?_ | with_reducible refine w_sl ?_ | with_reducible refine w_no ?_ | with_reducible refine w_so ?_ | with_reducible refine w_nil ?_ | with_reducible refine w_cons ?_ | with_reducible refine w_tup ?_ | with_reducible refine w_lst ?_ | with_reducible refine w_cal ?_ | with_reducible refine w_mk ?_ | with_reducible refine w_mth ?_ | with_reducible refine w_bi ?_ | with_reducible refine w_bm ?_ | with_reducible refine w_lc ?_ | with_reducible refine w_iex ?_ | with_reducible refine w_rng1 ?_ | with_reducible refine w_rng2 ?_ | with_reducible refine w_enum ?_ | with_reducible refine w_T0 ?_ | with_reducible refine w_T1 ?_ | with_reducible refine w_add ?_ | with_reducible refine w_sub ?_ | with_reducible refine w_dctK ?_ | with_reducible refine w_dget1 ?_ | with_reducible refine w_dget2 ?_ | with_reducible refine w_rev ?_ | ((with_reducible refine w_tru ?_ ?_); exact rfl)))
    exact fin S a b c hl .refl

end K85

set_option Elab.async false
set_option linter.all false
set_option maxRecDepth 100000
set_option maxHeartbeats 4000000
namespace K85
open L2 DI PySem PySem.Spec PyProof.Rows
/-! ### what a value is -/
def isWh : D → Bool | .int i => decide (-1000000 ≤ i) && decide (i ≤ 1000000) | _ => false
def geD (n : Int) : D → Bool | .int i => decide (n ≤ i) | _ => false
def isSz (d : D) : Bool := isWh d && geD 0 d
def isPct : D → Bool | .tup [a, b] => isS "percent" a && isWh b | _ => false
def pos2 : D → Bool | .tup [_, b] => geD 0 b | _ => false
def isShr (d : D) : Bool := isPct d && pos2 d
def isAu (d : D) : Bool := isS "auto" d
def isOff (d : D) : Bool := isN d || (isWh d || isPct d)
def isMar (d : D) : Bool := isAu d || (isWh d || isPct d)
def isPad (d : D) : Bool := isSz d || isShr d
def len4 : D → Bool | .tup xs => (xs.length : Int) == 4 | _ => false
def all4 (t : D → Bool) : D → Bool | .tup xs => xs.all t | _ => false
def four (t : D → Bool) (d : D) : Bool := tt d && (len4 d && all4 t d)
theorem wh_int {d : D} (h : isWh d = true) : ∃ i, d = .int i := by cases d <;> first | exact ⟨_, rfl⟩ | cases h
abbrev Ans (S : Sto) (b : Bool) : D → Sto → Prop := fun r S' => S' = S ∧ r = .bl b
theorem c_wh {n : Nat} {S : Sto} {d : D} (hv : TOk S d) : W (calls P0 fs (n + 1) 0 [d] S) (Ans S (isWh d)) := by
  refine W_call (f := d_is_whole) rfl rfl ?_
  show WS (dSs P0 _ t_is_whole [some d] S) _
  unfold t_is_whole
  refine z_ret (V_use (V_and (q := !tb d && isWh d) (v_ti hv (V_var rfl)) fun h => V_and (q := isWh d) (V_not (v_tb hv (V_var rfl))) fun h2 => ?_) ⟨rfl, ?_⟩)
  · cases d <;> first | (cases h; done) | (cases h2; done) | skip
    exact V_chn (V_neg (V_glo rfl)) (V_var rfl) rfl (fun _ => V_glo rfl) rfl
  · cases d <;> rfl
theorem c_sz {n : Nat} {S : Sto} {d : D} (hv : TOk S d) : W (calls P0 fs (n + 2) 1 [d] S) (Ans S (isSz d)) := by
  refine W_call (f := d_is_size) rfl rfl ?_
  show WS (dSs P0 _ t_is_size [some d] S) _
  unfold t_is_size
  refine z_ret (V_use (V_and (q := geD 0 d) (V_cal (V_var rfl) (c_wh hv)) fun h => ?_) ⟨rfl, rfl⟩)
  obtain ⟨i, rfl⟩ := wh_int h
  exact v_geI (V_var rfl)
theorem c_pct {n : Nat} {S : Sto} {d : D} (hv : VOk S d) : W (calls P0 fs (n + 2) 2 [d] S) (Ans S (isPct d)) := by
  refine W_call (f := d_is_percent) rfl rfl ?_
  show WS (dSs P0 _ t_is_percent [some d] S) _
  unfold t_is_percent
  cases d with
  | tup xs =>
    refine z_ret (V_use (V_and (q := isPct (.tup xs)) (v_tt hv.t (V_var rfl)) fun _ => V_cast (V_and (q := isPct (.tup xs)) (v_lenT (V_var rfl)) fun h => ?_) ?_) ⟨rfl, rfl⟩)
    · match xs, hv, h with
      | [a, b], .tup h1 h2, _ => exact V_and (q := isWh b) (v_eqS (h2 a (by simp)) (v_ixT (V_var rfl) rfl)) fun _ => V_cal (v_ixT (V_var rfl) rfl) (c_wh (h1 b (by simp)).t)
      | [], _, h => cases h
      | [_], _, h => cases h
      | _ :: _ :: _ :: r, _, h =>
        exfalso
        simp only [List.length_cons, beq_iff_eq] at h
        omega
    · match xs with
      | [a, b] => rfl
      | [] => rfl
      | [_] => rfl
      | a :: b :: c :: r => show D.bl (_ && false) = D.bl false; rw [Bool.and_false]
  | _ => exact z_ret (V_use (V_and (q := false) (v_tt hv.t (V_var rfl)) fun h => by cases h) ⟨rfl, rfl⟩)
theorem c_off {n : Nat} {S : Sto} {d : D} (hv : VOk S d) : W (calls P0 fs (n + 3) 3 [d] S) (Ans S (isOff d)) := by
  refine W_call (f := d_is_offset) rfl rfl ?_
  show WS (dSs P0 _ t_is_offset [some d] S) _
  unfold t_is_offset
  exact z_ret (V_use (V_or (v_is (V_var rfl)) fun _ => V_or (V_cal (V_var rfl) (c_wh hv.t)) fun _ => V_cal (V_var rfl) (c_pct hv)) ⟨rfl, rfl⟩)
theorem c_au {n : Nat} {S : Sto} {d : D} (hv : VOk S d) : W (calls P0 fs (n + 1) 4 [d] S) (Ans S (isAu d)) := by
  refine W_call (f := d_is_auto) rfl rfl ?_
  show WS (dSs P0 _ t_is_auto [some d] S) _
  unfold t_is_auto
  refine z_ret (V_use (V_and (q := isAu d) (v_ts hv.t (V_var rfl)) fun h => ?_) ⟨rfl, by cases d <;> rfl⟩)
  cases hv with
  | str hx => exact v_eqS (sh_str hx) (V_var rfl)
  | _ => cases h
theorem c_mar {n : Nat} {S : Sto} {d : D} (hv : VOk S d) : W (calls P0 fs (n + 3) 5 [d] S) (Ans S (isMar d)) := by
  refine W_call (f := d_is_margin) rfl rfl ?_
  show WS (dSs P0 _ t_is_margin [some d] S) _
  unfold t_is_margin
  exact z_ret (V_use (V_or (V_cal (V_var rfl) (c_au hv)) fun _ => V_or (V_cal (V_var rfl) (c_wh hv.t)) fun _ => V_cal (V_var rfl) (c_pct hv)) ⟨rfl, rfl⟩)
theorem c_shr {n : Nat} {S : Sto} {d : D} (hv : VOk S d) : W (calls P0 fs (n + 3) 6 [d] S) (Ans S (isShr d)) := by
  refine W_call (f := d_is_share) rfl rfl ?_
  show WS (dSs P0 _ t_is_share [some d] S) _
  unfold t_is_share
  refine z_ret (V_use (V_and (q := pos2 d) (V_cal (V_var rfl) (c_pct hv)) fun h => ?_) ⟨rfl, rfl⟩)
  match d, h with
  | .tup [a, b], h =>
    obtain ⟨i, rfl⟩ := wh_int (Bool.and_eq_true_iff.mp h).2
    exact v_geI (v_ixT (V_var rfl) rfl)
theorem c_pad {n : Nat} {S : Sto} {d : D} (hv : VOk S d) : W (calls P0 fs (n + 4) 7 [d] S) (Ans S (isPad d)) := by
  refine W_call (f := d_is_padding) rfl rfl ?_
  show WS (dSs P0 _ t_is_padding [some d] S) _
  unfold t_is_padding
  exact z_ret (V_use (V_or (V_cal (V_var rfl) (c_sz hv.t)) fun _ => V_cal (V_var rfl) (c_shr hv)) ⟨rfl, rfl⟩)
/-- an answer, and the store grown -/
abbrev AnsF (S : Sto) (b : Bool) : D → Sto → Prop := fun r S' => DI.Fr [] S S' ∧ r = .bl b
theorem c_four {n j : Nat} {S : Sto} {d : D} (t : D → Bool) (hj : j ∈ [1, 3, 5, 7]) (ht : ∀ S x, VOk S x → W (calls P0 fs (n + 4) j [x] S) (Ans S (t x))) (hl : ∀ xs, d = .tup xs → xs.length ≤ 1000000) (hv : VOk S d) :
    W (calls P0 fs (n + 5) 8 [d, .fn j] S) (AnsF S (four t d)) := by
  refine W_call (f := d_are_four) rfl rfl ?_
  show WS (dSs P0 _ t_are_four [some d, some (.fn j), none] S) _
  unfold t_are_four
  refine z_ret (w_and (V_use (v_tt hv.t (V_var rfl)) ⟨tt d, rfl, fun h => ?_, fun h => ⟨DI.Fr.refl, by unfold four; rw [h]; rfl⟩⟩))
  cases d <;> first | (cases h; done) | skip
  rename_i xs
  refine w_and (V_use (v_lenT (V_var rfl)) ⟨_, rfl, fun h => ?_, fun h => ⟨DI.Fr.refl, by show D.bl ((xs.length : Int) == 4) = D.bl (true && (((xs.length : Int) == 4) && xs.all t)); rw [h]; rfl⟩⟩)
  cases hv with
  | tup h1 h2 =>
  refine w_bi (w_cons (lc_pure (xs := xs) id (fun _ => true) (fun x => .bl (t x)) (w_iex (w_var ⟨_, rfl, _, rfl, by rw [List.map_id]; exact IsW.vs (hl _ rfl), fun x hx acc => ⟨_, rfl, dT0, fun _ => ?_⟩, w_nil ?_⟩))))
  · refine w_calV (j := j) rfl ?_ (w_cons (V_use (V_var rfl) (w_nil (ht _ x ((h1 x hx).mono push_all')))))
    simp only [List.mem_cons, List.not_mem_nil, or_false] at hj ⊢
    omega
  · have e : (S ++ [Cell.lst ((xs.filter fun _ => true).map fun x => D.bl (t x))])[S.length]? = some (.lst ((xs.map t).map D.bl)) := by
      rw [get_push, List.filter_eq_self.mpr (fun _ _ => rfl), List.map_map]; rfl
    refine ⟨_, _, bi_all e, DI.Fr.push, ?_⟩
    show D.bl ((xs.map t).all id) = D.bl (true && (((xs.length : Int) == 4) && xs.all t))
    rw [h, List.all_map]; rfl
/-! ### styles -/
def WD : List (Str × D) := match P0.glo "WORDS" with | some (.rd k) => k | _ => []
def FD : List (Str × D) := match P0.glo "FIRST" with | some (.rd k) => k | _ => []
theorem glo_W : P0.glo "WORDS" = some (.rd WD) := rfl
theorem glo_F : P0.glo "FIRST" = some (.rd FD) := rfl
def memS (ws : List Str) (w : Str) : Bool := ws.any (· == w)
def tst (w : Str) : D → Bool := if w == "offset" then isOff else if w == "margin" then isMar else if w == "border" then isSz else isPad
def wordV (w : Str) (v : D) : Bool := match WD.lookup w with
  | some (.tup os) => (isN v && os.any fun z => eqF z .non) || (ts v && os.any fun z => eqF z v)
  | _ => false
def styleV (w : Str) (v : D) (pl : Bool) : Bool :=
  if (WD.lookup w).isSome = true then wordV w v
  else if memS ["offset", "margin", "border", "padding"] w = true then four (tst w) v
  else if ((w == "width") || ((w == "height") && pl)) = true then isAu v || (isSz v || isShr v)
  else if (w == "height") = true then isAu v || isSz v
  else if memS ["most_width", "most_height"] w = true then isN v || isSz v
  else if (w == "clip") = true then tb v
  else if (w == "letter") = true then isSz v && geD 1 v
  else if memS ["raise", "indent"] w = true then isWh v
  else isSz v
theorem wd_all : WD.all (fun q => match q.2 with | .tup os => os.all flatD | _ => false) = true := by decide +kernel
theorem look_mem {kvs : List (Str × D)} {w : Str} {d : D} (h : kvs.lookup w = some d) : (w, d) ∈ kvs := by
  induction kvs with
  | nil => cases h
  | cons q r ih =>
    obtain ⟨k, z⟩ := q
    rw [List.lookup_cons] at h
    split at h
    · rename_i e
      obtain rfl := beq_iff_eq.mp e
      cases h
      exact List.mem_cons_self
    · exact List.mem_cons_of_mem _ (ih h)
theorem wd_tup {w : Str} (h : (WD.lookup w).isSome = true) : ∃ os, WD.lookup w = some (.tup os) ∧ os.all flatD = true := by
  obtain ⟨d, hd⟩ := Option.isSome_iff_exists.mp h
  have := List.all_eq_true.mp wd_all _ (look_mem hd)
  dsimp only at this
  cases d <;> first | (cases this; done) | exact ⟨_, hd, this⟩
theorem in_flat {x : D} {os : List D} {S : Sto} (h1 : flatD x = true) (h2 : os.all flatD = true) : cmpSem .In x (.tup os) S = some (os.any fun z => eqF z x) := by
  show (if flatD x = true ∧ os.all flatD = true then some (os.any fun z => eqF z x) else inDeep x (.tup os) S) = _
  rw [if_pos ⟨h1, h2⟩]
theorem set_last {S : Sto} {c c' : Cell} : (S ++ [c]).set S.length c' = S ++ [c'] := by simp
section
variable {C : Nat → List D → Sto → Out D} {σ : Sl} {S : Sto} {w : Str}
theorem v_tup2 {a b : Str} : V P0 C (.tup (.cons (.cst (.str a)) (.cons (.cst (.str b)) .nil))) σ S (.tup [.str a, .str b]) := w_tup (w_cons (w_str (w_cons (w_str (w_nil ⟨sz (by show 2 ≤ 1000000; omega), rfl, rfl⟩)))))
theorem v_tup4 {a b c d : Str} : V P0 C (.tup (.cons (.cst (.str a)) (.cons (.cst (.str b)) (.cons (.cst (.str c)) (.cons (.cst (.str d)) .nil))))) σ S (.tup [.str a, .str b, .str c, .str d]) :=
  w_tup (w_cons (w_str (w_cons (w_str (w_cons (w_str (w_cons (w_str (w_nil ⟨sz (by show 4 ≤ 1000000; omega), rfl, rfl⟩)))))))))
theorem t_in2 {a b : Str} {i : Nat} (h : σ[i]? = some (some (.str w))) : T P0 C (.cmp .In (.var i) (.tup (.cons (.cst (.str a)) (.cons (.cst (.str b)) .nil)))) σ S (memS [a, b] w) := T_cmp (V_var h) v_tup2 (in_flat rfl rfl)
theorem t_in4 {a b c d : Str} {i : Nat} (h : σ[i]? = some (some (.str w))) : T P0 C (.cmp .In (.var i) (.tup (.cons (.cst (.str a)) (.cons (.cst (.str b)) (.cons (.cst (.str c)) (.cons (.cst (.str d)) .nil)))))) σ S (memS [a, b, c, d] w) := T_cmp (V_var h) v_tup4 (in_flat rfl rfl)
theorem t_eqS {s : Str} {d : D} {a : Ex} (h : Sh S d) (ha : V P0 C a σ S d) (hs : PyData.canLay0 (.str s) = true := by decide +kernel) : T P0 C (.cmp .Eq a (.cst (.str s))) σ S (isS s d) := T_cmp ha V_str (cmp_str.trans (eq_str hs h))
end
theorem c_styleV {n : Nat} {S : Sto} {w : Str} {v : D} {pl : Bool} (hw : PyData.canLay0 (.str w) = true) (hv : VOk S v) (hl : ∀ xs, v = .tup xs → xs.length ≤ 1000000) : W (calls P0 fs (n + 6) 9 [.str w, v, .bl pl] S) (AnsF S (styleV w v pl)) := by
  refine W_call (f := d_is_style_value) rfl rfl ?_
  show WS (dSs P0 _ t_is_style_value [some (.str w), some v, some (.bl pl), none] S) _
  have hS : Sh S (.str w) := sh_str hw
  unfold t_is_style_value
  refine z_iteT (p := (WD.lookup w).isSome) (T_cmp (V_var rfl) (V_glo glo_W) rfl) (fun h1 => ?_) fun h1 => ?_
  · obtain ⟨os, e1, e2⟩ := wd_tup h1
    have e3 : styleV w v pl = wordV w v := by unfold styleV; rw [if_pos h1]
    rw [e3]
    unfold t_is_style_value_1
    refine z_ret (V_use (V_or (p := isN v && os.any fun z => eqF z .non) (q := ts v && os.any fun z => eqF z v) (V_and (v_is (V_var rfl)) fun _ => V_cmp V_non (V_ix (V_glo glo_W) (V_var rfl) e1) (in_flat rfl e2)) fun _ => V_and (v_ts hv.t (V_var rfl)) fun h => V_cmp (V_var rfl) (V_ix (V_glo glo_W) (V_var rfl) e1) (in_flat (by cases v <;> first | rfl | cases h) e2)) ⟨DI.Fr.refl, ?_⟩)
    unfold wordV
    rw [e1]
  refine z_nil ?_
  dsimp only
  unfold t_is_style_value_16
  refine z_iteT (t_in4 rfl) (fun h2 => ?_) fun h2 => ?_
  · have e3 : styleV w v pl = four (tst w) v := by unfold styleV; rw [h1, if_neg (by decide), if_pos h2]
    rw [e3]
    unfold t_is_style_value_2
    refine z_set (w_dctK (w_cons (w_glo rfl (w_cons (w_glo rfl (w_cons (w_glo rfl (w_cons (w_glo rfl (w_nil ⟨get_push, ⟨rfl, by decide⟩, ?_⟩))))))))))
    rw [set_last]
    try simp only [List.set_cons_succ, List.set_cons_zero]
    generalize hm : mergeD [] _ = m
    have fin : ∀ (Q : Po) (_ : ∀ r S', AnsF S (four (tst w) v) r S' → Q.rt r S') (j : Nat) (t : D → Bool), j ∈ [1, 3, 5, 7] → (∀ S x, VOk S x → W (calls P0 fs (n + 4) j [x] S) (Ans S (t x))) → lookK m (.inr w) = some (.fn j) → tst w = t →
        WS (dSs P0 (calls P0 fs (n + 5)) (.cons (.ret (.cal 8 (.cons (.var 1) (.cons (.ix (.var 3) (.var 0)) .nil)))) .nil) [some (.str w), some v, some (.bl pl), some (.loc S.length)] (S ++ [.dk m])) Q := by
      intro Q hQ j t hj ht hk et
      rw [et] at hQ
      refine z_ret (w_cal (w_cons (V_use (V_var rfl) (w_cons (V_use (V_ix (z := .fn j) (V_var rfl) (V_var rfl) ?_) (w_nil (W_mono (c_four t hj ht hl (hv.mono push_all')) fun r S' ⟨f, e⟩ => hQ _ _ ⟨DI.Fr.push.trans f, e⟩)))))))
      simp only [itemSem, get_push, dictAt, hk, Option.bind_some, id]
    unfold memS at h2
    simp only [List.any_cons, List.any_nil, Bool.or_false, Bool.or_eq_true, beq_iff_eq] at h2
    rcases h2 with rfl | rfl | rfl | rfl
    · exact fin _ (fun _ _ h => h) 3 isOff (by decide) (fun S x hx => c_off hx) (by subst hm; rfl) rfl
    · exact fin _ (fun _ _ h => h) 5 isMar (by decide) (fun S x hx => c_mar hx) (by subst hm; rfl) rfl
    · exact fin _ (fun _ _ h => h) 1 isSz (by decide) (fun S x hx => c_sz hx.t) (by subst hm; rfl) rfl
    · exact fin _ (fun _ _ h => h) 7 isPad (by decide) (fun S x hx => c_pad hx) (by subst hm; rfl) rfl
  refine z_nil ?_
  dsimp only
  unfold t_is_style_value_15
  refine z_iteT (T_or (t_eqS hS (V_var rfl)) fun _ => T_and (t_eqS hS (V_var rfl)) fun _ => T_bl rfl (V_var rfl)) (fun h3 => ?_) fun h3 => ?_
  · have e3 : styleV w v pl = (isAu v || (isSz v || isShr v)) := by unfold styleV; rw [h1, if_neg (by decide), h2, if_neg (by decide), if_pos (show ((w == "width") || ((w == "height") && pl)) = true from h3)]
    rw [e3]
    unfold t_is_style_value_3
    exact z_ret (V_use (V_or (V_cal (V_var rfl) (c_au hv)) fun _ => V_or (V_cal (V_var rfl) (c_sz hv.t)) fun _ => V_cal (V_var rfl) (c_shr hv)) ⟨DI.Fr.refl, rfl⟩)
  refine z_nil ?_
  dsimp only
  unfold t_is_style_value_14
  refine z_iteT (t_eqS hS (V_var rfl)) (fun h4 => ?_) fun h4 => ?_
  · have e3 : styleV w v pl = (isAu v || isSz v) := by unfold styleV; rw [h1, if_neg (by decide), h2, if_neg (by decide), if_neg (show ¬ ((w == "width") || ((w == "height") && pl)) = true from fun z => by have := h3.symm.trans z; cases this), if_pos (show (w == "height") = true from h4)]
    rw [e3]
    unfold t_is_style_value_4
    exact z_ret (V_use (V_or (V_cal (V_var rfl) (c_au hv)) fun _ => V_cal (V_var rfl) (c_sz hv.t)) ⟨DI.Fr.refl, rfl⟩)
  refine z_nil ?_
  dsimp only
  unfold t_is_style_value_13
  have h3' : ¬ ((w == "width") || ((w == "height") && pl)) = true := fun z => by have := h3.symm.trans z; cases this
  have h4' : ¬ (w == "height") = true := fun z => by have := h4.symm.trans z; cases this
  refine z_iteT (t_in2 rfl) (fun h5 => ?_) fun h5 => ?_
  · have e3 : styleV w v pl = (isN v || isSz v) := by unfold styleV; rw [h1, if_neg (by decide), h2, if_neg (by decide), if_neg h3', if_neg h4', if_pos h5]
    rw [e3]
    unfold t_is_style_value_5
    exact z_ret (V_use (V_or (v_is (V_var rfl)) fun _ => V_cal (V_var rfl) (c_sz hv.t)) ⟨DI.Fr.refl, rfl⟩)
  refine z_nil ?_
  dsimp only
  unfold t_is_style_value_12
  refine z_iteT (t_eqS hS (V_var rfl)) (fun h6 => ?_) fun h6 => ?_
  · have e3 : styleV w v pl = tb v := by unfold styleV; rw [h1, if_neg (by decide), h2, if_neg (by decide), if_neg h3', if_neg h4', h5, if_neg (by decide), if_pos (show (w == "clip") = true from h6)]
    rw [e3]
    unfold t_is_style_value_6
    exact z_ret (V_use (v_tb hv.t (V_var rfl)) ⟨DI.Fr.refl, rfl⟩)
  refine z_nil ?_
  dsimp only
  unfold t_is_style_value_11
  have h6' : ¬ (w == "clip") = true := fun z => by have := h6.symm.trans z; cases this
  refine z_iteT (t_eqS hS (V_var rfl)) (fun h7 => ?_) fun h7 => ?_
  · have e3 : styleV w v pl = (isSz v && geD 1 v) := by unfold styleV; rw [h1, if_neg (by decide), h2, if_neg (by decide), if_neg h3', if_neg h4', h5, if_neg (by decide), if_neg h6', if_pos (show (w == "letter") = true from h7)]
    rw [e3]
    unfold t_is_style_value_7
    refine z_ret (V_use (V_and (V_cal (V_var rfl) (c_sz hv.t)) fun h => ?_) ⟨DI.Fr.refl, rfl⟩)
    obtain ⟨i, rfl⟩ := wh_int (Bool.and_eq_true_iff.mp h).1
    exact v_geI (V_var rfl)
  refine z_nil ?_
  dsimp only
  unfold t_is_style_value_10
  have h7' : ¬ (w == "letter") = true := fun z => by have := h7.symm.trans z; cases this
  refine z_iteT (t_in2 rfl) (fun h8 => ?_) fun h8 => ?_
  · have e3 : styleV w v pl = isWh v := by unfold styleV; rw [h1, if_neg (by decide), h2, if_neg (by decide), if_neg h3', if_neg h4', h5, if_neg (by decide), if_neg h6', if_neg h7', if_pos h8]
    rw [e3]
    unfold t_is_style_value_8
    exact z_ret (V_use (V_cal (V_var rfl) (c_wh hv.t)) ⟨DI.Fr.refl, rfl⟩)
  refine z_nil ?_
  dsimp only
  have e3 : styleV w v pl = isSz v := by unfold styleV; rw [h1, if_neg (by decide), h2, if_neg (by decide), if_neg h3', if_neg h4', h5, if_neg (by decide), if_neg h6', if_neg h7', h8, if_neg (by decide)]
  rw [e3]
  unfold t_is_style_value_9
  exact z_ret (V_use (V_cal (V_var rfl) (c_sz hv.t)) ⟨DI.Fr.refl, rfl⟩)
def plc (kvs : List (Key × D)) : Bool := isS "absolute" ((lookK kvs (.inr "place")).getD .non)
def kvOk (pl : Bool) (kv : Key × D) : Bool := match kv.1 with | .inr w => (FD.lookup w).isSome && styleV w kv.2 pl | .inl _ => false
def styleD (kvs : List (Key × D)) : Bool := kvs.all (kvOk (plc kvs))
/-- a style's dict, fit to be read -/
structure KOk (S : Sto) (kvs : List (Key × D)) : Prop where
  look : ∀ kv ∈ kvs, lookK kvs kv.1 = some kv.2
  val : ∀ kv ∈ kvs, VOk S kv.2
  short : ∀ kv ∈ kvs, ∀ xs, kv.2 = .tup xs → xs.length ≤ 1000000
  key : ∀ kv ∈ kvs, ∀ w, kv.1 = .inr w → PyData.canLay0 (.str w) = true
theorem look_in {kvs : List (Key × D)} {k : Key} {d : D} (h : lookK kvs k = some d) : ∃ kv ∈ kvs, kv.1 = k ∧ kv.2 = d := by
  unfold lookK at h
  obtain ⟨kv, h1, h2⟩ := Option.map_eq_some_iff.mp h
  exact ⟨kv, List.mem_of_find?_eq_some h1, by simpa using List.find?_some h1, h2⟩
theorem VOk.get {S : Sto} {kvs : List (Key × D)} (h : KOk S kvs) (k : Key) : VOk S ((lookK kvs k).getD .non) := by
  cases hl : lookK kvs k with
  | none => exact .non
  | some d =>
    obtain ⟨kv, h1, _, h3⟩ := look_in hl
    exact h3 ▸ h.val kv h1
theorem c_style {n a : Nat} {S : Sto} {kvs : List (Key × D)} (hS : S[a]? = some (.dk kvs)) (hk : KOk S kvs) : W (calls P0 fs (n + 7) 10 [.loc a] S) (AnsF S (styleD kvs)) := by
  refine W_call (f := d_is_style) rfl rfl ?_
  show WS (dSs P0 _ t_is_style [some (.loc a), none, none, none] S) _
  have htd : td S (.loc a) = true := by simp only [td, hS, isDk]
  unfold t_is_style
  refine z_iteT (T_not (T_bl rfl (v_td (.dk hS) (V_var rfl)))) (fun h => by rw [htd] at h; cases h) fun _ => ?_
  refine z_nil ?_
  dsimp only
  unfold t_is_style_5
  have hp := VOk.get hk (.inr "place")
  refine z_set (w_dget1 (w_var ⟨_, rfl, a, _, rfl, hS, rfl, w_str ⟨_, _, hS, rfl, ?_⟩⟩))
  try simp only [List.set_cons_succ, List.set_cons_zero]
  refine z_set (V_use (V_and (q := plc kvs) (v_ts hp.t (V_var rfl)) fun h => ?_) ?_)
  · unfold plc
    revert h hp
    generalize (lookK kvs (.inr "place")).getD .non = d
    intro hp h
    cases hp with
    | str hx => exact v_eqS (sh_str hx) (V_var rfl)
    | _ => cases h
  have epl : (ts ((lookK kvs (.inr "place")).getD .non) && plc kvs) = plc kvs := by
    unfold plc
    cases (lookK kvs (.inr "place")).getD .non <;> rfl
  rw [epl]
  try simp only [List.set_cons_succ, List.set_cons_zero]
  generalize (lookK kvs (.inr "place")).getD .non = pv
  refine z_forK (a := a) rfl hS ?_
  have fin : ∀ S1, DI.Fr [] (S.set a (.fk kvs)) S1 → ∃ z, S1[a]? = some (.fk z) := fun S1 f => ⟨kvs, f.get (get_set (lt_of hS)) (by simp)⟩
  refine WS_for (fun i σ S1 => (∃ x, σ = [some (.loc a), some pv, some (.bl (plc kvs)), x]) ∧ DI.Fr [] (S.set a (.fk kvs)) S1 ∧ (kvs.take i).all (kvOk (plc kvs)) = true) ⟨⟨_, rfl⟩, DI.Fr.refl, rfl⟩ ?_ ?_ ?_
  · rintro σ S1 ⟨_, _, _⟩
    simp only [wgo, List.length_map, List.getElem?_eq_none (by simp : (kvs.map fun kv => keyD' kv.1).length ≤ kvs.length)]
  · rintro i σ S1 hi ⟨⟨x, rfl⟩, f, ha⟩
    obtain ⟨kv, hkv⟩ : ∃ kv, kvs[i]? = some kv := ⟨_, List.getElem?_eq_getElem hi⟩
    have hm := List.mem_of_getElem? hkv
    refine ⟨keyD' kv.1, _, by simp only [wgo, List.getElem?_map, hkv, Option.map_some], rfl, ?_⟩
    show WS (dSs P0 _ t_is_style_3 [some (.loc a), some pv, some (.bl (plc kvs)), some (keyD' kv.1)] S1) _
    have et : kvs.take (i + 1) = kvs.take i ++ [kv] := by rw [List.take_add_one, hkv]; rfl
    have hfk : S1[a]? = some (.fk kvs) := f.get (get_set (lt_of hS)) (by simp)
    have bad : kvOk (plc kvs) kv = false → ∀ S2, DI.Fr [] (S.set a (.fk kvs)) S2 → (∃ z, S2[a]? = some (.fk z)) ∧ AnsF S (styleD kvs) (.bl false) (S2.set a (.dk kvs)) := by
      intro hb S2 f2
      refine ⟨fin _ f2, DI.Fr.lock hS f2, ?_⟩
      have : styleD kvs = false := by
        unfold styleD
        rw [Bool.eq_false_iff]
        intro z
        rw [List.all_eq_true.mp z kv hm] at hb
        cases hb
      rw [this]
    unfold t_is_style_3
    cases hkk : kv.1 with
    | inl z =>
      have hb : kvOk (plc kvs) kv = false := by unfold kvOk; rw [hkk]
      refine z_iteT (p := true) (T_cast (T_or (p := true) (q := true) (T_cast (T_not (T_bl rfl (v_ts (.int z) (V_var rfl)))) rfl) fun h => by cases h) rfl) (fun _ => ?_) fun h => by cases h
      unfold t_is_style_2
      exact z_ret (w_blc (bad hb _ f))
    | inr w =>
      have hw := hk.key kv hm w hkk
      have hkv' : kvOk (plc kvs) kv = ((FD.lookup w).isSome && styleV w kv.2 (plc kvs)) := by unfold kvOk; rw [hkk]
      have hlk : lookK kvs (.inr w) = some kv.2 := hkk ▸ hk.look kv hm
      refine z_ite (w_or (T_use (T_not (T_bl rfl (v_ts (.str _) (V_var rfl)))) ⟨false, rfl, (fun h => by cases h), fun _ => w_or (T_use (T_cmp (p := !(FD.lookup w).isSome) (V_var rfl) (V_glo glo_F) rfl) ⟨_, rfl, fun h => ⟨_, rfl, fun _ => ?_, fun h2 => ?_⟩, fun h => ?_⟩)⟩))
      · unfold t_is_style_2
        refine z_ret (w_blc (bad ?_ _ f))
        rw [hkv']
        cases hq : (FD.lookup w).isSome with
        | true => rw [hq] at h; cases h
        | false => rfl
      · rw [h] at h2; cases h2
      · have hq : (FD.lookup w).isSome = true := by
          cases hq : (FD.lookup w).isSome with
          | true => rfl
          | false => rw [hq] at h; cases h
        refine w_not (w_tru rfl (w_cal (w_cons (V_use (V_var rfl) (w_cons (V_use (V_ix (z := kv.2) (V_var rfl) (V_var rfl) ?_) (w_cons (V_use (V_var rfl) (w_nil (W_mono (c_styleV hw (((hk.val kv hm).lock hS).mono f.all) (hk.short kv hm)) ?_))))))))))
        · show itemSem (.loc a) (.str w) S1 = some kv.2
          simp only [itemSem, hfk, dictAt, hlk, Option.bind_some, id]
        rintro r S2 ⟨f2, rfl⟩
        refine ⟨_, rfl, _, rfl, _, rfl, fun h2 => ?_, fun h2 => ?_⟩
        · unfold t_is_style_2
          refine z_ret (w_blc (bad ?_ _ (f.trans f2)))
          rw [hkv', hq]
          cases hz : styleV w kv.2 (plc kvs) with
          | true => rw [hz] at h2; cases h2
          | false => rfl
        · refine z_nil ?_
          dsimp only
          refine z_nil ⟨⟨_, rfl⟩, f.trans f2, ?_⟩
          rw [et, List.all_append, ha, List.all_cons, List.all_nil, hkv', hq]
          cases hz : styleV w kv.2 (plc kvs) with
          | true => rfl
          | false => rw [hz] at h2; cases h2
  · rintro σ S1 ⟨_, f, ha⟩
    refine ⟨fin _ f, ?_⟩
    unfold t_is_style_4
    refine z_ret (w_blc ⟨DI.Fr.lock hS f, ?_⟩)
    rw [List.take_length] at ha
    unfold styleD
    rw [ha]

/-! ### nodes -/
def textB : D → Bool | .str x => decide (x.length ≤ 400) && x.cps.toList.all (fun c => decide (32 ≤ c) && decide (c ≤ 126)) | _ => false
theorem lt1 (a b : Nat) : ([a] < [b]) ↔ a < b := by
  constructor
  · intro h
    cases h with
    | rel h => exact h
    | cons h => cases h
  · exact fun h => .rel h
theorem c_text {n : Nat} {S : Sto} {d : D} (hv : TOk S d) (hl : ∀ x, d = .str x → x.length ≤ sizeLine) : W (calls P0 fs (n + 1) 11 [d] S) (AnsF S (textB d)) := by
  refine W_call (f := d_is_text) rfl rfl ?_
  show WS (dSs P0 _ t_is_text [some d, none] S) _
  unfold t_is_text
  cases d with
  | str x =>
    have e1 : biSem .len [.str x] S = some (.int x.length, S) := by
      show (if x.length ≤ sizeLine then some (D.int x.length, S) else none) = _
      rw [if_pos (hl x rfl)]
    refine z_iteT (T_or (T_not (T_bl rfl (v_ts hv (V_var rfl)))) fun _ => T_cmp (p := decide ((400 : Int) < x.length)) (V_bi1 (V_var rfl) e1) (V_glo rfl) rfl) (fun h => ?_) fun h => ?_
    · have h' : (400 : Int) < x.length := of_decide_eq_true (by simpa [ts] using h)
      unfold t_is_text_1
      refine z_ret (w_blc ⟨DI.Fr.refl, ?_⟩)
      show D.bl false = D.bl (decide (x.length ≤ 400) && _)
      rw [decide_eq_false (by omega), Bool.false_and]
    · have h' : x.length ≤ 400 := by
        have : decide ((400 : Int) < x.length) = false := by simpa [ts] using h
        have := of_decide_eq_false this
        omega
      refine z_nil ?_
      dsimp only
      unfold t_is_text_2
      have hx : x.cps.toList.length ≤ 1000000 := by
        have : x.cps.toList.length = x.length := by rw [Array.length_toList]; rfl
        omega
      refine z_ret (w_bi (w_cons (lc_pure (xs := x.cps.toList) (fun c => D.str ⟨#[c]⟩) (fun _ => true) (fun c => .bl (decide (32 ≤ c) && decide (c ≤ 126))) (w_iex (w_var ⟨_, rfl, _, rfl, IsW.vs (xs := charsD x) (by unfold charsD; rw [List.length_map]; exact hx), fun c hc acc => ⟨_, rfl, dT0, fun _ => ?_⟩, w_nil ?_⟩)))))
      · refine V_cast (V_chn (p := decide (32 ≤ c)) V_str (V_var rfl) ?_ (fun _ => V_str) (q := decide (c ≤ 126)) ?_) rfl
        · show some (!decide ([c] < [32])) = some (decide (32 ≤ c))
          congr 1
          by_cases z : 32 ≤ c
          · rw [decide_eq_false (fun w => by have := (lt1 c 32).mp w; omega), decide_eq_true z] <;> rfl
          · rw [decide_eq_true ((lt1 c 32).mpr (by omega)), decide_eq_false z] <;> rfl
        · show some (!decide ([126] < [c])) = some (decide (c ≤ 126))
          congr 1
          by_cases z : c ≤ 126
          · rw [decide_eq_false (fun w => by have := (lt1 126 c).mp w; omega), decide_eq_true z] <;> rfl
          · rw [decide_eq_true ((lt1 126 c).mpr (by omega)), decide_eq_false z] <;> rfl
      · have e : ∀ t : Nat → Bool, (S ++ [Cell.lst ((x.cps.toList.filter fun _ => true).map fun c => D.bl (t c))])[S.length]? = some (.lst ((x.cps.toList.map t).map D.bl)) := by
          intro t
          rw [get_push, List.filter_eq_self.mpr (fun _ _ => rfl), List.map_map]; rfl
        refine ⟨_, _, bi_all (e _), DI.Fr.push, ?_⟩
        show _ = D.bl (decide (x.length ≤ 400) && _)
        rw [decide_eq_true h', Bool.true_and, List.all_map]; rfl
  | _ =>
    refine z_iteT (p := true) (T_cast (T_or (p := true) (q := true) (T_cast (T_not (T_bl rfl (v_ts hv (V_var rfl)))) rfl) fun h => by cases h) rfl) (fun _ => ?_) fun h => by cases h
    unfold t_is_text_1
    exact z_ret (w_blc ⟨DI.Fr.refl, rfl⟩)
/-- a part of a node, fit to be looked at -/
structure POk (S : Sto) (x : D) : Prop where
  t : TOk S x
  dk : ∀ a kvs, x = .loc a → S[a]? = some (.dk kvs) → KOk S kvs
  fk : ∀ a kvs, x = .loc a → S[a]? ≠ some (.fk kvs)
  str : ∀ y, x = .str y → y.length ≤ sizeLine ∧ PyData.canLay0 (.str y) = true
theorem KOk.mono {S S' : Sto} {kvs : List (Key × D)} (h : KOk S kvs) (f : DI.Fr [] S S') : KOk S' kvs := ⟨h.look, fun kv hk => (h.val kv hk).mono f.all, h.short, h.key⟩
theorem POk.mono {S S' : Sto} {x : D} (h : POk S x) (f : DI.Fr [] S S') : POk S' x := by
  have hl : ∀ a, x = .loc a → S'[a]? = S[a]? := by
    intro a e
    have := h.t
    rw [e] at this
    cases this with
    | lst z => rw [z, f.all _ _ z]
    | dk z => rw [z, f.all _ _ z]
    | fk z => rw [z, f.all _ _ z]
  exact ⟨h.t.mono f.all, fun a kvs e z => (h.dk a kvs e (hl a e ▸ z)).mono f, fun a kvs e z => h.fk a kvs e (hl a e ▸ z), h.str⟩
def stB (S : Sto) : D → Bool
  | .loc a => match S[a]? with | some (.dk kvs) => styleD kvs | _ => false
  | _ => false
theorem c_styleX {n : Nat} {S : Sto} {x : D} (h : POk S x) : W (calls P0 fs (n + 7) 10 [x] S) (AnsF S (stB S x)) := by
  have no : td S x = false → stB S x = false → W (calls P0 fs (n + 7) 10 [x] S) (AnsF S (stB S x)) := by
    intro h1 h2
    rw [h2]
    refine W_call (f := d_is_style) rfl rfl ?_
    show WS (dSs P0 _ t_is_style [some x, none, none, none] S) _
    unfold t_is_style
    refine z_iteT (p := true) (T_cast (T_not (T_bl rfl (v_td h.t (V_var rfl)))) (by rw [h1]; rfl)) (fun _ => ?_) fun h => by cases h
    unfold t_is_style_1
    exact z_ret (w_blc ⟨DI.Fr.refl, rfl⟩)
  have ht := h.t
  cases ht with
  | dk z =>
    have := c_style (n := n) z (h.dk _ _ rfl z)
    unfold stB
    simp only [z]
    exact this
  | fk z => exact absurd z (h.fk _ _ rfl)
  | lst z => exact no (by simp only [td, z, isDk]) (by simp only [stB, z])
  | _ => exact no rfl rfl
def memK (k : Str) : Bool := memS ["block", "root", "piece", "inline"] k
theorem glo_K : P0.glo "KINDS" = some (.tup ((["block", "root", "piece", "inline"] : List Str).map D.str)) := rfl
def kR (S : Sto) : List D → Bool | [st, kids] => stB S st && tt kids | _ => false
def iR (S : Sto) : List D → Bool | [st, w, h] => stB S st && (isSz w && isSz h) | _ => false
def tR : List D → Bool | [x] => textB x | _ => false
def restB (S : Sto) (k : Str) (r : List D) : Bool :=
  if memK k = true then kR S r
  else if (k == "image") = true then iR S r
  else if (k == "text") = true then tR r
  else (k == "break") && r.isEmpty
def nodeB (S : Sto) : D → Bool | .tup (.str k :: r) => restB S k r | _ => false
structure NOk (S : Sto) (d : D) : Prop where
  t : TOk S d
  part : ∀ xs, d = .tup xs → ∀ x ∈ xs, POk S x
theorem NOk.mono {S S' : Sto} {x : D} (h : NOk S x) (f : DI.Fr [] S S') : NOk S' x := ⟨h.t.mono f.all, fun xs e y hy => (h.part xs e y hy).mono f⟩
theorem lenF {n : Nat} {xs : List D} (h : xs.length ≠ n) : ((xs.length : Int) == (n : Int)) = false := by
  rw [beq_eq_false_iff_ne]
  omega
theorem t_inK {C : Nat → List D → Sto → Out D} {σ : Sl} {S : Sto} {a : Ex} {k : Str} (h : V P0 C a σ S (.str k)) : T P0 C (.cmp .In a (.glo "KINDS")) σ S (memK k) := T_cmp h (V_glo glo_K) (in_flat rfl rfl)
theorem c_node {n : Nat} {S : Sto} {d : D} (h : NOk S d) : W (calls P0 fs (n + 8) 12 [d] S) (AnsF S (nodeB S d)) := by
  refine W_call (f := d_is_node) rfl rfl ?_
  show WS (dSs P0 _ t_is_node [some d] S) _
  have no : nodeB S d = false → T P0 (calls P0 fs (n + 7)) (.or_ (.not_ (.bi .isi (.cons (.var 0) (.cons (.bty "tuple") .nil)))) (.or_ (.cmp .Eq (.var 0) (.tup .nil)) (.not_ (.bi .isi (.cons (.ix (.var 0) (.cst (.int 0))) (.cons (.bty "str") .nil)))))) [some d] S true →
      WS (dSs P0 (calls P0 fs (n + 7)) t_is_node [some d] S) { nx := fun _ S1 => AnsF S (nodeB S d) .non S1, rt := AnsF S (nodeB S d) } := by
    intro h1 h2
    rw [h1]
    unfold t_is_node
    refine z_iteT h2 (fun _ => ?_) fun h => by cases h
    unfold t_is_node_1
    exact z_ret (w_blc ⟨DI.Fr.refl, rfl⟩)
  by_cases htt : tt d = true
  · cases d <;> first | (cases htt; done) | skip
    rename_i xs
    have e0 : V P0 (calls P0 fs (n + 7)) (.tup .nil) [some (.tup xs)] S (.tup []) := w_tup (w_nil ⟨sz (by show 0 ≤ 1000000; omega), rfl, rfl⟩)
    have c0 : T P0 (calls P0 fs (n + 7)) (.not_ (.bi .isi (.cons (.var 0) (.cons (.bty "tuple") .nil)))) [some (.tup xs)] S false := T_not (T_bl rfl (v_tt h.t (V_var rfl)))
    cases xs with
    | nil => exact no rfl (T_or c0 fun _ => T_cast (T_or (p := true) (q := true) (T_cmp (V_var rfl) e0 rfl) fun h => by cases h) rfl)
    | cons x r =>
      have px := h.part _ rfl x List.mem_cons_self
      have hix : ∀ {S' : Sto}, V P0 (calls P0 fs (n + 7)) (.ix (.var 0) (.cst (.int 0))) [some (.tup (x :: r))] S' x := v_ixT (V_var rfl) (DI.atI_nat (k := 0) rfl)
      have c1 : T P0 (calls P0 fs (n + 7)) (.cmp .Eq (.var 0) (.tup .nil)) [some (.tup (x :: r))] S false := T_cmp (V_var rfl) e0 rfl
      have c2 : T P0 (calls P0 fs (n + 7)) (.not_ (.bi .isi (.cons (.ix (.var 0) (.cst (.int 0))) (.cons (.bty "str") .nil)))) [some (.tup (x :: r))] S (!ts x) := T_not (T_bl rfl (v_ts px.t hix))
      by_cases hts : ts x = true
      · cases x <;> first | (cases hts; done) | skip
        rename_i k
        have hk := (px.str k rfl).2
        have hS : ∀ S', Sh S' (.str k) := fun S' => sh_str hk
        show WS _ { nx := fun _ S1 => AnsF S (restB S k r) .non S1, rt := AnsF S (restB S k r) }
        unfold t_is_node
        refine z_iteT (T_or c0 fun _ => T_or c1 fun _ => c2) (fun h => by cases h) fun _ => ?_
        refine z_nil ?_
        dsimp only
        unfold t_is_node_8
        refine z_iteT (t_inK hix) (fun h1 => ?_) fun h1 => ?_
        · unfold t_is_node_2
          have e : restB S k r = kR S r := by unfold restB; rw [if_pos h1]
          rw [e]
          match r, h with
          | [st, kids], h =>
            have p1 := h.part _ rfl st (by simp)
            have p2 := h.part _ rfl kids (by simp)
            refine z_ret (w_and (V_use (v_lenT (V_var rfl)) ⟨true, rfl, (fun _ => w_and (w_cal (w_cons (V_use (v_ixT (V_var rfl) rfl) (w_nil (W_mono (c_styleX p1) fun q S' ⟨f, eq⟩ => ⟨stB S st, by rw [eq]; rfl, fun hb => ?_, fun hb => ⟨f, by rw [eq]; show D.bl (stB S st) = D.bl (stB S st && tt kids); rw [hb]; rfl⟩⟩)))))), fun h => by cases h⟩))
            exact V_use (v_tt (p2.mono f).t (v_ixT (V_var rfl) rfl)) ⟨f, by show D.bl (tt kids) = D.bl (stB S st && tt kids); rw [hb]; rfl⟩
          | [], _ => exact z_ret (w_and (V_use (v_lenT (V_var rfl)) ⟨false, rfl, (fun h => by cases h), fun _ => ⟨DI.Fr.refl, rfl⟩⟩))
          | [_], _ => exact z_ret (w_and (V_use (v_lenT (V_var rfl)) ⟨false, rfl, (fun h => by cases h), fun _ => ⟨DI.Fr.refl, rfl⟩⟩))
          | a :: b :: c :: r', _ =>
            have hl := lenF (n := 3) (xs := .str k :: a :: b :: c :: r') (by simp)
            exact z_ret (w_and (V_use (V_cast (v_lenT (V_var rfl)) (congrArg D.bl hl)) ⟨false, rfl, (fun h => by cases h), fun _ => ⟨DI.Fr.refl, rfl⟩⟩))
        refine z_nil ?_
        dsimp only
        unfold t_is_node_7
        have e1 : restB S k r = if (k == "image") = true then iR S r
            else if (k == "text") = true then tR r else (k == "break") && r.isEmpty := by unfold restB; rw [h1, if_neg (by decide)]
        refine z_iteT (t_eqS (hS S) hix) (fun h2 => ?_) fun h2 => ?_
        · unfold t_is_node_3
          rw [e1, if_pos (show (k == "image") = true from h2)]
          match r, h with
          | [st, w, hh], h =>
            have p1 := h.part _ rfl st (by simp)
            have p2 := h.part _ rfl w (by simp)
            have p3 := h.part _ rfl hh (by simp)
            refine z_ret (w_and (V_use (v_lenT (V_var rfl)) ⟨true, rfl, (fun _ => w_and (w_cal (w_cons (V_use (v_ixT (V_var rfl) rfl) (w_nil (W_mono (c_styleX p1) fun q S' ⟨f, eq⟩ => ⟨stB S st, by rw [eq]; rfl, fun hb => ?_, fun hb => ⟨f, by rw [eq]; show D.bl (stB S st) = D.bl (stB S st && (isSz w && isSz hh)); rw [hb]; rfl⟩⟩)))))), fun h => by cases h⟩))
            exact V_use (V_and (V_cal (v_ixT (V_var rfl) rfl) (c_sz (p2.mono f).t)) fun _ => V_cal (v_ixT (V_var rfl) rfl) (c_sz (p3.mono f).t)) ⟨f, by show D.bl (isSz w && isSz hh) = D.bl (stB S st && (isSz w && isSz hh)); rw [hb]; rfl⟩
          | [], _ => exact z_ret (w_and (V_use (v_lenT (V_var rfl)) ⟨false, rfl, (fun h => by cases h), fun _ => ⟨DI.Fr.refl, rfl⟩⟩))
          | [_], _ => exact z_ret (w_and (V_use (v_lenT (V_var rfl)) ⟨false, rfl, (fun h => by cases h), fun _ => ⟨DI.Fr.refl, rfl⟩⟩))
          | [_, _], _ => exact z_ret (w_and (V_use (v_lenT (V_var rfl)) ⟨false, rfl, (fun h => by cases h), fun _ => ⟨DI.Fr.refl, rfl⟩⟩))
          | a :: b :: c :: d :: r', _ =>
            have hl := lenF (n := 4) (xs := .str k :: a :: b :: c :: d :: r') (by simp)
            exact z_ret (w_and (V_use (V_cast (v_lenT (V_var rfl)) (congrArg D.bl hl)) ⟨false, rfl, (fun h => by cases h), fun _ => ⟨DI.Fr.refl, rfl⟩⟩))
        refine z_nil ?_
        dsimp only
        unfold t_is_node_6
        rw [e1, if_neg (fun z => by have := h2.symm.trans (show isS "image" (.str k) = true from z); cases this)]
        refine z_iteT (t_eqS (hS S) hix) (fun h3 => ?_) fun h3 => ?_
        · unfold t_is_node_4
          rw [if_pos (show (k == "text") = true from h3)]
          match r, h with
          | [y], h =>
            have p1 := h.part _ rfl y (by simp)
            refine z_ret (w_and (V_use (v_lenT (V_var rfl)) ⟨true, rfl, (fun _ => w_cal (w_cons (V_use (v_ixT (V_var rfl) rfl) (w_nil (W_mono (c_text p1.t fun y e => (p1.str y e).1) fun q S' ⟨f, eq⟩ => ⟨f, eq⟩))))), fun h => by cases h⟩))
          | [], _ => exact z_ret (w_and (V_use (v_lenT (V_var rfl)) ⟨false, rfl, (fun h => by cases h), fun _ => ⟨DI.Fr.refl, rfl⟩⟩))
          | a :: b :: r', _ =>
            have hl := lenF (n := 2) (xs := .str k :: a :: b :: r') (by simp)
            exact z_ret (w_and (V_use (V_cast (v_lenT (V_var rfl)) (congrArg D.bl hl)) ⟨false, rfl, (fun h => by cases h), fun _ => ⟨DI.Fr.refl, rfl⟩⟩))
        refine z_nil ?_
        dsimp only
        unfold t_is_node_5
        rw [if_neg (fun z => by have := h3.symm.trans (show isS "text" (.str k) = true from z); cases this)]
        refine z_ret (V_use (V_and (v_eqS (hS S) hix) fun _ => V_cast (v_lenT (V_var rfl)) ?_) ⟨DI.Fr.refl, rfl⟩)
        cases r with
        | nil => rfl
        | cons a r' => exact congrArg D.bl (lenF (n := 1) (by simp))
      · have hts' : ts x = false := by cases hb : ts x with | true => exact absurd hb hts | false => rfl
        exact no (by cases x <;> first | rfl | cases hts') (T_or c0 fun _ => T_or c1 fun _ => T_cast c2 (by rw [hts']; rfl))
  · have htt' : tt d = false := by cases hb : tt d with | true => exact absurd hb htt | false => rfl
    refine no (by cases d <;> first | rfl | cases htt') (T_cast (T_or (p := true) (q := true) (T_cast (T_not (T_bl rfl (v_tt h.t (V_var rfl)))) (by rw [htt']; rfl)) fun h => by cases h) rfl)
/-! ### what a good node tells -/
theorem st_of {S : Sto} {st : D} (h : stB S st = true) : ∃ a kvs, st = .loc a ∧ S[a]? = some (.dk kvs) ∧ styleD kvs = true := by
  cases st <;> first | (cases h; done) | skip
  rename_i a
  simp only [stB] at h
  split at h
  · exact ⟨a, _, rfl, by assumption, h⟩
  · cases h
def hasSt (k : Str) : Bool := memK k || (k == "image")
theorem rest_st {S : Sto} {k : Str} {r : List D} (h : restB S k r = true) (hk : hasSt k = true) : ∃ a kvs r', r = .loc a :: r' ∧ S[a]? = some (.dk kvs) ∧ styleD kvs = true := by
  unfold restB at h
  by_cases h1 : memK k = true
  · rw [if_pos h1] at h
    match r, h with
    | [st, kids], h =>
      obtain ⟨a, kvs, rfl, e1, e2⟩ := st_of (Bool.and_eq_true_iff.mp (show (stB S st && tt kids) = true from h)).1
      exact ⟨a, kvs, _, rfl, e1, e2⟩
    | [], h => cases h
    | [_], h => cases h
    | _ :: _ :: _ :: _, h => cases h
  · have h2 : (k == "image") = true := by
      unfold hasSt at hk
      rcases Bool.or_eq_true_iff.mp hk with z | z
      · exact absurd z h1
      · exact z
    rw [if_neg h1, if_pos h2] at h
    match r, h with
    | [st, w, hh], h =>
      obtain ⟨a, kvs, rfl, e1, e2⟩ := st_of (Bool.and_eq_true_iff.mp (show (stB S st && (isSz w && isSz hh)) = true from h)).1
      exact ⟨a, kvs, _, rfl, e1, e2⟩
    | [], h => cases h
    | [_], h => cases h
    | [_, _], h => cases h
    | _ :: _ :: _ :: _ :: _, h => cases h
theorem rest_kids {S : Sto} {k : Str} {r : List D} (h : restB S k r = true) (hk : memK k = true) : ∃ st ks, r = [st, .tup ks] := by
  unfold restB at h
  rw [if_pos hk] at h
  match r, h with
  | [st, kids], h =>
    have h2 := (Bool.and_eq_true_iff.mp (show (stB S st && tt kids) = true from h)).2
    cases kids <;> first | (cases h2; done) | exact ⟨_, _, rfl⟩
  | [], h => cases h
  | [_], h => cases h
  | _ :: _ :: _ :: _, h => cases h
/-- the style's words -/
def sf (S : Sto) (k : Str) (r : List D) : List (Key × D) :=
  if hasSt k = true then (match r with | .loc a :: _ => (match S[a]? with | some (.dk kvs) => kvs | _ => []) | _ => []) else []
def fieldS (S : Sto) (k : Str) (r : List D) (w : Str) : D := (lookK (sf S k r) (.inr w)).getD .non
def outB (S : Sto) (k : Str) (r : List D) : Bool := isS "absolute" (fieldS S k r "place") || !isN (fieldS S k r "float")
def topB (S : Sto) (k : Str) (r : List D) : Bool := memS ["block", "root"] k && (isN (fieldS S k r "float") && isN (fieldS S k r "place"))
theorem c_styleOf {n : Nat} {S : Sto} {k : Str} {r : List D} (h : NOk S (.tup (.str k :: r))) (hr : restB S k r = true) :
    W (calls P0 fs (n + 1) 13 [.tup (.str k :: r)] S) fun q S' => DI.Fr [] S S' ∧ ∃ a, q = .loc a ∧ S'[a]? = some (.dk (sf S k r)) := by
  refine W_call (f := d_style_of) rfl rfl ?_
  show WS (dSs P0 _ t_style_of [some (.tup (.str k :: r))] S) _
  have hk := ((h.part _ rfl (.str k) List.mem_cons_self).str k rfl).2
  have hix : V P0 (calls P0 fs n) (.ix (.var 0) (.cst (.int 0))) [some (.tup (.str k :: r))] S (.str k) := v_ixT (V_var rfl) (DI.atI_nat (k := 0) rfl)
  unfold t_style_of
  refine z_ret (w_iteT (p := hasSt k) (T_or (t_inK hix) fun _ => t_eqS (sh_str hk) hix) (fun hs => ?_) fun hs => ?_)
  · obtain ⟨a, kvs, r', rfl, e1, e2⟩ := rest_st hr hs
    refine V_use (v_ixT (d := .loc a) (V_var rfl) (DI.atI_nat (k := 1) rfl)) ⟨DI.Fr.refl, a, rfl, ?_⟩
    unfold sf
    rw [if_pos hs]
    simp only [e1]
  · refine w_dct0 ⟨DI.Fr.push, _, rfl, ?_⟩
    rw [get_push]
    unfold sf
    rw [hs, if_neg (by decide)]
/-- a good style's place is None or a text -/
theorem place_sh {S : Sto} {k : Str} {r : List D} (h : NOk S (.tup (.str k :: r))) (hr : restB S k r = true) : Sh S (fieldS S k r "place") := by
  unfold fieldS
  cases hl : lookK (sf S k r) (.inr "place") with
  | none => exact sh_non
  | some d =>
    show Sh S d
    obtain ⟨kv, h1, h2, h3⟩ := look_in hl
    by_cases hs : hasSt k = true
    · obtain ⟨a, kvs, r', rfl, e1, e2⟩ := rest_st hr hs
      have e3 : sf S k (.loc a :: r') = kvs := by
        unfold sf
        rw [if_pos hs]
        simp only [e1]
      rw [e3] at h1
      have ko := (h.part _ rfl (.loc a) (by simp)).dk a kvs rfl e1
      have hv := ko.val kv h1
      have hb := List.all_eq_true.mp e2 kv h1
      unfold kvOk at hb
      rw [h2] at hb
      have hw := (Bool.and_eq_true_iff.mp hb).2
      have hq : (WD.lookup ("place" : Str)).isSome = true := by decide +kernel
      unfold styleV at hw
      rw [if_pos hq] at hw
      rw [← h3]
      revert hv hw
      generalize kv.2 = v
      intro hv hw
      unfold wordV at hw
      cases hv with
      | non => exact sh_non
      | str hx => exact sh_str hx
      | _ =>
        exfalso
        split at hw
        · cases hw
        · cases hw
    · unfold sf at h1
      rw [if_neg hs] at h1
      cases h1
theorem c_get {C : Nat → List D → Sto → Out D} {σ : Sl} {S : Sto} {a i : Nat} {kvs : List (Key × D)} {w : Str} (h1 : σ[i]? = some (some (.loc a))) (h2 : S[a]? = some (.dk kvs)) : V P0 C (.dget1 (.var i) (.cst (.str w))) σ S ((lookK kvs (.inr w)).getD .non) :=
  w_dget1 (w_var ⟨_, h1, a, _, rfl, h2, rfl, w_str ⟨_, _, h2, rfl, rfl, rfl⟩⟩)
theorem c_out {n : Nat} {S : Sto} {k : Str} {r : List D} (h : NOk S (.tup (.str k :: r))) (hr : restB S k r = true) : W (calls P0 fs (n + 2) 15 [.tup (.str k :: r)] S) (AnsF S (outB S k r)) := by
  refine W_call (f := d_is_out) rfl rfl ?_
  show WS (dSs P0 _ t_is_out [some (.tup (.str k :: r)), none] S) _
  unfold t_is_out
  refine z_set (w_cal (w_cons (V_use (V_var rfl) (w_nil (W_mono (c_styleOf h hr) ?_)))))
  rintro q S' ⟨f, a, rfl, e⟩
  try simp only [List.set_cons_succ, List.set_cons_zero]
  exact z_ret (V_use (V_or (v_eqS ((place_sh h hr).mono f.all) (c_get rfl e)) fun _ => v_isnt (c_get rfl e)) ⟨f, rfl⟩)
theorem w_get {n : Nat} {σ : Sl} {S : Sto} {k : Str} {r : List D} {w : Str} {b : Bool} {Q : D → Sto → Prop} {i : Nat} (h : NOk S (.tup (.str k :: r))) (hr : restB S k r = true) (hi : σ[i]? = some (some (.tup (.str k :: r)))) (hQ : ∀ S', DI.Fr [] S S' → Q (.bl (isN (fieldS S k r w))) S') :
    W (de P0 (calls P0 fs (n + 1)) (.cmp .Is (.dget1 (.cal 13 (.cons (.var i) .nil)) (.cst (.str w))) (.cst .non)) b σ S) Q := by
  refine w_cmp (w_dget1 (w_cal (w_cons (V_use (V_var hi) (w_nil (W_mono (c_styleOf h hr) ?_))))))
  rintro q S' ⟨f, a, rfl, e⟩
  refine ⟨a, _, rfl, e, rfl, w_str ⟨_, _, e, rfl, w_non ⟨isN (fieldS S k r w), ?_, hQ _ f⟩⟩⟩
  unfold fieldS
  cases (lookK (sf S k r) (.inr w)).getD .non <;> rfl
/-- a node's style is read alike in a greater store -/
theorem sf_fr {S S' : Sto} {k : Str} {r : List D} (h : NOk S (.tup (.str k :: r))) (f : DI.Fr [] S S') : sf S' k r = sf S k r := by
  unfold sf
  by_cases hs : hasSt k = true
  · rw [if_pos hs, if_pos hs]
    cases r with
    | nil => rfl
    | cons x r' =>
      cases x <;> first | rfl | skip
      rename_i a
      have ht := (h.part _ rfl (.loc a) (by simp)).t
      cases ht with
      | lst z => simp only [z, f.all _ _ z]
      | dk z => simp only [z, f.all _ _ z]
      | fk z => simp only [z, f.all _ _ z]
  · rw [if_neg hs, if_neg hs]
theorem stB_fr {S S' : Sto} {x : D} (h : POk S x) (f : DI.Fr [] S S') : stB S' x = stB S x := by
  have ht := h.t
  cases ht with
  | lst z => simp only [stB, z, f.all _ _ z]
  | dk z => simp only [stB, z, f.all _ _ z]
  | fk z => simp only [stB, z, f.all _ _ z]
  | _ => rfl
theorem restB_fr {S S' : Sto} {k : Str} {r : List D} (h : NOk S (.tup (.str k :: r))) (f : DI.Fr [] S S') : restB S' k r = restB S k r := by
  have hp : ∀ x ∈ r, stB S' x = stB S x := fun x hx => stB_fr (h.part _ rfl x (List.mem_cons_of_mem _ hx)) f
  have e1 : kR S' r = kR S r := by
    match r, hp with
    | [st, kids], hp => show (stB S' st && tt kids) = _; rw [hp st (by simp)]; rfl
    | [], _ => rfl
    | [_], _ => rfl
    | _ :: _ :: _ :: _, _ => rfl
  have e2 : iR S' r = iR S r := by
    match r, hp with
    | [st, w, hh], hp => show (stB S' st && (isSz w && isSz hh)) = _; rw [hp st (by simp)]; rfl
    | [], _ => rfl
    | [_], _ => rfl
    | [_, _], _ => rfl
    | _ :: _ :: _ :: _ :: _, _ => rfl
  unfold restB
  rw [e1, e2]
theorem nodeB_fr {S S' : Sto} {d : D} (h : NOk S d) (f : DI.Fr [] S S') : nodeB S' d = nodeB S d := by
  unfold nodeB
  split
  · exact restB_fr h f
  · rfl
theorem outB_fr {S S' : Sto} {k : Str} {r : List D} (h : NOk S (.tup (.str k :: r))) (f : DI.Fr [] S S') : outB S' k r = outB S k r := by
  unfold outB fieldS
  rw [sf_fr h f]
theorem topB_fr {S S' : Sto} {k : Str} {r : List D} (h : NOk S (.tup (.str k :: r))) (f : DI.Fr [] S S') : topB S' k r = topB S k r := by
  unfold topB fieldS
  rw [sf_fr h f]
theorem c_top {n : Nat} {S : Sto} {k : Str} {r : List D} (h : NOk S (.tup (.str k :: r))) (hr : restB S k r = true) : W (calls P0 fs (n + 2) 14 [.tup (.str k :: r)] S) (AnsF S (topB S k r)) := by
  refine W_call (f := d_may_be_top) rfl rfl ?_
  show WS (dSs P0 _ t_may_be_top [some (.tup (.str k :: r))] S) _
  have hix : V P0 (calls P0 fs (n + 1)) (.ix (.var 0) (.cst (.int 0))) [some (.tup (.str k :: r))] S (.str k) := v_ixT (V_var rfl) (DI.atI_nat (k := 0) rfl)
  unfold t_may_be_top
  refine z_ret (w_and (V_use (V_cmp (p := memS ["block", "root"] k) hix v_tup2 (in_flat rfl rfl)) ⟨_, rfl, fun h1 => ?_, fun h1 => ⟨DI.Fr.refl, by unfold topB; rw [h1]; rfl⟩⟩))
  refine w_and (w_get h hr rfl fun S1 f1 => ⟨_, rfl, fun h2 => ?_, fun h2 => ⟨f1, by unfold topB; rw [h1, h2]; rfl⟩⟩)
  refine w_get (h.mono f1) (by rw [restB_fr h f1]; exact hr) rfl fun S2 f2 => ⟨f1.trans f2, ?_⟩
  unfold topB
  rw [h1, h2]
  unfold fieldS
  rw [sf_fr h f1]; rfl
/-! ### check -/
structure En where
  p : List Nat
  d : D
  a : Option Str
def pathD (p : List Nat) : D := .tup (p.map fun n => D.int (n : Nat))
def aboveD : Option Str → D | none => .non | some k => .str k
def En.e (e : En) : D := .tup [pathD e.p, e.d, aboveD e.a]
def blk (k : Str) : Bool := memS ["block", "root"] k
def inl (a : Option Str) : Bool := isS "inline" (aboveD a)
def ruleB (S : Sto) (a : Option Str) : D → Bool
  | .tup (.str k :: r) => (isN (aboveD a) && !topB S k r) || (inl a && (blk k && !outB S k r))
  | _ => false
def bad1 (S : Sto) (e : En) (c : Nat) : Bool := decide (120 < c) || (decide (10 < e.p.length) || (!nodeB S e.d || ruleB S e.a e.d))
def kidsE (p : List Nat) : D → List En
  | .tup (.str k :: _ :: .tup ks :: _) => if memK k = true then (ixs ks).map fun q => ⟨p ++ [q.1], q.2, some k⟩ else []
  | _ => []
/-- the walk in preorder: none where the turns do not last -/
def go (S : Sto) : Nat → Nat → List En → Option (Option (List Nat))
  | _, _, [] => some none
  | 0, _, _ :: _ => none
  | f + 1, c, e :: r => if bad1 S e (c + 1) = true then some (some e.p) else go S f (c + 1) (kidsE e.p e.d ++ r)
/-- a tree all of whose nodes may be looked at -/
inductive TrOk (S : Sto) : D → Prop
  | mk {d : D} : NOk S d → (∀ k st ks r, d = .tup (.str k :: st :: .tup ks :: r) → ks.length ≤ 1000) → (∀ k st ks r, d = .tup (.str k :: st :: .tup ks :: r) → ∀ c ∈ ks, TrOk S c) → TrOk S d
theorem TrOk.n {S : Sto} {d : D} (h : TrOk S d) : NOk S d := by cases h with | mk h _ _ => exact h
theorem TrOk.kids {S : Sto} {d : D} (h : TrOk S d) {k : Str} {st : D} {ks r : List D} (e : d = .tup (.str k :: st :: .tup ks :: r)) : ks.length ≤ 1000 ∧ ∀ c ∈ ks, TrOk S c := by cases h with | mk _ h1 h2 => exact ⟨h1 k st ks r e, h2 k st ks r e⟩
theorem nodeB_tup {S : Sto} {d : D} (h : nodeB S d = true) : ∃ k r, d = .tup (.str k :: r) ∧ restB S k r = true := by
  unfold nodeB at h
  split at h
  · exact ⟨_, _, rfl, h⟩
  · cases h
theorem ruleB_fr {S S' : Sto} {a : Option Str} {d : D} (h : NOk S d) (f : DI.Fr [] S S') : ruleB S' a d = ruleB S a d := by
  unfold ruleB
  split
  · rw [topB_fr h f, outB_fr h f]
  · rfl
theorem ixs_len (ks : List D) : (ixs ks).length = ks.length := by unfold ixs; rw [List.length_mapIdx]
theorem ixs_mem {ks : List D} {q : Nat × D} (h : q ∈ ixs ks) : q.2 ∈ ks := by
  unfold ixs at h
  obtain ⟨i, hi, rfl⟩ := List.mem_mapIdx.mp h
  exact List.getElem_mem hi
abbrev stk (st : List En) : List D := (st.map En.e).reverse
structure Ck (S0 : Sto) (res : Option (List Nat)) (d : D) (f : Nat) (σ : Sl) (S1 : Sto) : Prop where
  ex : ∃ (c wa : Nat) (st : List En) (x3 x4 x5 x6 x7 x8 : Option D), σ = [some d, some (.loc wa), some (.int (c : Nat)), x3, x4, x5, x6, x7, x8] ∧ go S0 f c st = some res ∧ c ≤ 120 ∧ S0.length ≤ wa ∧ S1[wa]? = some (.lst (stk st)) ∧ st.length ≤ 1000 * c + 1 ∧
    (∀ e ∈ st, TrOk S0 e.d) ∧ ∀ e ∈ st, ∀ k, e.a = some k → PyData.canLay0 (.str k) = true
  fr : DI.Fr [] S0 S1
theorem memK_lay {k : Str} (h : memK k = true) : PyData.canLay0 (.str k) = true := by
  unfold memK memS at h
  simp only [List.any_cons, List.any_nil, Bool.or_false, Bool.or_eq_true, beq_iff_eq] at h
  rcases h with rfl | rfl | rfl | rfl <;> decide +kernel
theorem len_path (p : List Nat) {C : Nat → List D → Sto → Out D} {σ : Sl} {S : Sto} {i : Nat} (h : σ[i]? = some (some (pathD p))) : T P0 C (.cmp .Gt (.bi .len (.cons (.var i) .nil)) (.glo "MOST_LEVELS")) σ S (decide (10 < p.length)) := by
  refine T_cast (T_cmp (p := decide ((10 : Int) < p.length)) (V_bi1 (z := .int p.length) (V_var h) (by show some (D.int ((p.map fun n => D.int (n : Nat)).length : Nat), S) = _; rw [List.length_map])) (V_glo rfl) rfl) ?_
  rw [Bool.eq_iff_iff, decide_eq_true_eq, decide_eq_true_eq]
  omega
theorem lst_l {S : Sto} {a : Nat} {xs : List D} (h : S[a]? = some (.lst xs)) : listD (.loc a) S = some xs := by simp only [listD, h]
theorem t_is {C : Nat → List D → Sto → Out D} {σ : Sl} {S : Sto} {a : Ex} {d : D} (ha : V P0 C a σ S d) : T P0 C (.cmp .Is a (.cst .non)) σ S (isN d) := T_cmp ha V_non (by cases d <;> rfl)
theorem c_check {n : Nat} {S : Sto} {d : D} {f : Nat} {res : Option (List Nat)} (hd : TrOk S d) (hg : go S f 0 [⟨[], d, none⟩] = some res) :
    DI.WE (calls P0 fs (n + 9) 16 [d] S) (fun r S' => r = .non ∧ DI.Fr [] S S' ∧ res = none) (fun c l S' => c = 1 ∧ DI.Fr [] S S' ∧ ∃ p, res = some p ∧ l = some [(("path" : Str), pathD p)]) := by
  refine WE_call (f := d_check) rfl rfl ?_
  show WS (dSs P0 _ t_check [some d, none, none, none, none, none, none, none, none] S) _
  unfold t_check
  refine z_set (w_lst (w_cons (w_tup (w_cons (w_tup (w_nil ⟨sz (by show 0 ≤ 1000000; omega), w_cons (V_use (V_var rfl) (w_cons (w_non (w_nil ⟨sz (by show 3 ≤ 1000000; omega), w_nil ⟨sz (by show 1 ≤ 1000000; omega), ?_⟩⟩))))⟩))))))
  try simp only [List.set_cons_succ, List.set_cons_zero]
  refine z_set (w_int ?_)
  try simp only [List.set_cons_succ, List.set_cons_zero]
  refine z_whl (WS_whl (Ck S res d) (m := f) ⟨⟨0, S.length, [⟨[], d, none⟩], _, _, _, _, _, _, rfl, hg, by omega, Nat.le_refl _, by rw [get_push]; rfl, by simp, fun e he => ?_, fun e he k hk => ?_⟩, DI.Fr.push⟩ ?_)
  · rw [List.mem_singleton] at he; subst he; exact hd
  · rw [List.mem_singleton] at he; subst he; cases hk
  rintro f1 σ S1 ⟨⟨c, wa, st, x3, x4, x5, x6, x7, x8, rfl, hgo, hc, hwa, hl, hlen, htr, hlay⟩, fr⟩
  rw [W_tst]
  refine w_tru rfl (w_var ⟨_, rfl, _, tru_l hl, ?_⟩)
  cases st with
  | nil =>
    show if false = true then _ else _
    rw [if_neg (by decide)]
    have : res = none := by
      cases f1 <;> (simp only [go, Option.some.injEq] at hgo; exact hgo.symm)
    exact z_nil (P := P0) (C := calls P0 fs (n + 8)) ⟨by first | rfl | trivial, fr, this⟩
  | cons e r =>
    have hne : (!(stk (e :: r)).isEmpty) = true := by simp [stk]
    rw [hne]
    dsimp only
    rw [if_pos rfl]
    cases f1 with
    | zero => cases hgo
    | succ f1 =>
    simp only [go] at hgo
    have hte := htr e List.mem_cons_self
    have hlw := lt_of hl
    have hstk : stk (e :: r) = stk r ++ [e.e] := by simp [stk]
    rw [hstk] at hl
    unfold t_check_8
    refine z_setT (w_bm (w_var ⟨_, rfl, wa, _, rfl, hl, w_nil ⟨_, _, bm_pop hl, _, rfl, ?_⟩⟩))
    try simp only [List.set_cons_succ, List.set_cons_zero]
    have fr2 : DI.Fr [] S (S1.set wa (.lst (stk r))) := fr.setr (.inr hwa)
    have hl2 : (S1.set wa (.lst (stk r)))[wa]? = some (.lst (stk r)) := get_set hlw
    generalize S1.set wa (.lst (stk r)) = S2 at fr2 hl2
    refine z_augA rfl (w_int ⟨1, rfl, ?_⟩)
    try simp only [List.set_cons_succ, List.set_cons_zero]
    have ec : ((c : Nat) : Int) + 1 = ((c + 1 : Nat) : Int) := by omega
    rw [ec]
    have raise : ∀ (Q : Po) (S3 : Sto) (x6 x7 x8 : Option D), DI.Fr [] S S3 → bad1 S e (c + 1) = true → (∀ cc l S', (cc = 1 ∧ DI.Fr [] S S' ∧ ∃ p, res = some p ∧ l = some [(("path" : Str), pathD p)]) → Q.er cc l S') →
        WS (dSs P0 (calls P0 fs (n + 8)) (.cons (.raiF 1 "NoTree" "path" (.var 3)) .nil) [some d, some (.loc wa), some (.int ((c + 1 : Nat) : Int)), some (pathD e.p), some e.d, some (aboveD e.a), x6, x7, x8] S3) Q := by
      intro Q S3 x6 x7 x8 f3 hb hQ
      rw [if_pos hb] at hgo
      cases hgo
      exact z_raiF (w_var ⟨_, rfl, hQ _ _ _ ⟨rfl, f3, _, rfl, rfl⟩⟩)
    have hT1 : T P0 (calls P0 fs (n + 8)) (.cmp .Gt (.var 2) (.glo "MOST_NODES")) [some d, some (.loc wa), some (.int ((c + 1 : Nat) : Int)), some (pathD e.p), some e.d, some (aboveD e.a), x6, x7, x8] S2 (decide (120 < c + 1)) := by
      refine T_cast (T_cmp (p := decide ((120 : Int) < ((c + 1 : Nat) : Int))) (V_var rfl) (V_glo rfl) rfl) ?_
      rw [Bool.eq_iff_iff, decide_eq_true_eq, decide_eq_true_eq]
      omega
    refine z_ite (w_or (T_use hT1 ⟨_, rfl, fun h1 => ⟨_, rfl, fun _ => ?_, fun h => ?_⟩, fun h1 => ?_⟩))
    · unfold t_check_1
      exact raise _ _ _ _ _ fr2 (by unfold bad1; rw [h1]; rfl) fun _ _ _ h => h
    · rw [h1] at h; cases h
    refine w_or (T_use (len_path e.p rfl) ⟨_, rfl, fun h2 => ⟨_, rfl, fun _ => ?_, fun h => ?_⟩, fun h2 => ?_⟩)
    · unfold t_check_1
      exact raise _ _ _ _ _ fr2 (by unfold bad1; rw [h1, h2]; rfl) fun _ _ _ h => h
    · rw [h2] at h; cases h
    refine w_not (w_tru rfl (w_cal (w_cons (V_use (V_var rfl) (w_nil (W_mono (c_node (n := n) (hte.n.mono fr2)) ?_))))))
    rintro q S3 ⟨f3, rfl⟩
    rw [nodeB_fr hte.n fr2]
    have fr3 := fr2.trans f3
    have hl3 := f3.all _ _ hl2
    refine ⟨_, rfl, _, rfl, _, rfl, fun h3 => ?_, fun h3 => ?_⟩
    · unfold t_check_1
      exact raise _ _ _ _ _ fr3 (by unfold bad1; rw [h1, h2, h3]; rfl) fun _ _ _ h => h
    refine z_nil ?_
    dsimp only
    have hnb : nodeB S e.d = true := by cases hb : nodeB S e.d with | true => rfl | false => rw [hb] at h3; cases h3
    obtain ⟨k, rr, hek, hrest⟩ := nodeB_tup hnb
    have hn := hte.n
    rw [hek] at hn
    have hix : ∀ {S' : Sto} {x6 x7 x8 : Option D}, V P0 (calls P0 fs (n + 8)) (.ix (.var 4) (.cst (.int 0))) [some d, some (.loc wa), some (.int ((c + 1 : Nat) : Int)), some (pathD e.p), some e.d, some (aboveD e.a), x6, x7, x8] S' (.str k) := by
      intro S' x6 x7 x8
      exact v_ixT (xs := .str k :: rr) (by rw [← hek]; exact V_var rfl) (DI.atI_nat (k := 0) rfl)
    have hlayk := ((hn.part _ rfl (.str k) List.mem_cons_self).str k rfl).2
    have hbad : bad1 S e (c + 1) = ruleB S e.a e.d := by
      unfold bad1
      rw [h1, h2, hnb]; rfl
    have hrule : ruleB S e.a e.d = ((isN (aboveD e.a) && !topB S k rr) || (inl e.a && (blk k && !outB S k rr))) := by rw [hek]; rfl
    unfold t_check_7
    -- behind the rules
    have rest : ∀ (Q : Po) (S4 : Sto), DI.Fr [] S3 S4 → ruleB S e.a e.d = false → (∀ σ S', (∃ m', m' < f1 + 1 ∧ Ck S res d m' σ S') → Q.nx σ S') →
        WS (dSs P0 (calls P0 fs (n + 8)) t_check_5 [some d, some (.loc wa), some (.int ((c + 1 : Nat) : Int)), some (pathD e.p), some e.d, some (aboveD e.a), x6, x7, x8] S4) Q := by
      intro Q S4 f4 hr hQ
      have hgo2 := hgo
      rw [if_neg (by rw [hbad, hr]; decide)] at hgo2
      have hc2 : c + 1 ≤ 120 := by have := of_decide_eq_false h1; omega
      have fr4 := fr3.trans f4
      have hl4 := f4.all _ _ hl3
      unfold t_check_5
      refine z_iteT (t_inK hix) (fun h5 => ?_) fun h5 => ?_
      · obtain ⟨sty, ks, rfl⟩ := rest_kids hrest h5
        obtain ⟨hk1, hk2⟩ := hte.kids hek
        have hkids : kidsE e.p e.d = (ixs ks).map fun q => ⟨e.p ++ [q.1], q.2, some k⟩ := by rw [hek]; show (if memK k = true then _ else _) = _; rw [if_pos h5]
        have e2 : ((ixs ks).filter fun _ => true).map (fun q => D.tup [pathD (e.p ++ [q.1]), q.2, .str k]) = (kidsE e.p e.d).map En.e := by
          rw [List.filter_eq_self.mpr (fun _ _ => rfl), hkids, List.map_map]; rfl
        have hkl : (kidsE e.p e.d).length ≤ 1000 := by rw [hkids, List.length_map, ixs_len]; exact hk1
        unfold t_check_4
        refine z_set (lc_pure (xs := ixs ks) (fun q => .tup [.int (q.1 : Nat), q.2]) (fun _ => true) (fun q => .tup [pathD (e.p ++ [q.1]), q.2, .str k]) (w_enum (V_use (v_ixT (xs := [.str k, sty, .tup ks]) (d := .tup ks) (by rw [← hek]; exact V_var rfl) rfl) ⟨_, rfl, IsW.en (by omega), fun q hq acc => ⟨_, rfl, dT0, fun _ => ?_⟩, ?_⟩)))
        · refine w_tup (w_cons (w_bin (V_use (V_var rfl) (w_tup (w_cons (V_use (V_var rfl) (w_nil ⟨sz (by show 1 ≤ 1000000; omega), w_addT ?_ (w_cons (V_use (V_var rfl) (w_cons (V_use (x := .str k) ?_ (w_nil ⟨sz (by show 3 ≤ 1000000; omega), rfl, ?_⟩)))))⟩)))))))
          · have := of_decide_eq_false h2
            refine sz ?_
            rw [List.length_map]
            show e.p.length + 1 ≤ 1000000
            omega
          · exact v_ixT (xs := [.str k, sty, .tup ks]) (by rw [← hek]; exact V_var rfl) rfl
          · unfold pathD
            rw [List.map_append]; rfl
        rw [e2]
        try simp only [List.set_cons_succ, List.set_cons_zero]
        have f5 : DI.Fr [] S (S4 ++ [Cell.lst ((kidsE e.p e.d).map En.e)]) := fr4.pushr
        refine z_exp (w_bm (w_var ⟨_, rfl, wa, _, rfl, get_pushl hl4, w_cons (w_rev (V_use (V_var rfl) ⟨_, lst_l get_push, w_nil ⟨_, _, bm_ext (get_pushl (get_pushl hl4)) get_push ?_, z_nil (hQ _ _ ⟨f1, Nat.lt_succ_self _, ⟨c + 1, wa, kidsE e.p e.d ++ r, _, _, _, _, _, _, rfl, hgo2, hc2, hwa, ?_, ?_, ?_, ?_⟩, ?_⟩)⟩⟩))⟩))
        · refine sz ?_
          rw [List.length_reverse, List.length_reverse, List.length_map, List.length_map]
          rw [List.length_cons] at hlen
          omega
        · rw [get_set (lt_of (get_pushl (get_pushl hl4)))]
          simp [stk]
        · rw [List.length_append]
          rw [List.length_cons] at hlen
          omega
        · intro e' he'
          rcases List.mem_append.mp he' with z | z
          · rw [hkids] at z
            obtain ⟨q, hq, rfl⟩ := List.mem_map.mp z
            exact hk2 _ (ixs_mem hq)
          · exact htr e' (List.mem_cons_of_mem _ z)
        · intro e' he' k' hk'
          rcases List.mem_append.mp he' with z | z
          · rw [hkids] at z
            obtain ⟨q, hq, rfl⟩ := List.mem_map.mp z
            cases hk'
            exact hlayk
          · exact hlay e' (List.mem_cons_of_mem _ z) k' hk'
        · exact f5.pushr.setr (.inr hwa)
      · have hkids : kidsE e.p e.d = [] := by
          rw [hek]
          unfold kidsE
          split
          · rename_i k2 _ ks2 _ heq
            cases heq
            rw [if_neg (by rw [h5]; decide)]
          · rfl
        rw [hkids] at hgo2
        refine z_nil ?_
        dsimp only
        refine z_nil (hQ _ _ ⟨f1, Nat.lt_succ_self _, ⟨c + 1, wa, r, _, _, _, _, _, _, rfl, hgo2, hc2, hwa, hl4, ?_, fun e' he' => htr e' (List.mem_cons_of_mem _ he'), fun e' he' => hlay e' (List.mem_cons_of_mem _ he')⟩, fr4⟩)
        rw [List.length_cons] at hlen
        omega
    -- the second rule
    have snd : ∀ (Q : Po) (S4 : Sto), DI.Fr [] S3 S4 → (isN (aboveD e.a) && !topB S k rr) = false → (∀ σ S', (∃ m', m' < f1 + 1 ∧ Ck S res d m' σ S') → Q.nx σ S') → (∀ cc l S', (cc = 1 ∧ DI.Fr [] S S' ∧ ∃ p, res = some p ∧ l = some [(("path" : Str), pathD p)]) → Q.er cc l S') →
        WS (dSs P0 (calls P0 fs (n + 8)) t_check_6 [some d, some (.loc wa), some (.int ((c + 1 : Nat) : Int)), some (pathD e.p), some e.d, some (aboveD e.a), x6, x7, x8] S4) Q := by
      intro Q S4 f4 hr1 hQ hE
      have sha : ∀ S', Sh S' (aboveD e.a) := by
        intro S'
        cases ha : e.a with
        | none => exact sh_non
        | some k' => exact sh_str (hlay e List.mem_cons_self k' ha)
      have fine : ∀ S5, DI.Fr [] S4 S5 → (inl e.a && (blk k && !outB S k rr)) = false → WS (dSs P0 (calls P0 fs (n + 8)) .nil [some d, some (.loc wa), some (.int ((c + 1 : Nat) : Int)), some (pathD e.p), some e.d, some (aboveD e.a), x6, x7, x8] S5) { Q with nx := fun σ S => WS (dSs P0 (calls P0 fs (n + 8)) t_check_5 σ S) Q } := by
        intro S5 f5 hr2
        refine z_nil ?_
        dsimp only
        exact rest Q S5 (f4.trans f5) (by rw [hrule, hr1, hr2]; rfl) hQ
      unfold t_check_6
      refine z_ite (w_and (T_use (t_eqS (sha _) (V_var rfl)) ⟨_, rfl, fun g1 => ?_, fun g1 => ⟨_, rfl, fun h => (by rw [g1] at h; cases h), fun _ => fine _ DI.Fr.refl (by show (isS "inline" (aboveD e.a) && _) = false; rw [g1]; rfl)⟩⟩))
      refine w_and (T_use (T_cmp (p := blk k) hix v_tup2 (in_flat rfl rfl)) ⟨_, rfl, fun g2 => ?_, fun g2 => ⟨_, rfl, fun h => (by rw [g2] at h; cases h), fun _ => fine _ DI.Fr.refl (by rw [g2]; show (inl e.a && false) = false; rw [Bool.and_false])⟩⟩)
      refine w_not (w_tru rfl (w_cal (w_cons (V_use (V_var rfl) (w_nil ?_)))))
      have fr4 := fr3.trans f4
      rw [hek]
      refine W_mono (c_out (n := n + 6) (hn.mono fr4) (by rw [restB_fr hn fr4]; exact hrest)) ?_
      rintro q S5 ⟨f5, rfl⟩
      rw [outB_fr hn fr4]
      refine ⟨_, rfl, _, rfl, _, rfl, fun g3 => ?_, fun g3 => ?_⟩
      · unfold t_check_3
        rw [← hek]
        refine raise _ _ _ _ _ (fr4.trans f5) ?_ hE
        rw [hbad, hrule, g2, g3]
        show (_ || (inl e.a && true)) = true
        rw [show inl e.a = true from g1, Bool.and_self, Bool.or_true]
      · rw [← hek]
        refine fine _ f5 ?_
        rw [g3, Bool.and_false, Bool.and_false]
    refine z_ite (w_and (T_use (t_is (V_var rfl)) ⟨_, rfl, fun g1 => ?_, fun g1 => ⟨_, rfl, fun h => (by rw [g1] at h; cases h), fun _ => ?_⟩⟩))
    · refine w_not (w_tru rfl (w_cal (w_cons (V_use (V_var rfl) (w_nil ?_)))))
      rw [hek]
      refine W_mono (c_top (n := n + 6) (hn.mono fr3) (by rw [restB_fr hn fr3]; exact hrest)) ?_
      rintro q S4 ⟨f4, rfl⟩
      rw [topB_fr hn fr3]
      refine ⟨_, rfl, _, rfl, _, rfl, fun g3 => ?_, fun g3 => ?_⟩
      · unfold t_check_2
        rw [← hek]
        refine raise _ _ _ _ _ (fr3.trans f4) ?_ fun _ _ _ h => h
        rw [hbad, hrule, g1, g3]; rfl
      · refine z_nil ?_
        dsimp only
        rw [← hek]
        exact snd _ _ f4 (by rw [g3, Bool.and_false]) (fun _ _ h => h) fun _ _ _ h => h
    · refine z_nil ?_
      dsimp only
      exact snd _ _ DI.Fr.refl (by rw [g1]; rfl) (fun _ _ h => h) fun _ _ _ h => h

end K85

set_option Elab.async false
set_option linter.all false
set_option maxRecDepth 100000
set_option maxHeartbeats 4000000
namespace K85
open L2 DI PySem PySem.Spec PyProof.Rows
theorem cell_at {d : Nat} {S : Sto} {ns : List Int} {k : Nat} {Q : D → Sto → Prop} (hQ : ∀ z : Int, Q (.int z) S) : W (calls P0 fs (d + 1) 21 [.rl (ns.map D.int), .int k] S) Q := by
  refine W_call (f := d_law_cell_at) rfl rfl ?_
  show WS (dSs P0 _ t_law_cell_at [some (.rl (ns.map D.int)), some (.int k)] S) _
  unfold t_law_cell_at
  refine z_ret (w_iteT (T_cmp (V_var rfl) (V_bi1 (z := .int ns.length) (V_var rfl) (by simp [biSem])) rfl) (fun h => ?_) fun _ => w_int (hQ _))
  have h : (k : Int) < ns.length := of_decide_eq_true h
  have hk : k < ns.length := by omega
  refine V_use (V_ix (z := .int ns[k]) (V_var rfl) (V_var rfl) ?_) (hQ _)
  simp only [itemSem]
  exact DI.atI_nat (by simp [hk])

theorem one {d i a : Nat} {S : Sto} {xs : List D} (h : St S i) (ha : S[a]? = some (.lst xs)) (hia : a ≠ i) (h0 : 0 < xs.length) (h1 : xs.length < 1000000) {Q : D → Sto → Prop}
    (hQ : ∀ (x : D) (S' : Sto), x ∈ xs → St S' i → DI.Fr [i] S S' → Q x S') : W (calls P0 fs (d + 2) 23 [.loc i, .loc a] S) Q := by
  refine W_call (f := d_law_one) rfl rfl ?_
  show WS (dSs P0 _ t_law_one [some (.loc i), some (.loc a)] S) _
  unfold t_law_one
  refine z_ret (w_ix (w_var ⟨_, rfl, w_cal (w_cons (w_var ⟨_, rfl, w_cons (V_use (V_bi1 (V_var rfl) (z := .int xs.length) (by simp only [biSem, ha])) (w_nil ?_))⟩))⟩))
  refine digit h (by omega) (by omega) fun x S' hx hx2 h' f => ?_
  have hx' := f.get ha (by simpa using hia)
  obtain ⟨y, hy, e⟩ := atI_of hx hx2
  exact ⟨y, by simp only [itemSem, hx', e], hQ y S' (List.mem_of_getElem? hy) h' f⟩

/-! ### the law's ask of check -/
def resD : Option (List Nat) → D | none => .non | some p => .tup [.str "no", pathD p]
theorem KOk_lit {S : Sto} {l : List (Str × Lit)} (h : okL l = true) : KOk S (litD l) := by
  unfold okL at h
  simp only [Bool.and_eq_true, decide_eq_true_eq, List.all_eq_true] at h
  obtain ⟨⟨h1, h2⟩, _⟩ := h
  refine ⟨look_nd h2, fun kv hk => ?_, fun kv hk xs e => ?_, fun kv hk w e => ?_⟩
  · obtain ⟨q, hq, rfl⟩ := List.mem_map.mp hk
    exact VOk.lit (h1 q hq).2
  · obtain ⟨q, hq, rfl⟩ := List.mem_map.mp hk
    dsimp only at e
    cases hl : q.2 <;> (rw [hl] at e; cases e)
  · obtain ⟨q, hq, rfl⟩ := List.mem_map.mp hk
    cases e
    exact (h1 q hq).1

/-! ### good nodes over any good style -/
def outL (kvs : List (Key × D)) : Bool := isS "absolute" ((lookK kvs (.inr "place")).getD .non) || !isN ((lookK kvs (.inr "float")).getD .non)
def topL (kvs : List (Key × D)) : Bool := isN ((lookK kvs (.inr "float")).getD .non) && isN ((lookK kvs (.inr "place")).getD .non)
/-- a good style stands there -/
structure GS (S : Sto) (a : Nat) (kvs : List (Key × D)) : Prop where
  at_ : S[a]? = some (.dk kvs)
  ok : KOk S kvs
  good : styleD kvs = true
theorem gs_lit {S : Sto} {a : Nat} {l : List (Str × Lit)} (h : S[a]? = some (.dk (litD l))) (hl : (okL l && styleD (litD l)) = true) : GS S a (litD l) :=
  let ⟨h1, h2⟩ := Bool.and_eq_true_iff.mp hl; ⟨h, KOk_lit h1, h2⟩
theorem p_gs {S : Sto} {a : Nat} {kvs : List (Key × D)} (g : GS S a kvs) : POk S (.loc a) ∧ stB S (.loc a) = true := by
  refine ⟨⟨.dk g.at_, fun a' k e h => ?_, fun a' k e h => ?_, fun y e => nomatch e⟩, ?_⟩
  · cases e
    rw [g.at_] at h; cases h
    exact g.ok
  · cases e
    rw [g.at_] at h; cases h
  · simp only [stB, g.at_]
    exact g.good
theorem p_str {S : Sto} {x : Str} (h : (decide (x.length ≤ 1000) && PyData.canLay0 (.str x)) = true) : POk S (.str x) := by
  obtain ⟨h1, h2⟩ := Bool.and_eq_true_iff.mp h
  have := of_decide_eq_true h1
  exact ⟨.str x, (fun _ _ e => nomatch e), (fun _ _ e => nomatch e), fun y e => by cases e; exact ⟨sz (by omega), h2⟩⟩
theorem p_tup {S : Sto} {xs : List D} : POk S (.tup xs) := ⟨.tup xs, (fun _ _ e => nomatch e), (fun _ _ e => nomatch e), fun y e => nomatch e⟩
theorem p_int {S : Sto} {i : Int} : POk S (.int i) := ⟨.int i, (fun _ _ e => nomatch e), (fun _ _ e => nomatch e), fun y e => nomatch e⟩
theorem memK_ok {k : Str} (h : memK k = true) : (decide (k.length ≤ 1000) && PyData.canLay0 (.str k)) = true := by
  unfold memK memS at h
  simp only [List.any_cons, List.any_nil, Bool.or_false, Bool.or_eq_true, beq_iff_eq] at h
  rcases h with rfl | rfl | rfl | rfl <;> decide +kernel
theorem n_tup {S : Sto} {xs : List D} (h : ∀ x ∈ xs, POk S x) : NOk S (.tup xs) := ⟨.tup xs, fun ys e => by cases e; exact h⟩
theorem sf_eq {S : Sto} {k : Str} {a : Nat} {kvs : List (Key × D)} {r : List D} (hs : hasSt k = true) (h : S[a]? = some (.dk kvs)) : sf S k (.loc a :: r) = kvs := by
  unfold sf
  rw [if_pos hs]
  simp only [h]
theorem kind_gs {S : Sto} {k : Str} {a : Nat} {kvs : List (Key × D)} {ks : List D} (hk : memK k = true) (g : GS S a kvs) :
    NOk S (.tup [.str k, .loc a, .tup ks]) ∧ nodeB S (.tup [.str k, .loc a, .tup ks]) = true ∧ ∀ ab, ruleB S ab (.tup [.str k, .loc a, .tup ks]) = ((isN (aboveD ab) && !(blk k && topL kvs)) || (inl ab && (blk k && !outL kvs))) := by
  obtain ⟨q1, q2⟩ := p_gs g
  have hs : hasSt k = true := by unfold hasSt; rw [hk] <;> rfl
  refine ⟨n_tup fun x hx => ?_, ?_, fun ab => ?_⟩
  · simp only [List.mem_cons, List.not_mem_nil, or_false] at hx
    rcases hx with rfl | rfl | rfl
    · exact p_str (memK_ok hk)
    · exact q1
    · exact p_tup
  · show restB S k [.loc a, .tup ks] = true
    unfold restB
    rw [if_pos hk]
    show (stB S (.loc a) && true) = true
    rw [q2] <;> rfl
  · show ((isN (aboveD ab) && !topB S k [.loc a, .tup ks]) || (inl ab && (blk k && !outB S k [.loc a, .tup ks]))) = _
    unfold topB outB fieldS
    rw [sf_eq hs g.at_]
    rfl
theorem img_gs {S : Sto} {a : Nat} {kvs : List (Key × D)} {w h : Int} (g : GS S a kvs) (hw : (isSz (.int w) && isSz (.int h)) = true) :
    NOk S (.tup [.str "image", .loc a, .int w, .int h]) ∧ nodeB S (.tup [.str "image", .loc a, .int w, .int h]) = true ∧ ∀ ab, ruleB S (some ab) (.tup [.str "image", .loc a, .int w, .int h]) = false := by
  obtain ⟨q1, q2⟩ := p_gs g
  refine ⟨n_tup fun x hx => ?_, ?_, fun ab => ?_⟩
  · simp only [List.mem_cons, List.not_mem_nil, or_false] at hx
    rcases hx with rfl | rfl | rfl | rfl
    · exact p_str (by decide +kernel)
    · exact q1
    · exact p_int
    · exact p_int
  · show restB S "image" [.loc a, .int w, .int h] = true
    unfold restB
    rw [if_neg (by decide +kernel), if_pos (by decide +kernel)]
    show (stB S (.loc a) && (isSz (.int w) && isSz (.int h))) = true
    rw [q2, hw] <;> rfl
  · show (false || (inl (some ab) && (blk "image" && _))) = _
    rw [show blk "image" = false by decide +kernel]
    simp
theorem txt_ok {S : Sto} {x : Str} (h : (decide (x.length ≤ 1000) && PyData.canLay0 (.str x)) = true) :
    NOk S (.tup [.str "text", .str x]) ∧ nodeB S (.tup [.str "text", .str x]) = textB (.str x) ∧ ∀ ab, ruleB S (some ab) (.tup [.str "text", .str x]) = false := by
  refine ⟨n_tup fun y hy => ?_, ?_, fun ab => ?_⟩
  · simp only [List.mem_cons, List.not_mem_nil, or_false] at hy
    rcases hy with rfl | rfl
    · exact p_str (by decide +kernel)
    · exact p_str h
  · show restB S "text" [.str x] = _
    unfold restB
    rw [if_neg (by decide +kernel), if_neg (by decide +kernel), if_pos (by decide +kernel)]
    rfl
  · show (false || (inl (some ab) && (blk "text" && _))) = _
    rw [show blk "text" = false by decide +kernel]
    simp
theorem brk_ok {S : Sto} : NOk S (.tup [.str "break"]) ∧ nodeB S (.tup [.str "break"]) = true ∧ ∀ ab, ruleB S (some ab) (.tup [.str "break"]) = false := by
  refine ⟨n_tup fun y hy => ?_, ?_, fun ab => ?_⟩
  · simp only [List.mem_cons, List.not_mem_nil, or_false] at hy
    subst hy
    exact p_str (by decide +kernel)
  · show restB S "break" [] = true
    unfold restB
    rw [if_neg (by decide +kernel), if_neg (by decide +kernel), if_neg (by decide +kernel)]
    decide +kernel
  · show (false || (inl (some ab) && (blk "break" && _))) = _
    rw [show blk "break" = false by decide +kernel]
    simp
theorem tr_leaf {S : Sto} {d : D} (h : NOk S d) (hk : ∀ k st ks r, d ≠ .tup (.str k :: st :: .tup ks :: r)) : TrOk S d := .mk h (fun k st ks r e => absurd e (hk k st ks r)) (fun k st ks r e => absurd e (hk k st ks r))
theorem tr_brk {S : Sto} : TrOk S (.tup [.str "break"]) := tr_leaf brk_ok.1 fun _ _ _ _ e => nomatch e
theorem tr_txt {S : Sto} {x : Str} (h : (decide (x.length ≤ 1000) && PyData.canLay0 (.str x)) = true) : TrOk S (.tup [.str "text", .str x]) := tr_leaf (txt_ok h).1 fun _ _ _ _ e => nomatch e
theorem tr_img {S : Sto} {a : Nat} {kvs : List (Key × D)} {w h : Int} (g : GS S a kvs) (hw : (isSz (.int w) && isSz (.int h)) = true) : TrOk S (.tup [.str "image", .loc a, .int w, .int h]) := tr_leaf (img_gs g hw).1 fun _ _ _ _ e => nomatch e
theorem tr_kind {S : Sto} {k : Str} {a : Nat} {kvs : List (Key × D)} {ks : List D} (hk : memK k = true) (g : GS S a kvs) (hl : ks.length ≤ 1000) (hc : ∀ c ∈ ks, TrOk S c) : TrOk S (.tup [.str k, .loc a, .tup ks]) :=
  .mk (kind_gs hk g).1 (fun k' st ks' r e => by cases e; exact hl) (fun k' st ks' r e c hm => by cases e; exact hc c hm)
theorem kids_eq {p : List Nat} {k : Str} {st : D} {ks : List D} (hk : memK k = true) : kidsE p (.tup [.str k, st, .tup ks]) = (ixs ks).map fun q => ⟨p ++ [q.1], q.2, some k⟩ := by
  show (if memK k = true then (ixs ks).map (fun q => (⟨p ++ [q.1], q.2, some k⟩ : En)) else []) = _
  rw [if_pos hk]
/-- one entry of the walk -/
theorem go_one {S : Sto} {c : Nat} {p : List Nat} {d : D} {a : Option Str} {r : List En} (hc : c ≤ 120) (hn : nodeB S d = true) :
    go S (130 - c) c (⟨p, d, a⟩ :: r) = if (decide (120 < c + 1) || (decide (10 < p.length) || ruleB S a d)) = true then some (some p) else go S (130 - (c + 1)) (c + 1) (kidsE p d ++ r) := by
  have e : 130 - c = (130 - (c + 1)) + 1 := by omega
  rw [e]
  show (if bad1 S ⟨p, d, a⟩ (c + 1) = true then _ else _) = _
  have eb : bad1 S ⟨p, d, a⟩ (c + 1) = (decide (120 < c + 1) || (decide (10 < p.length) || ruleB S a d)) := by
    show (decide (120 < c + 1) || (decide (10 < p.length) || (!nodeB S d || ruleB S a d))) = _
    rw [hn]; rfl
  rw [eb]
theorem go_ok {S : Sto} {c : Nat} {p : List Nat} {d : D} {a : Option Str} {r : List En} (hc : c ≤ 120) (hn : nodeB S d = true) (hp : p.length ≤ 10) (hr : ruleB S a d = false) :
    go S (130 - c) c (⟨p, d, a⟩ :: r) = if c + 1 ≤ 120 then go S (130 - (c + 1)) (c + 1) (kidsE p d ++ r) else some (some p) := by
  rw [go_one hc hn, hr, decide_eq_false (by omega : ¬ 10 < p.length), Bool.or_false, Bool.or_false]
  by_cases h : 120 < c + 1
  · rw [if_pos (decide_eq_true h), if_neg (by omega)]
  · rw [if_neg (by rw [decide_eq_false h]; decide), if_pos (by omega)]
theorem go_bad {S : Sto} {c : Nat} {p : List Nat} {d : D} {a : Option Str} {r : List En} (hc : c ≤ 120) (hn : nodeB S d = false) : go S (130 - c) c (⟨p, d, a⟩ :: r) = some (some p) := by
  have e : 130 - c = (130 - (c + 1)) + 1 := by omega
  rw [e]
  show (if bad1 S ⟨p, d, a⟩ (c + 1) = true then _ else _) = _
  have eb : bad1 S ⟨p, d, a⟩ (c + 1) = true := by
    show (decide (120 < c + 1) || (decide (10 < p.length) || (!nodeB S d || ruleB S a d))) = _
    rw [hn]
    simp
  rw [eb, if_pos rfl]
theorem go_nil {S : Sto} {f c : Nat} : go S f c [] = some none := by cases f <;> rfl
theorem ixs_app (bes : List D) (d : D) : ixs (bes ++ [d]) = ixs bes ++ [(bes.length, d)] := by unfold ixs; rw [List.mapIdx_append]; simp
theorem fup {B : List Nat} {S S' : Sto} (f : DI.Fr [] S S') : DI.Fr B S S' := f.sub (fun k hk => by cases hk)

end K85

set_option Elab.async false
set_option linter.all false
set_option maxRecDepth 100000
set_option maxHeartbeats 4000000
namespace K85
open L2 DI PySem PySem.Spec PyProof.Rows
/-! ### drawn styles -/
/-- a row of a table: a word, a list, and the bounds beside it (none: the list stands alone) -/
abbrev Rw := Str × List D × Option (Int × D)
def rwV (q : Rw) (b : Nat) : D := match q.2.2 with | none => .loc b | some (l, p) => .tup [.loc b, .int l, p]
def chT : List Rw := [("float", [.non, .str "left", .str "right"], none), ("clear", [.non, .str "left", .str "right", .str "both"], none), ("clip", [.bl false, .bl true], none), ("place", [.non, .str "relative", .str "absolute"], none), ("wrap", [.str "normal", .str "whole"], none), ("align", [.str "left", .str "right", .str "center"], none)]
/-- a dict of lists -/
def Tb (S : Sto) (t : List Rw) (bs : List Nat) : Prop := Paired (fun (q : Rw) b => S[b]? = some (.lst q.2.1)) t bs
def tbK (t : List Rw) (bs : List Nat) : List (Key × D) := (t.zip bs).map fun q => (.inr q.1.1, rwV q.1 q.2)
theorem Tb.len {S : Sto} : ∀ {t : List Rw} {bs : List Nat}, Tb S t bs → bs.length = t.length
  | _, _, .nil => rfl
  | _, _, .cons _ b => by rw [List.length_cons, List.length_cons, Tb.len b]
theorem Tb.app {S : Sto} {q : Rw} {b : Nat} (h : S[b]? = some (.lst q.2.1)) : ∀ {t : List Rw} {bs : List Nat}, Tb S t bs → Tb S (t ++ [q]) (bs ++ [b])
  | _, _, .nil => .cons h .nil
  | _, _, .cons a r => .cons a (Tb.app h r)
theorem Tb.mono {S S' : Sto} (hs : ∀ (c : Nat) (xs : List D), S[c]? = some (.lst xs) → S'[c]? = some (.lst xs)) : ∀ {t : List Rw} {bs : List Nat}, Tb S t bs → Tb S' t bs
  | _, _, .nil => .nil
  | _, _, .cons a r => .cons (hs _ _ a) (Tb.mono hs r)
structure TbAt (S0 S : Sto) (a : Nat) (t : List Rw) : Prop where
  ex : ∃ bs, S[a]? = some (.dk (tbK t bs)) ∧ Tb S t bs ∧ ∀ b ∈ bs, S0.length ≤ b
  f : DI.Fr [] S0 S
  new : S0.length ≤ a
theorem TbAt.fr {S0 S S' : Sto} {a : Nat} {t : List Rw} (h : TbAt S0 S a t) (f : DI.Fr [] S S') : TbAt S0 S' a t :=
  let ⟨bs, h1, h2, h3⟩ := h.ex; ⟨⟨bs, f.all _ _ h1, Tb.mono (fun _ _ e => f.all _ _ e) h2, h3⟩, h.f.trans f, h.new⟩
theorem tb_put {S0 S : Sto} {a b : Nat} {t : List Rw} {w : Str} {ds : List D} {x : Option (Int × D)} (h : TbAt S0 S a t) (hb : S[b]? = some (.lst ds)) (hn : S0.length ≤ b) (hw : t.all (fun q => !decide (q.1 = w)) = true) (ht : t.length ≤ 1000) :
    ∃ S', setSem (.loc a) (.str w) (rwV (w, ds, x) b) S = some S' ∧ TbAt S0 S' a (t ++ [(w, ds, x)]) ∧ ∀ (c : Nat) (xs : List D), S[c]? = some (.lst xs) → S'[c]? = some (.lst xs) := by
  obtain ⟨bs, h1, h2, h3⟩ := h.ex
  have hl := h2.len
  have hkl : (tbK t bs).length < sizeLine := by
    unfold tbK
    rw [List.length_map, List.length_zip, hl]
    exact Nat.lt_of_le_of_lt (m := 1000) (by omega) (by decide)
  have hany : ((tbK t bs).any fun kv => decide (kv.1 = (.inr w : Key))) = false := by
    rw [List.any_eq_false]
    intro kv hkv
    obtain ⟨q, hq, rfl⟩ := List.mem_map.mp hkv
    have := List.all_eq_true.mp hw q.1 (List.of_mem_zip (a := q.1) (b := q.2) hq).1
    simpa using this
  have hput : putD (tbK t bs) (.inr w) (rwV (w, ds, x) b) = tbK (t ++ [(w, ds, x)]) (bs ++ [b]) := by
    unfold putD
    rw [hany]
    unfold tbK
    rw [List.zip_append hl.symm, List.map_append]
    rfl
  have keep : ∀ (c : Nat) (xs : List D), S[c]? = some (.lst xs) → (S.set a (.dk (tbK (t ++ [(w, ds, x)]) (bs ++ [b]))))[c]? = some (.lst xs) := by
    intro c xs e
    rw [get_setn (fun z => by rw [← z, h1] at e; cases e)]
    exact e
  refine ⟨S.set a (.dk (tbK (t ++ [(w, ds, x)]) (bs ++ [b]))), ?_, ⟨⟨_, get_set (lt_of h1), Tb.app (keep _ _ hb) (Tb.mono keep h2), fun c hc => (List.mem_append.mp hc).elim (h3 c) fun z => (List.mem_singleton.mp z) ▸ hn⟩, h.f.setr (.inr h.new), h.new⟩, keep⟩
  simp only [setSem, h1, hkl, if_true, hput]
theorem choices {d : Nat} {S : Sto} {Q : D → Sto → Prop} (hQ : ∀ S' a, TbAt S S' a chT → Q (.loc a) S') : W (calls P0 fs (d + 1) 25 [] S) Q := by
  refine W_call (f := d_law_choices) rfl rfl ?_
  show WS (dSs P0 _ t_law_choices [none] S) _
  unfold t_law_choices
  refine z_set (w_dctK (w_cons (w_lst (w_cons (w_non (w_cons (w_str (w_cons (w_str (w_nil ⟨sz (by show 3 ≤ 1000000; omega), ?_⟩))))))))))
  refine w_cons (w_lst (w_cons (w_non (w_cons (w_str (w_cons (w_str (w_cons (w_str (w_nil ⟨sz (by show 4 ≤ 1000000; omega), ?_⟩))))))))))
  refine w_cons (w_lst (w_cons (w_blc (w_cons (w_blc (w_nil ⟨sz (by show 2 ≤ 1000000; omega), w_nil ⟨get_pushl (get_pushl (get_pushl get_push)), ⟨rfl, by decide⟩, ?_⟩⟩))))))
  try simp only [List.set_cons_succ, List.set_cons_zero]
  generalize hS1 : (((S ++ [Cell.dk []]) ++ [Cell.lst [D.non, .str "left", .str "right"]]) ++ [Cell.lst [D.non, .str "left", .str "right", .str "both"]]) ++ [Cell.lst [D.bl false, .bl true]] = S1
  have f1 : DI.Fr [] S S1 := by rw [← hS1]; exact ((DI.Fr.push.trans DI.Fr.push).trans DI.Fr.push).trans DI.Fr.push
  have e0 : S1[S.length]? = some (.dk []) := by rw [← hS1]; exact get_pushl (get_pushl (get_pushl get_push))
  have e1 : S1[(S ++ [Cell.dk []]).length]? = some (.lst [D.non, .str "left", .str "right"]) := by rw [← hS1]; exact get_pushl (get_pushl get_push)
  have e2 : S1[((S ++ [Cell.dk []]) ++ [Cell.lst [D.non, .str "left", .str "right"]]).length]? = some (.lst [D.non, .str "left", .str "right", .str "both"]) := by rw [← hS1]; exact get_pushl get_push
  have e3 : S1[(((S ++ [Cell.dk []]) ++ [Cell.lst [D.non, .str "left", .str "right"]]) ++ [Cell.lst [D.non, .str "left", .str "right", .str "both"]]).length]? = some (.lst [D.bl false, .bl true]) := by rw [← hS1]; exact get_push
  have n1 : S.length ≤ (S ++ [Cell.dk []]).length := by simp
  have n2 : S.length ≤ ((S ++ [Cell.dk []]) ++ [Cell.lst [D.non, .str "left", .str "right"]]).length := by simp <;> omega
  have n3 : S.length ≤ (((S ++ [Cell.dk []]) ++ [Cell.lst [D.non, .str "left", .str "right"]]) ++ [Cell.lst [D.non, .str "left", .str "right", .str "both"]]).length := by simp <;> omega
  clear hS1
  generalize (((S ++ [Cell.dk []]) ++ [Cell.lst [D.non, .str "left", .str "right"]]) ++ [Cell.lst [D.non, .str "left", .str "right", .str "both"]]).length = b3 at e3 n3 ⊢
  generalize ((S ++ [Cell.dk []]) ++ [Cell.lst [D.non, .str "left", .str "right"]]).length = b2 at e2 n2 ⊢
  generalize (S ++ [Cell.dk []]).length = b1 at e1 n1 ⊢
  have em : mergeD [] (([("float" : Str), ("clear" : Str), ("clip" : Str)].map Sum.inr).zip [D.loc b1, D.loc b2, D.loc b3]) = tbK (chT.take 3) [b1, b2, b3] := rfl
  rw [em]
  have keep : ∀ (x : Cell) (c : Nat) (xs : List D), S1[c]? = some (.lst xs) → (S1.set S.length x)[c]? = some (.lst xs) := by
    intro x c xs e
    rw [get_setn (fun z => by rw [← z, e0] at e; cases e)]
    exact e
  have T1 : TbAt S (S1.set S.length (.dk (tbK (chT.take 3) [b1, b2, b3]))) S.length (chT.take 3) := ⟨⟨_, get_set (lt_of e0), .cons (keep _ _ _ e1) (.cons (keep _ _ _ e2) (.cons (keep _ _ _ e3) .nil)), fun b hb => by simp only [List.mem_cons, List.not_mem_nil, or_false] at hb; rcases hb with rfl | rfl | rfl <;> assumption⟩, f1.setr (.inr (Nat.le_refl _)), Nat.le_refl _⟩
  generalize S1.set S.length (.dk (tbK (chT.take 3) [b1, b2, b3])) = S2 at T1 ⊢
  generalize S.length = a at T1 ⊢
  refine z_sub (w_lst (w_cons (w_non (w_cons (w_str (w_cons (w_str (w_nil ⟨sz (by show 3 ≤ 1000000; omega), V_use (V_var rfl) (w_str ?_)⟩))))))))
  obtain ⟨S3, q3, T3, k3⟩ := tb_put (w := "place") (x := none) (T1.fr DI.Fr.push) get_push (by have := T1.f.1; simp <;> omega) (by decide +kernel) (by decide)
  refine ⟨S3, q3, ?_⟩
  refine z_sub2 (w_lst (w_cons (w_str (w_cons (w_str (w_nil ⟨sz (by show 2 ≤ 1000000; omega), ?_⟩))))))
  refine w_lst (w_cons (w_str (w_cons (w_str (w_cons (w_str (w_nil ⟨sz (by show 3 ≤ 1000000; omega), V_use (V_var rfl) (w_str ?_)⟩)))))))
  obtain ⟨S4, q4, T4, k4⟩ := tb_put (w := "wrap") (x := none) ((T3.fr DI.Fr.push).fr DI.Fr.push) (get_pushl get_push) (by have := T3.f.1; simp <;> omega) (by decide +kernel) (by decide)
  refine ⟨S4, q4, V_use (V_var rfl) (w_str ?_)⟩
  obtain ⟨S5, q5, T5, k5⟩ := tb_put (w := "align") (x := none) T4 (k4 _ _ get_push) (by have := T3.f.1; simp <;> omega) (by decide +kernel) (by decide)
  exact ⟨S5, q5, z_ret (V_use (V_var rfl) (hQ S5 a T5))⟩
/-- the bounds of the other words -/
def bdT (pl : Bool) : List Rw := [("offset", [.non], some (-1000000, .int (-1000000))), ("margin", [.str "auto"], some (-1000000, .int (-1000000))), ("border", [], some (0, .non)), ("padding", [], some (0, .int 0)), ("width", [.str "auto"], some (0, .int 0)), ("height", [.str "auto"], some (0, if pl = true then .int 0 else .non)),
  ("least_width", [], some (0, .non)), ("least_height", [], some (0, .non)), ("up", [], some (0, .non)), ("down", [], some (0, .non)), ("line", [], some (0, .non)), ("most_width", [.non], some (0, .non)), ("most_height", [.non], some (0, .non)), ("raise", [], some (-1000000, .non)), ("indent", [], some (-1000000, .non)), ("letter", [], some (1, .non))]
theorem w_pow6 {S : Sto} {Q : D → Sto → Prop} (hk : Q (.int 1000000) S) : W (.of (opSem .Pow (.int 10) (.int 6) S)) Q := by
  have e : opSem .Pow (.int 10) (.int 6) S = some (.int 1000000, S) := by
    show (if (0 : Int) ≤ 6 ∧ (6 : Int) ≤ 1000000 ∧ (10 : Int).natAbs < 2 ^ 64 then some (D.int ((10 : Int) ^ (6 : Int).toNat), S) else none) = _
    rw [if_pos (by decide)]
    rfl
  rw [e]
  exact hk
theorem bounds_row {C : Nat → List D → Sto → Out D} {S0 S : Sto} {a : Nat} {t : List Rw} {w : Str} {x0 x1 : Option D} {Q : Po} (h : TbAt S0 S a t) (hw : t.all (fun q => !decide (q.1 = w)) = true) (ht : t.length ≤ 1000)
    (hQ : ∀ S', TbAt S0 S' a (t ++ [(w, [], some (0, .non))]) → Q.nx [x0, x1, some (.loc a), some (.str w)] S') : WS (dSs P0 C t_law_bounds_1 [x0, x1, some (.loc a), some (.str w)] S) Q := by
  unfold t_law_bounds_1
  refine z_sub (w_tup (w_cons (w_lst (w_nil ⟨sz (by show 0 ≤ 1000000; omega), w_cons (w_int (w_cons (w_non (w_nil ⟨sz (by show 3 ≤ 1000000; omega), V_use (V_var rfl) (V_use (V_var rfl) ?_)⟩))))⟩))))
  obtain ⟨S3, q3, T3, _⟩ := tb_put (x := some (0, .non)) (h.fr DI.Fr.push) get_push (by have := h.f.1; simp <;> omega) hw ht
  exact ⟨S3, q3, z_nil (hQ S3 T3)⟩
theorem bounds {d : Nat} {S : Sto} {pl : Bool} {Q : D → Sto → Prop} (hQ : ∀ S' a, TbAt S S' a (bdT pl) → Q (.loc a) S') : W (calls P0 fs (d + 1) 26 [.bl pl] S) Q := by
  refine W_call (f := d_law_bounds) rfl rfl ?_
  show WS (dSs P0 _ t_law_bounds [some (.bl pl), none, none, none] S) _
  unfold t_law_bounds
  refine z_par (w_bin (w_int (w_bin (w_int (w_int (w_pow6 (w_sub (w_dct0 ?_))))))))
  try simp only [List.set_cons_succ, List.set_cons_zero]
  rw [show (0 : Int) - 1000000 = -1000000 from rfl]
  have T0 : TbAt S (S ++ [Cell.dk []]) S.length [] := ⟨⟨[], get_push, .nil, fun _ z => nomatch z⟩, DI.Fr.push, Nat.le_refl _⟩
  generalize S ++ [Cell.dk []] = S1 at T0 ⊢
  generalize S.length = a at T0 ⊢
  refine z_sub2 (w_tup (w_cons (w_lst (w_cons (w_non (w_nil ⟨sz (by show 1 ≤ 1000000; omega), w_cons (V_use (V_var rfl) (w_cons (V_use (V_var rfl) (w_nil ⟨sz (by show 3 ≤ 1000000; omega), ?_⟩))))⟩))))))
  refine w_tup (w_cons (w_lst (w_cons (w_str (w_nil ⟨sz (by show 1 ≤ 1000000; omega), w_cons (V_use (V_var rfl) (w_cons (V_use (V_var rfl) (w_nil ⟨sz (by show 3 ≤ 1000000; omega), V_use (V_var rfl) (w_str ?_)⟩))))⟩)))))
  obtain ⟨S2, q2, T2, k2⟩ := tb_put (w := "offset") (x := some (-1000000, .int (-1000000))) ((T0.fr DI.Fr.push).fr DI.Fr.push) (get_pushl get_push) (by have := T0.f.1; simp <;> omega) (by decide +kernel) (by decide)
  refine ⟨S2, q2, V_use (V_var rfl) (w_str ?_)⟩
  obtain ⟨S3, q3, T3, k3⟩ := tb_put (w := "margin") (x := some (-1000000, .int (-1000000))) T2 (k2 _ _ get_push) (by have := T0.f.1; simp <;> omega) (by decide +kernel) (by decide)
  refine ⟨S3, q3, ?_⟩
  refine z_sub2 (w_tup (w_cons (w_lst (w_nil ⟨sz (by show 0 ≤ 1000000; omega), w_cons (w_int (w_cons (w_non (w_nil ⟨sz (by show 3 ≤ 1000000; omega), ?_⟩))))⟩))))
  refine w_tup (w_cons (w_lst (w_nil ⟨sz (by show 0 ≤ 1000000; omega), w_cons (w_int (w_cons (w_int (w_nil ⟨sz (by show 3 ≤ 1000000; omega), V_use (V_var rfl) (w_str ?_)⟩))))⟩)))
  obtain ⟨S4, q4, T4, k4⟩ := tb_put (w := "border") (x := some (0, .non)) ((T3.fr DI.Fr.push).fr DI.Fr.push) (get_pushl get_push) (by have := T3.f.1; simp <;> omega) (by decide +kernel) (by decide)
  refine ⟨S4, q4, V_use (V_var rfl) (w_str ?_)⟩
  obtain ⟨S5, q5, T5, k5⟩ := tb_put (w := "padding") (x := some (0, .int 0)) T4 (k4 _ _ get_push) (by have := T3.f.1; simp <;> omega) (by decide +kernel) (by decide)
  refine ⟨S5, q5, ?_⟩
  refine z_sub2 (w_tup (w_cons (w_lst (w_cons (w_str (w_nil ⟨sz (by show 1 ≤ 1000000; omega), w_cons (w_int (w_cons (w_int (w_nil ⟨sz (by show 3 ≤ 1000000; omega), ?_⟩))))⟩))))))
  refine w_tup (w_cons (w_lst (w_cons (w_str (w_nil ⟨sz (by show 1 ≤ 1000000; omega), w_cons (w_int (w_cons ?_))⟩)))))
  have vp : V P0 (calls P0 fs d) (.ite (.var 0) (.cst (.int 0)) (.cst .non)) [some (.bl pl), some (.int (-1000000)), some (.loc a), none] ((S5 ++ [Cell.lst [D.str "auto"]]) ++ [Cell.lst [D.str "auto"]]) (if pl = true then .int 0 else .non) := by
    refine w_iteT (p := pl) (T_bl rfl (V_var rfl)) (fun h => w_int ?_) fun h => w_non ?_
    · rw [h]; exact ⟨rfl, rfl⟩
    · rw [h]; exact ⟨rfl, rfl⟩
  refine V_use vp (w_nil ⟨sz (by show 3 ≤ 1000000; omega), V_use (V_var rfl) (w_str ?_)⟩)
  obtain ⟨S6, q6, T6, k6⟩ := tb_put (w := "width") (x := some (0, .int 0)) ((T5.fr DI.Fr.push).fr DI.Fr.push) (get_pushl get_push) (by have := T5.f.1; simp <;> omega) (by decide +kernel) (by decide)
  refine ⟨S6, q6, V_use (V_var rfl) (w_str ?_)⟩
  obtain ⟨S7, q7, T7, k7⟩ := tb_put (w := "height") (x := some (0, if pl = true then .int 0 else .non)) T6 (k6 _ _ get_push) (by have := T5.f.1; simp <;> omega) (by decide +kernel) (by decide)
  refine ⟨S7, q7, ?_⟩
  have T7' : TbAt S S7 a ((bdT pl).take (6 + 0)) := T7
  refine z_for (w_iex (w_tup (w_cons (w_str (w_cons (w_str (w_cons (w_str (w_cons (w_str (w_cons (w_str (w_nil ⟨sz (by show 5 ≤ 1000000; omega), _, rfl, ?_⟩)))))))))))))
  refine WS_for (n := 5) (fun i σ S' => (∃ y, σ = [some (.bl pl), some (.int (-1000000)), some (.loc a), y]) ∧ TbAt S S' a ((bdT pl).take (6 + i))) ⟨⟨_, rfl⟩, T7'⟩ ?_ ?_ ?_
  · rintro σ S8 _
    rfl
  · rintro i σ S8 hi ⟨⟨y, rfl⟩, T8⟩
    have : i = 0 ∨ i = 1 ∨ i = 2 ∨ i = 3 ∨ i = 4 := by omega
    rcases this with rfl | rfl | rfl | rfl | rfl
    · exact ⟨.str "least_width", _, rfl, rfl, bounds_row T8 (by cases pl <;> decide +kernel) (by cases pl <;> decide) fun S9 T9 => ⟨⟨_, rfl⟩, T9⟩⟩
    · exact ⟨.str "least_height", _, rfl, rfl, bounds_row T8 (by cases pl <;> decide +kernel) (by cases pl <;> decide) fun S9 T9 => ⟨⟨_, rfl⟩, T9⟩⟩
    · exact ⟨.str "up", _, rfl, rfl, bounds_row T8 (by cases pl <;> decide +kernel) (by cases pl <;> decide) fun S9 T9 => ⟨⟨_, rfl⟩, T9⟩⟩
    · exact ⟨.str "down", _, rfl, rfl, bounds_row T8 (by cases pl <;> decide +kernel) (by cases pl <;> decide) fun S9 T9 => ⟨⟨_, rfl⟩, T9⟩⟩
    · exact ⟨.str "line", _, rfl, rfl, bounds_row T8 (by cases pl <;> decide +kernel) (by cases pl <;> decide) fun S9 T9 => ⟨⟨_, rfl⟩, T9⟩⟩
  rintro σ S8 ⟨⟨y, rfl⟩, T8⟩
  dsimp only
  unfold t_law_bounds_2
  refine z_sub2 (w_tup (w_cons (w_lst (w_cons (w_non (w_nil ⟨sz (by show 1 ≤ 1000000; omega), w_cons (w_int (w_cons (w_non (w_nil ⟨sz (by show 3 ≤ 1000000; omega), ?_⟩))))⟩))))))
  refine w_tup (w_cons (w_lst (w_cons (w_non (w_nil ⟨sz (by show 1 ≤ 1000000; omega), w_cons (w_int (w_cons (w_non (w_nil ⟨sz (by show 3 ≤ 1000000; omega), V_use (V_var rfl) (w_str ?_)⟩))))⟩)))))
  obtain ⟨S9, q9, T9, k9⟩ := tb_put (w := "most_width") (x := some (0, .non)) ((T8.fr DI.Fr.push).fr DI.Fr.push) (get_pushl get_push) (by have := T8.f.1; simp <;> omega) (by cases pl <;> decide +kernel) (by cases pl <;> decide)
  refine ⟨S9, q9, V_use (V_var rfl) (w_str ?_)⟩
  obtain ⟨S10, q10, T10, k10⟩ := tb_put (w := "most_height") (x := some (0, .non)) T9 (k9 _ _ get_push) (by have := T8.f.1; simp <;> omega) (by cases pl <;> decide +kernel) (by cases pl <;> decide)
  refine ⟨S10, q10, ?_⟩
  refine z_sub3 (w_tup (w_cons (w_lst (w_nil ⟨sz (by show 0 ≤ 1000000; omega), w_cons (V_use (V_var rfl) (w_cons (w_non (w_nil ⟨sz (by show 3 ≤ 1000000; omega), ?_⟩))))⟩))))
  refine w_tup (w_cons (w_lst (w_nil ⟨sz (by show 0 ≤ 1000000; omega), w_cons (V_use (V_var rfl) (w_cons (w_non (w_nil ⟨sz (by show 3 ≤ 1000000; omega), ?_⟩))))⟩)))
  refine w_tup (w_cons (w_lst (w_nil ⟨sz (by show 0 ≤ 1000000; omega), w_cons (w_int (w_cons (w_non (w_nil ⟨sz (by show 3 ≤ 1000000; omega), V_use (V_var rfl) (w_str ?_)⟩))))⟩)))
  obtain ⟨S11, q11, T11, k11⟩ := tb_put (w := "raise") (x := some (-1000000, .non)) (((T10.fr DI.Fr.push).fr DI.Fr.push).fr DI.Fr.push) (get_pushl (get_pushl get_push)) (by have := T10.f.1; simp <;> omega) (by cases pl <;> decide +kernel) (by cases pl <;> decide)
  refine ⟨S11, q11, V_use (V_var rfl) (w_str ?_)⟩
  obtain ⟨S12, q12, T12, k12⟩ := tb_put (w := "indent") (x := some (-1000000, .non)) T11 (k11 _ _ (get_pushl get_push)) (by have := T10.f.1; simp <;> omega) (by cases pl <;> decide +kernel) (by cases pl <;> decide)
  refine ⟨S12, q12, V_use (V_var rfl) (w_str ?_)⟩
  obtain ⟨S13, q13, T13, k13⟩ := tb_put (w := "letter") (x := some (1, .non)) T12 (k12 _ _ (k11 _ _ get_push)) (by have := T10.f.1; simp <;> omega) (by cases pl <;> decide +kernel) (by cases pl <;> decide)
  exact ⟨S13, q13, z_ret (V_use (V_var rfl) (hQ S13 a T13))⟩
theorem tb_find {S : Sto} {w : Str} : ∀ {t : List Rw} {bs : List Nat} {q : Rw}, Tb S t bs → t.find? (fun q => decide (q.1 = w)) = some q → ∃ b, lookK (tbK t bs) (.inr w) = some (rwV q b) ∧ S[b]? = some (.lst q.2.1) ∧ b ∈ bs := by
  intro t bs q h
  induction h with
  | nil => intro h; cases h
  | @cons x b t bs h1 h2 ih =>
    intro h
    by_cases e : x.1 = w
    · rw [List.find?_cons_of_pos (by simpa using e)] at h
      cases h
      refine ⟨b, ?_, h1, List.mem_cons_self⟩
      unfold lookK tbK
      rw [List.zip_cons_cons, List.map_cons, List.find?_cons_of_pos (by simpa using e)]
      rfl
    · rw [List.find?_cons_of_neg (by simpa using e)] at h
      obtain ⟨b', h3, h4, h5⟩ := ih h
      refine ⟨b', ?_, h4, List.mem_cons_of_mem _ h5⟩
      unfold lookK tbK at h3 ⊢
      rw [List.zip_cons_cons, List.map_cons, List.find?_cons_of_neg (by simpa using e)]
      exact h3
theorem tb_none {S : Sto} {w : Str} {t : List Rw} {bs : List Nat} (h : Tb S t bs) : t.find? (fun q => decide (q.1 = w)) = none → lookK (tbK t bs) (.inr w) = none := by
  induction h with
  | nil => intro _; rfl
  | @cons x b t bs h1 h2 ih =>
    intro h
    have e : ¬ x.1 = w := by
      intro e
      rw [List.find?_cons_of_pos (by simpa using e)] at h
      cases h
    rw [List.find?_cons_of_neg (by simpa using e)] at h
    have h3 := ih h
    unfold lookK tbK at h3 ⊢
    rw [List.zip_cons_cons, List.map_cons, List.find?_cons_of_neg (by simpa using e)]
    exact h3
/-- every value of the choices is a good one -/
theorem ch_good : chT.all (fun q => (FD.lookup q.1).isSome && q.2.1.all fun v => styleV q.1 v false && styleV q.1 v true) = true := by decide +kernel
/-- a value that may stand in a style, whatever stands in the store -/
structure Dv (w : Str) (v : D) : Prop where
  good : styleV w v false = true
  ok : ∀ S, VOk S v
  short : ∀ xs, v = .tup xs → xs.length ≤ 1000000
theorem ch_dv {q : Rw} (hq : q ∈ chT) {v : D} (hv : v ∈ q.2.1) : Dv q.1 v := by
  have h1 := List.all_eq_true.mp ch_good q hq
  have h2 := List.all_eq_true.mp (Bool.and_eq_true_iff.mp h1).2 v hv
  have hg := (Bool.and_eq_true_iff.mp h2).1
  have hv' : v = .non ∨ (∃ b, v = .bl b) ∨ ∃ x : Str, v = .str x ∧ PyData.canLay0 (.str x) = true := by
    simp only [chT, List.mem_cons, List.not_mem_nil, or_false] at hq
    rcases hq with rfl | rfl | rfl | rfl | rfl | rfl <;> simp only [List.mem_cons, List.not_mem_nil, or_false] at hv <;> (try rcases hv with rfl | rfl | rfl | rfl) <;> (try rcases hv with rfl | rfl | rfl) <;> (try rcases hv with rfl | rfl) <;> first | exact .inl rfl | exact .inr (.inl ⟨_, rfl⟩) | exact .inr (.inr ⟨_, rfl, by decide +kernel⟩)
  rcases hv' with rfl | ⟨b, rfl⟩ | ⟨x, rfl, hx⟩
  · exact ⟨hg, fun _ => .non, fun _ e => nomatch e⟩
  · exact ⟨hg, fun _ => .bl b, fun _ e => nomatch e⟩
  · exact ⟨hg, fun _ => .str hx, fun _ e => nomatch e⟩
def four4 (w : Str) : Bool := memS ["offset", "margin", "border", "padding"] w
theorem wh_of {i : Int} (h1 : -1000000 ≤ i) (h2 : i ≤ 1000000) : isWh (.int i) = true := by
  show (decide (-1000000 ≤ i) && decide (i ≤ 1000000)) = true
  rw [decide_eq_true h1, decide_eq_true h2]; rfl
theorem sz_of {i : Int} (h1 : 0 ≤ i) (h2 : i ≤ 1000000) : isSz (.int i) = true := by
  show (isWh (.int i) && decide (0 ≤ i)) = true
  rw [wh_of (by omega) h2, decide_eq_true h1]; rfl
theorem ge_of {n i : Int} (h : n ≤ i) : geD n (.int i) = true := decide_eq_true h
/-- a number within a word's bounds is a good value -/
theorem bd_int {q : Rw} {l : Int} {p : D} {i : Int} (hq : q ∈ bdT false) (hx : q.2.2 = some (l, p)) (h4 : four4 q.1 = false) (h1 : l ≤ i) (h2 : i ≤ 1000000) : styleV q.1 (.int i) false = true := by
  simp only [bdT, List.mem_cons, List.not_mem_nil, or_false] at hq
  have go : ∀ {w : Str} {b : Bool}, styleV w (.int i) false = b → b = true → styleV w (.int i) false = true := fun h k => h.trans k
  rcases hq with rfl | rfl | rfl | rfl | rfl | rfl | rfl | rfl | rfl | rfl | rfl | rfl | rfl | rfl | rfl | rfl <;> first | (exact absurd h4 (by decide +kernel)) | skip
  all_goals simp only [Option.some.injEq, Prod.mk.injEq] at hx
  all_goals obtain ⟨rfl, _⟩ := hx
  · exact go (b := isAu (.int i) || (isSz (.int i) || isShr (.int i))) rfl (by rw [sz_of h1 h2]; rfl)
  · exact go (b := isAu (.int i) || isSz (.int i)) rfl (by rw [sz_of h1 h2]; rfl)
  · exact go (b := isSz (.int i)) rfl (sz_of h1 h2)
  · exact go (b := isSz (.int i)) rfl (sz_of h1 h2)
  · exact go (b := isSz (.int i)) rfl (sz_of h1 h2)
  · exact go (b := isSz (.int i)) rfl (sz_of h1 h2)
  · exact go (b := isSz (.int i)) rfl (sz_of h1 h2)
  · exact go (b := isN (.int i) || isSz (.int i)) rfl (by rw [sz_of h1 h2]; rfl)
  · exact go (b := isN (.int i) || isSz (.int i)) rfl (by rw [sz_of h1 h2]; rfl)
  · exact go (b := isWh (.int i)) rfl (wh_of h1 h2)
  · exact go (b := isWh (.int i)) rfl (wh_of h1 h2)
  · exact go (b := isSz (.int i) && geD 1 (.int i)) rfl (by rw [sz_of (by omega) h2, ge_of h1]; rfl)
/-- the words of a row beside the numbers -/
theorem bd_good : (bdT false).all (fun q => (FD.lookup q.1).isSome && q.2.1.all fun v => if four4 q.1 = true then tst q.1 v else styleV q.1 v false) = true := by decide +kernel
theorem shr_of {i : Int} (h1 : 0 ≤ i) (h2 : i ≤ 1000000) : isShr (.tup [.str "percent", .int i]) = true := by
  show ((isS "percent" (.str "percent") && isWh (.int i)) && geD 0 (.int i)) = true
  rw [wh_of (by omega) h2, ge_of h1]; rfl
/-- a percent where one may stand -/
theorem bd_pct {q : Rw} {l k i : Int} (hq : q ∈ bdT false) (hx : q.2.2 = some (l, .int k)) (h4 : four4 q.1 = false) (h1 : k ≤ i) (h2 : i ≤ 1000000) : styleV q.1 (.tup [.str "percent", .int i]) false = true := by
  simp only [bdT, List.mem_cons, List.not_mem_nil, or_false] at hq
  have go : ∀ {w : Str} {v : D} {b : Bool}, styleV w v false = b → b = true → styleV w v false = true := fun h k => h.trans k
  rcases hq with rfl | rfl | rfl | rfl | rfl | rfl | rfl | rfl | rfl | rfl | rfl | rfl | rfl | rfl | rfl | rfl <;> first | (exact absurd h4 (by decide +kernel)) | (cases hx; done) | skip
  simp only [Option.some.injEq, Prod.mk.injEq, D.int.injEq] at hx
  obtain ⟨_, rfl⟩ := hx
  exact go (b := isAu (.tup [.str "percent", .int i]) || (isSz (.tup [.str "percent", .int i]) || isShr (.tup [.str "percent", .int i]))) rfl (by rw [shr_of h1 h2]; rfl)
/-- a good part of a value of four parts -/
theorem bd_four {q : Rw} {l : Int} {p : D} (hq : q ∈ bdT false) (hx : q.2.2 = some (l, p)) (h4 : four4 q.1 = true) :
    (∀ i : Int, l ≤ i → i ≤ 1000000 → tst q.1 (.int i) = true) ∧ (∀ k i : Int, p = .int k → k ≤ i → i ≤ 1000000 → tst q.1 (.tup [.str "percent", .int i]) = true) := by
  simp only [bdT, List.mem_cons, List.not_mem_nil, or_false] at hq
  have go : ∀ {w : Str} {v : D} {b : Bool}, tst w v = b → b = true → tst w v = true := fun h k => h.trans k
  have wp : ∀ i : Int, -1000000 ≤ i → i ≤ 1000000 → isPct (.tup [.str "percent", .int i]) = true := by
    intro i h1 h2
    show (isS "percent" (.str "percent") && isWh (.int i)) = true
    rw [wh_of h1 h2]; rfl
  rcases hq with rfl | rfl | rfl | rfl | rfl | rfl | rfl | rfl | rfl | rfl | rfl | rfl | rfl | rfl | rfl | rfl <;> first | (exact absurd h4 (by decide +kernel)) | skip
  all_goals simp only [Option.some.injEq, Prod.mk.injEq] at hx
  all_goals obtain ⟨rfl, rfl⟩ := hx
  · refine ⟨fun i h1 h2 => go (b := isOff (.int i)) rfl ?_, fun k i e h1 h2 => go (b := isOff (.tup [.str "percent", .int i])) rfl ?_⟩
    · show (isN _ || (isWh (.int i) || isPct _)) = true
      rw [wh_of h1 h2]; rfl
    · cases e
      show (isN _ || (isWh _ || isPct (.tup [.str "percent", .int i]))) = true
      rw [wp i h1 h2]; rfl
  · refine ⟨fun i h1 h2 => go (b := isMar (.int i)) rfl ?_, fun k i e h1 h2 => go (b := isMar (.tup [.str "percent", .int i])) rfl ?_⟩
    · show (isAu _ || (isWh (.int i) || isPct _)) = true
      rw [wh_of h1 h2]; rfl
    · cases e
      show (isAu _ || (isWh _ || isPct (.tup [.str "percent", .int i]))) = true
      rw [wp i h1 h2]; rfl
  · exact ⟨fun i h1 h2 => go (b := isSz (.int i)) rfl (sz_of h1 h2), fun k i e => nomatch e⟩
  · refine ⟨fun i h1 h2 => go (b := isPad (.int i)) rfl ?_, fun k i e h1 h2 => go (b := isPad (.tup [.str "percent", .int i])) rfl ?_⟩
    · show (isSz (.int i) || isShr _) = true
      rw [sz_of h1 h2]; rfl
    · cases e
      show (isSz _ || isShr (.tup [.str "percent", .int i])) = true
      rw [shr_of h1 h2]; rfl

end K85

set_option Elab.async false
set_option linter.all false
set_option maxRecDepth 100000
set_option maxHeartbeats 4000000
namespace K85
open L2 DI PySem PySem.Spec PyProof.Rows
/-! ### styles as they are drawn -/
theorem styleV_ne {w : Str} {v : D} {pl : Bool} (hw : (w == "height") = false) : styleV w v pl = styleV w v false := by
  unfold styleV
  rw [hw]
  simp
theorem styleV_h (v : D) (pl : Bool) : styleV "height" v pl = if pl = true then isAu v || (isSz v || isShr v) else isAu v || isSz v := by
  cases pl <;> rfl
theorem styleV_up {w : Str} {v : D} {pl : Bool} (h : styleV w v false = true) : styleV w v pl = true := by
  cases hw : (w == ("height" : Str)) with
  | false => rw [styleV_ne hw]; exact h
  | true =>
    have e : w = "height" := by simpa using hw
    subst e
    rw [styleV_h] at h ⊢
    cases pl
    · exact h
    · simp only [Bool.false_eq_true, if_false, if_true, Bool.or_eq_true] at h ⊢
      rcases h with h | h
      · exact .inl h
      · exact .inr (.inl h)
theorem lookK_put {κ : Type} [DecidableEq κ] {kvs : List (κ × D)} {k k' : κ} {v : D} : lookK (putD kvs k v) k' = if k = k' then some v else lookK kvs k' := by
  unfold putD
  split
  · rename_i h
    induction kvs with
    | nil => simp at h
    | cons q r ih =>
      rw [List.map_cons]
      unfold lookK at ih ⊢
      by_cases e : q.1 = k
      · rw [if_pos e]
        by_cases e2 : k = k'
        · rw [List.find?_cons_of_pos (by simpa using e.trans e2), if_pos e2]; rfl
        · rw [if_neg e2, List.find?_cons_of_neg (by simpa [e] using e2), List.find?_cons_of_neg (by simpa [e] using e2)]
          by_cases h2 : (r.any fun kv => decide (kv.1 = k)) = true
          · have := ih h2
            rw [if_neg e2] at this
            exact this
          · congr 2
            have h3 : ∀ z ∈ r, ¬ z.1 = k := fun z hz he => h2 (List.any_eq_true.mpr ⟨z, hz, by simpa using he⟩)
            rw [List.map_congr_left (g := id) fun z hz => by rw [if_neg (h3 z hz)]; rfl, List.map_id]
      · rw [if_neg e]
        have h2 : (r.any fun kv => decide (kv.1 = k)) = true := by
          rw [List.any_cons, decide_eq_false e, Bool.false_or] at h
          exact h
        by_cases e2 : q.1 = k'
        · rw [List.find?_cons_of_pos (by simpa using e2), List.find?_cons_of_pos (by simpa using e2), if_neg (fun z => e (e2.trans z.symm))]
        · rw [List.find?_cons_of_neg (by simpa using e2), List.find?_cons_of_neg (by simpa using e2)]
          exact ih h2
  · rename_i h
    have h : ∀ z ∈ kvs, ¬ z.1 = k := fun z hz he => h (List.any_eq_true.mpr ⟨z, hz, by simpa using he⟩)
    unfold lookK
    rw [List.find?_append]
    by_cases e : k = k'
    · subst e
      rw [if_pos rfl, List.find?_eq_none.mpr (fun z hz => by simpa using h z hz)]
      simp
    · rw [if_neg e]
      have e' : List.find? (fun kv => decide (kv.1 = k')) [(k, v)] = none := by simp [e]
      rw [e', Option.or_none]
theorem lookK_drop {κ : Type} [DecidableEq κ] {kvs : List (κ × D)} {k k' : κ} : lookK (dropD kvs k) k' = if k = k' then none else lookK kvs k' := by
  unfold lookK dropD
  rw [List.find?_filter]
  by_cases e : k = k'
  · subst e
    rw [if_pos rfl, List.find?_eq_none.mpr (fun z _ => by simp)]
    rfl
  · rw [if_neg e]
    congr 2
    funext z
    by_cases e2 : z.1 = k'
    · have : ¬ z.1 = k := fun q => e (q.symm.trans e2)
      simp [e2]
      try exact fun z => e z.symm
    · simp [e2]
theorem nd_look {κ : Type} [DecidableEq κ] : ∀ {kvs : List (κ × D)}, (kvs.map (·.1)).Nodup → ∀ kv ∈ kvs, lookK kvs kv.1 = some kv.2
  | [], _, kv, h => nomatch h
  | q :: r, h, kv, hk => by
    rw [List.map_cons, List.nodup_cons] at h
    unfold lookK
    rcases List.mem_cons.mp hk with rfl | hk
    · rw [List.find?_cons_of_pos (by simp)]; rfl
    · have : ¬ q.1 = kv.1 := fun e => h.1 (List.mem_map.mpr ⟨kv, hk, e.symm⟩)
      rw [List.find?_cons_of_neg (by simpa using this)]
      exact nd_look h.2 kv hk
theorem fd_lay : FD.all (fun q => PyData.canLay0 (.str q.1)) = true := by decide +kernel
/-- a style as drawn; pl: beside place absolute -/
structure SD (pl : Bool) (kvs : List (Key × D)) : Prop where
  nd : (kvs.map (·.1)).Nodup
  all : ∀ kv ∈ kvs, ∃ w, kv.1 = .inr w ∧ (FD.lookup w).isSome = true ∧ styleV w kv.2 pl = true ∧ (∀ S, VOk S kv.2) ∧ ∀ xs, kv.2 = .tup xs → xs.length ≤ 1000000
theorem SD.nil {pl : Bool} : SD pl [] := ⟨List.nodup_nil, fun _ h => nomatch h⟩
theorem SD.up {pl : Bool} {kvs : List (Key × D)} (h : SD false kvs) : SD pl kvs := ⟨h.nd, fun kv hk => let ⟨w, a, b, c, d⟩ := h.all kv hk; ⟨w, a, b, styleV_up c, d⟩⟩
theorem SD.kok {pl : Bool} {kvs : List (Key × D)} (h : SD pl kvs) (S : Sto) : KOk S kvs := by
  refine ⟨nd_look h.nd, fun kv hk => ?_, fun kv hk xs e => ?_, fun kv hk w e => ?_⟩
  · obtain ⟨w, a, b, c, d, e⟩ := h.all kv hk; exact d S
  · obtain ⟨w, a, b, c, d, f⟩ := h.all kv hk; exact f xs e
  · obtain ⟨w', a, b, c, d, f⟩ := h.all kv hk
    rw [a] at e; cases e
    obtain ⟨v, hv⟩ := Option.isSome_iff_exists.mp b
    exact List.all_eq_true.mp fd_lay _ (look_mem hv)
theorem SD.good {kvs : List (Key × D)} (h : SD (plc kvs) kvs) : styleD kvs = true := by
  unfold styleD
  rw [List.all_eq_true]
  intro kv hk
  obtain ⟨w, a, b, c, _⟩ := h.all kv hk
  unfold kvOk
  rw [a]
  simp only [b, c, Bool.and_self]
theorem SD.drop {pl : Bool} {kvs : List (Key × D)} (h : SD pl kvs) (k : Key) : SD pl (dropD kvs k) := by
  refine ⟨(List.Sublist.map _ List.filter_sublist).nodup h.nd, fun kv hk => h.all kv (List.mem_filter.mp hk).1⟩
theorem SD.put {pl : Bool} {kvs : List (Key × D)} (h : SD pl kvs) {w : Str} {v : D} (hw : (FD.lookup w).isSome = true) (hg : styleV w v pl = true) (hv : ∀ S, VOk S v) (hl : ∀ xs, v = .tup xs → xs.length ≤ 1000000) : SD pl (putD kvs (.inr w) v) := by
  unfold putD
  split
  · refine ⟨?_, fun kv hk => ?_⟩
    · rw [List.map_map]
      have : ((fun kv : Key × D => kv.1) ∘ fun kv : Key × D => if kv.1 = (.inr w : Key) then (kv.1, v) else kv) = fun kv => kv.1 := by
        funext kv
        show (if _ then _ else _ : Key × D).1 = _
        split <;> rfl
      rw [this]; exact h.nd
    · obtain ⟨q, hq, rfl⟩ := List.mem_map.mp hk
      by_cases e : q.1 = (.inr w : Key)
      · rw [if_pos e]; exact ⟨w, e, hw, hg, hv, hl⟩
      · rw [if_neg e]; exact h.all q hq
  · rename_i hn
    refine ⟨?_, fun kv hk => ?_⟩
    · rw [List.map_append, List.nodup_append]
      refine ⟨h.nd, by simp, fun a ha b hb e => ?_⟩
      simp only [List.map_cons, List.map_nil, List.mem_singleton] at hb
      subst hb; subst e
      obtain ⟨q, hq, e⟩ := List.mem_map.mp ha
      exact hn (List.any_eq_true.mpr ⟨q, hq, by simpa using e⟩)
    · rcases List.mem_append.mp hk with hk | hk
      · exact h.all kv hk
      · rw [List.mem_singleton.mp hk]; exact ⟨w, rfl, hw, hg, hv, hl⟩
theorem SD.down {kvs : List (Key × D)} (h : SD true kvs) (hh : lookK kvs (.inr "height") = none) : SD false kvs := by
  refine ⟨h.nd, fun kv hk => ?_⟩
  obtain ⟨w, a, b, c, d⟩ := h.all kv hk
  refine ⟨w, a, b, ?_, d⟩
  have hw : (w == ("height" : Str)) = false := by
    rw [beq_eq_false_iff_ne]
    rintro rfl
    have := nd_look h.nd kv hk
    rw [a, hh] at this; cases this
  rwa [styleV_ne hw] at c
theorem plc_put {kvs : List (Key × D)} {w : Str} {v : D} (h : w ≠ "place") : plc (putD kvs (.inr w) v) = plc kvs := by
  unfold plc
  rw [lookK_put, if_neg (fun e => h (Sum.inr.inj e))]
theorem plc_drop {kvs : List (Key × D)} {w : Str} (h : w ≠ "place") : plc (dropD kvs (.inr w)) = plc kvs := by
  unfold plc
  rw [lookK_drop, if_neg (fun e => h (Sum.inr.inj e))]
/-! ### good trees -/
mutual
inductive GT (S : Sto) : Str → Nat → D → Nat → Prop
  | brk {ab : Str} {n : Nat} : GT S ab n (.tup [.str "break"]) 1
  | txt {ab : Str} {n : Nat} {x : Str} : (decide (x.length ≤ 1000) && PyData.canLay0 (.str x)) = true → textB (.str x) = true → GT S ab n (.tup [.str "text", .str x]) 1
  | img {ab : Str} {n a : Nat} {kvs : List (Key × D)} {w h : Int} : S[a]? = some (.dk kvs) → SD (plc kvs) kvs → (isSz (.int w) && isSz (.int h)) = true → GT S ab n (.tup [.str "image", .loc a, .int w, .int h]) 1
  | kind {ab k : Str} {n a m : Nat} {kvs : List (Key × D)} {ks : List D} : memK k = true → S[a]? = some (.dk kvs) → SD (plc kvs) kvs → (ab = "inline" → blk k = true → outL kvs = true) → ks.length ≤ 1000 → GTs S k n ks m → GT S ab n (.tup [.str k, .loc a, .tup ks]) (m + 1)
inductive GTs (S : Sto) : Str → Nat → List D → Nat → Prop
  | nil {k : Str} {n : Nat} : GTs S k n [] 0
  | cons {k : Str} {n s m : Nat} {d : D} {ks : List D} : GT S k n d s → GTs S k (n + 1) ks m → GTs S k (n + 1) (d :: ks) (s + m)
end
theorem SD.gs {S : Sto} {a : Nat} {kvs : List (Key × D)} (h : SD (plc kvs) kvs) (e : S[a]? = some (.dk kvs)) : GS S a kvs := ⟨e, h.kok S, h.good⟩
mutual
theorem GT.mono {S S' : Sto} (hs : ∀ (a : Nat) (kvs : List (Key × D)), S[a]? = some (.dk kvs) → S'[a]? = some (.dk kvs)) : ∀ {ab : Str} {n : Nat} {d : D} {s : Nat}, GT S ab n d s → GT S' ab n d s
  | _, _, _, _, .brk => .brk
  | _, _, _, _, .txt a b => .txt a b
  | _, _, _, _, .img a b c => .img (hs _ _ a) b c
  | _, _, _, _, .kind a b c d e f => .kind a (hs _ _ b) c d e (GTs.mono hs f)
theorem GTs.mono {S S' : Sto} (hs : ∀ (a : Nat) (kvs : List (Key × D)), S[a]? = some (.dk kvs) → S'[a]? = some (.dk kvs)) : ∀ {ab : Str} {n : Nat} {d : List D} {s : Nat}, GTs S ab n d s → GTs S' ab n d s
  | _, _, _, _, .nil => .nil
  | _, _, _, _, .cons a b => .cons (GT.mono hs a) (GTs.mono hs b)
end
mutual
theorem GT.lift {S : Sto} : ∀ {ab : Str} {n n' : Nat} {d : D} {s : Nat}, n ≤ n' → GT S ab n d s → GT S ab n' d s
  | _, _, _, _, _, _, .brk => .brk
  | _, _, _, _, _, _, .txt a b => .txt a b
  | _, _, _, _, _, _, .img a b c => .img a b c
  | _, _, _, _, _, h, .kind a b c d e f => .kind a b c d e (GTs.lift h f)
theorem GTs.lift {S : Sto} : ∀ {ab : Str} {n n' : Nat} {d : List D} {s : Nat}, n ≤ n' → GTs S ab n d s → GTs S ab n' d s
  | _, _, _, _, _, _, .nil => .nil
  | _, _, 0, _, _, h, .cons a b => absurd h (by omega)
  | _, _, _ + 1, _, _, h, .cons a b => .cons (GT.lift (by omega) a) (GTs.lift h b)
end
theorem GTs.app {S : Sto} {k : Str} {n : Nat} {d : D} {s : Nat} (g : GT S k n d s) : ∀ {ks : List D} {m : Nat}, GTs S k (n + 1) ks m → GTs S k (n + 1) (ks ++ [d]) (m + s)
  | _, _, .nil => by rw [Nat.zero_add]; exact .cons g .nil
  | _, _, .cons a b => by
    rw [Nat.add_assoc]
    exact .cons a (GTs.app g b)
mutual
theorem GT.tr {S : Sto} : ∀ {ab : Str} {n : Nat} {d : D} {s : Nat}, GT S ab n d s → TrOk S d
  | _, _, _, _, .brk => tr_brk
  | _, _, _, _, .txt a b => tr_txt a
  | _, _, _, _, .img a b c => tr_img (b.gs a) c
  | _, _, _, _, .kind a b c d e f => tr_kind a (c.gs b) e (GTs.tr f)
theorem GTs.tr {S : Sto} : ∀ {ab : Str} {n : Nat} {d : List D} {s : Nat}, GTs S ab n d s → ∀ c ∈ d, TrOk S c
  | _, _, _, _, .nil => fun _ h => nomatch h
  | _, _, _, _, .cons a b => fun c h => by
    rcases List.mem_cons.mp h with rfl | h
    · exact GT.tr a
    · exact GTs.tr b c h
end
def entsF (p : List Nat) (k : Str) : Nat → List D → List En
  | _, [] => []
  | i, d :: r => ⟨p ++ [i], d, some k⟩ :: entsF p k (i + 1) r
theorem ents_ix {p : List Nat} {k : Str} : ∀ (ks : List D) (i : Nat), (ks.mapIdx fun j d => (⟨p ++ [i + j], d, some k⟩ : En)) = entsF p k i ks
  | [], _ => rfl
  | d :: r, i => by
    rw [List.mapIdx_cons]
    show _ = _ :: entsF p k (i + 1) r
    rw [← ents_ix r (i + 1)]
    congr 1
    congr 1
    funext j d
    rw [Nat.add_assoc, Nat.add_comm 1 j]
theorem kids_ents {p : List Nat} {k : Str} {st : D} {ks : List D} (hk : memK k = true) : kidsE p (.tup [.str k, st, .tup ks]) = entsF p k 0 ks := by
  rw [kids_eq hk, ← ents_ix]
  unfold ixs
  have e : ∀ (l : List D) (f : Nat → D → Nat × D) (g : Nat × D → En), (l.mapIdx f).map g = l.mapIdx fun i d => g (f i d) := fun l f g => by
    rw [List.mapIdx_eq_zipIdx_map, List.mapIdx_eq_zipIdx_map, List.map_map]; rfl
  rw [e]
  congr 1
  funext j d
  rw [Nat.zero_add]
theorem rule_kind {S : Sto} {ab k : Str} {a : Nat} {kvs : List (Key × D)} {ks : List D} (hk : memK k = true) (g : GS S a kvs) (h : ab = "inline" → blk k = true → outL kvs = true) : ruleB S (some ab) (.tup [.str k, .loc a, .tup ks]) = false := by
  rw [(kind_gs hk g).2.2]
  show (false || ((ab == "inline") && (blk k && !outL kvs))) = false
  rw [Bool.false_or]
  cases e : (ab == ("inline" : Str)) with
  | false => rfl
  | true =>
    rw [Bool.true_and]
    cases e2 : blk k with
    | false => rfl
    | true => rw [h (by simpa using e) e2]; rfl
mutual
theorem GT.gone {S : Sto} : ∀ {ab : Str} {n : Nat} {d : D} {s : Nat}, GT S ab n d s → ∀ {p : List Nat} {c : Nat} {r : List En}, p.length + n ≤ 10 → c + s ≤ 120 → go S (130 - c) c (⟨p, d, some ab⟩ :: r) = go S (130 - (c + s)) (c + s) r
  | _, _, _, _, .brk, p, c, r, hp, hc => by
    rw [go_ok (by omega) brk_ok.2.1 (by omega) (brk_ok.2.2 _), if_pos hc]; rfl
  | _, _, _, _, .txt a b, p, c, r, hp, hc => by
    rw [go_ok (by omega) ((txt_ok a).2.1.trans b) (by omega) ((txt_ok a).2.2 _), if_pos hc]; rfl
  | _, _, _, _, .img a b w, p, c, r, hp, hc => by
    have g := img_gs (b.gs a) w
    rw [go_ok (by omega) g.2.1 (by omega) (g.2.2 _), if_pos hc]; rfl
  | _, _, _, _, .kind (m := m) a b w x y z, p, c, r, hp, hc => by
    have g := w.gs b
    rw [go_ok (by omega) (kind_gs a g).2.1 (by omega) (rule_kind a g x), if_pos (by omega), kids_ents a, GTs.gone z hp (by omega)]
    rw [show c + 1 + m = c + (m + 1) by omega]
theorem GTs.gone {S : Sto} : ∀ {k : Str} {n : Nat} {ks : List D} {s : Nat}, GTs S k n ks s → ∀ {p : List Nat} {c i : Nat} {r : List En}, p.length + n ≤ 10 → c + s ≤ 120 → go S (130 - c) c (entsF p k i ks ++ r) = go S (130 - (c + s)) (c + s) r
  | _, _, _, _, .nil, p, c, i, r, hp, hc => rfl
  | _, _, _, _, .cons (s := s) (m := m) a b, p, c, i, r, hp, hc => by
    show go S (130 - c) c (⟨p ++ [i], _, some _⟩ :: (entsF p _ (i + 1) _ ++ r)) = _
    rw [GT.gone a (by rw [List.length_append, List.length_singleton]; omega) (by omega), GTs.gone b hp (by omega), Nat.add_assoc]
end
/-- a node exchanged -/
def withD (x : D) : List Nat → D → D
  | [], _ => x
  | i :: sp, .tup [k, st, .tup ks] => .tup [k, st, .tup (ks.set i (withD x sp (ks.getD i .non)))]
  | _ :: _, d => d
def AtD : List Nat → D → Prop
  | [], _ => True
  | i :: sp, .tup [_, _, .tup ks] => ∃ d, ks[i]? = some d ∧ AtD sp d
  | _ :: _, _ => False
/-- what a walk does behind an exchanged node -/
structure Rst (S : Sto) (p sp : List Nat) (x : D) (n c s : Nat) (l r : List En) : Prop where
  ex : ∃ ab n' s0 s1 s2 rest d', s0 + s1 + s2 = s ∧ (p ++ sp).length + n' ≤ p.length + n ∧ GT S ab n' d' s1 ∧ go S (130 - c) c l = go S (130 - (c + s0)) (c + s0) (⟨p ++ sp, x, some ab⟩ :: rest) ∧ ∀ c', c' + s2 ≤ 120 → go S (130 - c') c' rest = go S (130 - (c' + s2)) (c' + s2) r
theorem GTs.cut {S : Sto} {k : Str} : ∀ {n : Nat} {ks : List D} {m : Nat}, GTs S k n ks m → ∀ {i : Nat} {d : D}, ks[i]? = some d → ∃ n' s0 s s2, n = n' + 1 ∧ s0 + s + s2 = m ∧ GT S k n' d s ∧
    ∀ (x : D) (p : List Nat) (c j : Nat) (r : List En), p.length + n ≤ 10 → c + s0 ≤ 120 → go S (130 - c) c (entsF p k j (ks.set i x) ++ r) = go S (130 - (c + s0)) (c + s0) (⟨p ++ [j + i], x, some k⟩ :: (entsF p k (j + i + 1) (ks.drop (i + 1)) ++ r)) ∧
      ∀ c', c' + s2 ≤ 120 → go S (130 - c') c' (entsF p k (j + i + 1) (ks.drop (i + 1)) ++ r) = go S (130 - (c' + s2)) (c' + s2) r
  | _, _, _, .nil, i, d, h => by simp at h
  | _, _, _, .cons (s := s) (m := m) a b, 0, d, h => by
    simp only [List.getElem?_cons_zero, Option.some.injEq] at h
    subst h
    refine ⟨_, 0, s, m, rfl, by omega, a, fun x p c j r hp hc => ⟨rfl, fun c' hc' => ?_⟩⟩
    exact GTs.gone b hp hc'
  | _, _, _, .cons (n := n) (s := s) (m := m) a b, i + 1, d, h => by
    simp only [List.getElem?_cons_succ] at h
    obtain ⟨n', s0, s', s2, e1, e2, g, q⟩ := GTs.cut b h
    refine ⟨n', s + s0, s', s2, e1, by omega, g, fun x p c j r hp hc => ?_⟩
    obtain ⟨q1, q2⟩ := q x p (c + s) (j + 1) r hp (by omega)
    rw [show j + 1 + i = j + (i + 1) by omega] at q1 q2
    refine ⟨?_, q2⟩
    show go S (130 - c) c (⟨p ++ [j], _, some k⟩ :: (entsF p k (j + 1) _ ++ r)) = _
    rw [GT.gone a (by rw [List.length_append, List.length_singleton]; omega) (by omega), q1, Nat.add_assoc]
    rfl
theorem with_eq {x d' k st : D} {i : Nat} {sp : List Nat} {ks : List D} (hd : ks[i]? = some d') : withD x (i :: sp) (.tup [k, st, .tup ks]) = .tup [k, st, .tup (ks.set i (withD x sp d'))] := by
  show D.tup [_, _, .tup (ks.set i (withD x sp (ks.getD i .non)))] = _
  rw [List.getD_eq_getElem?_getD, hd]
  rfl
theorem GT.at {S : Sto} {x : D} : ∀ {sp : List Nat} {ab : Str} {n : Nat} {d : D} {s : Nat}, GT S ab n d s → AtD sp d → ∀ {p : List Nat} {c : Nat} {r : List En}, p.length + n ≤ 10 → c + s ≤ 120 → Rst S p sp x n c s (⟨p, withD x sp d, some ab⟩ :: r) r
  | [], ab, n, d, s, g, h, p, c, r, hp, hc => ⟨⟨ab, n, 0, s, 0, r, d, by omega, by simp, g, by rw [List.append_nil]; rfl, fun _ _ => rfl⟩⟩
  | i :: sp, ab, n, _, _, .brk, h, p, c, r, hp, hc => by cases h
  | i :: sp, ab, n, _, _, .txt a b, h, p, c, r, hp, hc => by cases h
  | i :: sp, ab, n, _, _, .img a b w, h, p, c, r, hp, hc => by cases h
  | i :: sp, ab, n, _, _, .kind (m := m) (ks := ks) a b w u y z, h, p, c, r, hp, hc => by
    obtain ⟨d', hd, ha⟩ := h
    obtain ⟨n', s0, s1, s2, e1, e2, g', q⟩ := z.cut hd
    have g := w.gs b
    rw [with_eq hd]
    obtain ⟨q1, q2⟩ := q (withD x sp d') p (c + 1) 0 r hp (by omega)
    rw [Nat.zero_add] at q1 q2
    obtain ⟨ab', n2, t0, t1, t2, rest, d2, f1, f2, f3, f4, f5⟩ := (GT.at g' ha (p := p ++ [i]) (c := c + 1 + s0) (r := entsF p _ (i + 1) (ks.drop (i + 1)) ++ r) (by rw [List.length_append, List.length_singleton]; omega) (by omega)).ex
    refine ⟨⟨ab', n2, 1 + s0 + t0, t1, t2 + s2, rest, d2, by omega, ?_, f3, ?_, fun c' hc' => ?_⟩⟩
    · simp only [List.length_append, List.length_cons, List.length_nil] at f2 ⊢
      omega
    · rw [go_ok (by omega) (kind_gs a g).2.1 (by omega) (rule_kind a g u), if_pos (by omega), kids_ents a, q1, f4]
      rw [List.append_assoc, show c + 1 + s0 + t0 = c + (1 + s0 + t0) by omega]
      rfl
    · rw [f5 c' (by omega), q2 (c' + t2) (by omega), Nat.add_assoc]
/-- a good tree -/
structure GTop (S : Sto) (d : D) (s : Nat) : Prop where
  ex : ∃ k a kvs ks m, d = .tup [.str k, .loc a, .tup ks] ∧ s = m + 1 ∧ blk k = true ∧ S[a]? = some (.dk kvs) ∧ SD (plc kvs) kvs ∧ topL kvs = true ∧ ks.length ≤ 1000 ∧ GTs S k 10 ks m
theorem blk_memK {k : Str} (h : blk k = true) : memK k = true := by
  unfold blk memS at h
  simp only [List.any_cons, List.any_nil, Bool.or_false, Bool.or_eq_true, beq_iff_eq] at h
  rcases h with rfl | rfl <;> decide +kernel
theorem GTop.mono {S S' : Sto} (hs : ∀ (a : Nat) (kvs : List (Key × D)), S[a]? = some (.dk kvs) → S'[a]? = some (.dk kvs)) {d : D} {s : Nat} (h : GTop S d s) : GTop S' d s :=
  let ⟨k, a, kvs, ks, m, e1, e2, e3, e4, e5, e6, e7, e8⟩ := h.ex
  ⟨⟨k, a, kvs, ks, m, e1, e2, e3, hs _ _ e4, e5, e6, e7, e8.mono hs⟩⟩
theorem GTop.tr {S : Sto} {d : D} {s : Nat} (h : GTop S d s) : TrOk S d := by
  obtain ⟨k, a, kvs, ks, m, rfl, _, e3, e4, e5, e6, e7, e8⟩ := h.ex
  exact tr_kind (blk_memK e3) (e5.gs e4) e7 e8.tr
theorem rule_top {S : Sto} {k : Str} {a : Nat} {kvs : List (Key × D)} {ks : List D} (hk : blk k = true) (g : GS S a kvs) (h : topL kvs = true) : ruleB S none (.tup [.str k, .loc a, .tup ks]) = false := by
  rw [(kind_gs (blk_memK hk) g).2.2, hk, h]
  rfl
theorem GTop.gone {S : Sto} {d : D} {s : Nat} (h : GTop S d s) (hs : s ≤ 120) : go S 130 0 [⟨[], d, none⟩] = some none := by
  obtain ⟨k, a, kvs, ks, m, rfl, rfl, e3, e4, e5, e6, e7, e8⟩ := h.ex
  have g := e5.gs e4
  rw [show (130 : Nat) = 130 - 0 from rfl, go_ok (by omega) (kind_gs (blk_memK e3) g).2.1 (by simp) (rule_top e3 g e6), if_pos (by omega), kids_ents (blk_memK e3), e8.gone (by simp) (by omega), go_nil]
/-- a walk over a tree with a node exchanged below the top -/
theorem GTop.at {S : Sto} {d x : D} {s i : Nat} {sp : List Nat} (h : GTop S d s) (hs : s ≤ 120) (ha : AtD (i :: sp) d) :
    ∃ ab n' s0 s1 s2 rest d', s0 + s1 + s2 = s ∧ (i :: sp).length + n' ≤ 10 ∧ GT S ab n' d' s1 ∧ go S 130 0 [⟨[], withD x (i :: sp) d, none⟩] = go S (130 - s0) s0 (⟨i :: sp, x, some ab⟩ :: rest) ∧ ∀ c', c' + s2 ≤ 120 → go S (130 - c') c' rest = some none := by
  obtain ⟨k, a, kvs, ks, m, rfl, rfl, e3, e4, e5, e6, e7, e8⟩ := h.ex
  have g := e5.gs e4
  obtain ⟨d', hd, ha⟩ := ha
  obtain ⟨n', s0, s1, s2, f1, f2, g', q⟩ := e8.cut hd
  rw [with_eq hd]
  obtain ⟨q1, q2⟩ := q (withD x sp d') [] 1 0 [] (by simp) (by omega)
  rw [Nat.zero_add] at q1 q2
  obtain ⟨ab', n2, t0, t1, t2, rest, d2, h1, h2, h3, h4, h5⟩ := (GT.at g' ha (x := x) (p := [i]) (c := 1 + s0) (r := entsF [] k (i + 1) (ks.drop (i + 1)) ++ []) (by simp; omega) (by omega)).ex
  refine ⟨ab', n2, 1 + s0 + t0, t1, t2 + s2, rest, d2, by omega, ?_, h3, ?_, fun c' hc' => ?_⟩
  · simp only [List.length_append, List.length_cons, List.length_nil] at h2 ⊢
    omega
  · rw [show go S 130 0 = go S (130 - 0) 0 from rfl, go_ok (by omega) (kind_gs (blk_memK e3) g).2.1 (by simp) (rule_top e3 g e6), if_pos (by omega), kids_ents (blk_memK e3), q1]
    simp only [List.nil_append] at h4 ⊢
    rw [h4]
    rfl
  · rw [h5 c' (by omega), q2 (c' + t2) (by omega), go_nil]
theorem kids_tr {S : Sto} {k : Str} {a i : Nat} {kvs : List (Key × D)} {ks : List D} {x : D} (hk : memK k = true) (g : GS S a kvs) (hl : ks.length ≤ 1000) (h : ∀ c ∈ ks, TrOk S c) (hx : TrOk S x) : TrOk S (.tup [.str k, .loc a, .tup (ks.set i x)]) :=
  tr_kind hk g (by rw [List.length_set]; exact hl) fun c hc => by
    rcases List.mem_or_eq_of_mem_set hc with hc | rfl
    · exact h c hc
    · exact hx
theorem GTs.pick {S : Sto} {k : Str} {n : Nat} {ks : List D} {m i : Nat} {d : D} (h : GTs S k n ks m) (hd : ks[i]? = some d) : ∃ n' s, GT S k n' d s :=
  let ⟨n', _, s, _, _, _, g, _⟩ := h.cut hd
  ⟨n', s, g⟩
theorem GT.with_tr {S : Sto} {x : D} (hx : TrOk S x) : ∀ {sp : List Nat} {ab : Str} {n : Nat} {d : D} {s : Nat}, GT S ab n d s → AtD sp d → TrOk S (withD x sp d)
  | [], _, _, _, _, _, _ => hx
  | i :: sp, _, _, _, _, .brk, h => by cases h
  | i :: sp, _, _, _, _, .txt a b, h => by cases h
  | i :: sp, _, _, _, _, .img a b w, h => by cases h
  | i :: sp, _, _, _, _, .kind a b w u y z, h => by
    obtain ⟨d', hd, ha⟩ := h
    obtain ⟨n', s, g⟩ := z.pick hd
    rw [with_eq hd]
    exact kids_tr a (w.gs b) y z.tr (GT.with_tr hx g ha)
theorem GTop.with_tr {S : Sto} {x d : D} {s : Nat} {sp : List Nat} (hx : TrOk S x) (h : GTop S d s) (ha : AtD sp d) : TrOk S (withD x sp d) := by
  cases sp with
  | nil => exact hx
  | cons i sp =>
    obtain ⟨k, a, kvs, ks, m, rfl, _, e3, e4, e5, e6, e7, e8⟩ := h.ex
    obtain ⟨d', hd, ha⟩ := ha
    obtain ⟨n', s, g⟩ := e8.pick hd
    rw [with_eq hd]
    exact kids_tr (blk_memK e3) (e5.gs e4) e7 e8.tr (g.with_tr hx ha)
theorem GTs.list {S : Sto} {k : Str} : ∀ {n : Nat} {ks : List D} {m : Nat}, GTs S k n ks m → ∃ szs : List Nat, szs.length = ks.length ∧ m = szs.sum ∧ ∀ (i : Nat) (d : D), ks[i]? = some d → ∃ (s n' : Nat), szs[i]? = some s ∧ n = n' + 1 ∧ GT S k n' d s
  | _, _, _, .nil => ⟨[], rfl, rfl, fun i d h => by simp at h⟩
  | _, _, _, .cons (n := n) (s := s) a b => by
    obtain ⟨szs, h1, h2, h3⟩ := GTs.list b
    refine ⟨s :: szs, by simp [h1], by simp [h2], fun i d h => ?_⟩
    cases i with
    | zero =>
      simp only [List.getElem?_cons_zero, Option.some.injEq] at h
      subst h
      exact ⟨s, n, rfl, rfl, a⟩
    | succ i =>
      simp only [List.getElem?_cons_succ] at h ⊢
      exact h3 i d h

end K85

set_option Elab.async false
set_option linter.all false
set_option maxRecDepth 100000
set_option maxHeartbeats 4000000
namespace K85
open L2 DI PySem PySem.Spec PyProof.Rows
/-! ### repr of trees -/
def RB (S : Sto) (d : D) (k b : Nat) : Prop := ∀ f, k ≤ f → ∃ q, toR S f d = some q ∧ q.showable = true ∧ q.depth ≤ k ∧ q.shown.length + 2 ≤ b
theorem RB.up {S : Sto} {d : D} {k k' b b' : Nat} (h : RB S d k b) (hk : k ≤ k') (hb : b ≤ b') : RB S d k' b' := fun f hf =>
  let ⟨q, h1, h2, h3, h4⟩ := h f (by omega)
  ⟨q, h1, h2, by omega, by omega⟩
theorem rb_non {S : Sto} : RB S .non 1 6 := fun f hf => by
  obtain ⟨f, rfl⟩ : ∃ f', f = f' + 1 := ⟨f - 1, by omega⟩
  exact ⟨.none, rfl, rfl, by show 0 ≤ 1; omega, by decide +kernel⟩
theorem rb_bl {S : Sto} {b : Bool} : RB S (.bl b) 1 7 := fun f hf => by
  obtain ⟨f, rfl⟩ : ∃ f', f = f' + 1 := ⟨f - 1, by omega⟩
  exact ⟨.bool b, rfl, rfl, by show 0 ≤ 1; omega, by cases b <;> decide +kernel⟩
theorem rb_int {S : Sto} {i : Int} (h : i.natAbs < 10 ^ 7) : RB S (.int i) 1 10 := fun f hf => by
  obtain ⟨f, rfl⟩ : ∃ f', f = f' + 1 := ⟨f - 1, by omega⟩
  refine ⟨.int i, rfl, ?_, by show 0 ≤ 1; omega, ?_⟩
  · show decide (i.natAbs.log2 < 1920) = true
    refine decide_eq_true ?_
    have : i.natAbs.log2 ≤ i.natAbs.log2 := Nat.le_refl _
    by_cases h0 : i.natAbs = 0
    · rw [h0]; decide
    · rw [Nat.log2_lt h0]
      exact Nat.lt_of_lt_of_le h (by decide +kernel)
  · have := int_text_length_le10 (a := i) (k := 7) (by omega) h
    show (Str.ofString (toString i)).length + 2 ≤ 10
    have e : (Str.ofString (toString i)).length = (toString i).length := PySem.ofString_length _
    omega
theorem rb_str {S : Sto} {x : Str} (h : ∀ c ∈ x.cps.toList, c < 16 ^ 8) : RB S (.str x) 1 (10 * x.length + 4) := fun f hf => by
  obtain ⟨f, rfl⟩ : ∃ f', f = f' + 1 := ⟨f - 1, by omega⟩
  refine ⟨.str x, rfl, rfl, by show 0 ≤ 1; omega, ?_⟩
  have := StrLaws.reprText_len x h
  show (reprText x).length + 2 ≤ _
  omega
theorem rb_list {S : Sto} {k : Nat} : ∀ {xs : List D} {bs : List Nat}, xs.length = bs.length → (∀ (i : Nat) (d : D) (b : Nat), xs[i]? = some d → bs[i]? = some b → RB S d k b) → ∀ f, k ≤ f → ∃ qs, xs.mapM (toR S f) = some qs ∧ PyData.showableAll qs = true ∧ PyData.depthAll qs ≤ k ∧ piled (PyData.shownAll qs) ≤ bs.sum ∧ qs.length = xs.length
  | [], [], _, _, f, hf => ⟨[], rfl, rfl, Nat.zero_le _, Nat.le_refl _, rfl⟩
  | [], _ :: _, h, _, _, _ => by cases h
  | _ :: _, [], h, _, _, _ => by cases h
  | x :: xs, b :: bs, h, hx, f, hf => by
    obtain ⟨q, h1, h2, h3, h4⟩ := hx 0 x b rfl rfl f hf
    obtain ⟨qs, g1, g2, g3, g4, g5⟩ := rb_list (xs := xs) (bs := bs) (by simpa using h) (fun i d b e1 e2 => hx (i + 1) d b (by simpa using e1) (by simpa using e2)) f hf
    refine ⟨q :: qs, ?_, ?_, ?_, ?_, ?_⟩
    · rw [List.mapM_cons, h1, g1]; rfl
    · show (q.showable && PyData.showableAll qs) = true
      rw [h2, g2]; rfl
    · show max q.depth (PyData.depthAll qs) ≤ k
      omega
    · show piled (q.shown :: PyData.shownAll qs) ≤ _
      rw [piled_cons, List.sum_cons]
      omega
    · rw [List.length_cons, g5]; rfl
theorem tup_len (ts : List Str) : (tupleText ts).length ≤ piled ts + 3 := by
  unfold tupleText
  rw [strLen_append, strLen_append]
  have e1 : ((("(" : String) : Str)).length = 1 := rfl
  have e3 : (((if ts.length == 1 then ",)" else ")" : String) : Str)).length ≤ 2 := by split <;> decide
  by_cases h : ts = []
  · subst h
    have e4 : (Str.join ", " []).length = 0 := rfl
    omega
  · have := join_length_add ts h
    omega
theorem dict_len (ts : List Str) : (dictText ts).length ≤ piled ts + 2 := by
  unfold dictText
  rw [strLen_append, strLen_append]
  have e1 : ((("{" : String) : Str)).length = 1 := rfl
  have e3 : ((("}" : String) : Str)).length = 1 := rfl
  by_cases h : ts = []
  · subst h
    have e4 : (Str.join ", " []).length = 0 := rfl
    omega
  · have := join_length_add ts h
    omega
theorem rb_tup {S : Sto} {k : Nat} {xs : List D} {bs : List Nat} (h : xs.length = bs.length) (hx : ∀ (i : Nat) (d : D) (b : Nat), xs[i]? = some d → bs[i]? = some b → RB S d k b) : RB S (.tup xs) (k + 1) (bs.sum + 5) := fun f hf => by
  obtain ⟨f, rfl⟩ : ∃ f', f = f' + 1 := ⟨f - 1, by omega⟩
  obtain ⟨qs, g1, g2, g3, g4, g5⟩ := rb_list h hx f (by omega)
  refine ⟨.tuple qs, ?_, g2, ?_, ?_⟩
  · show (xs.mapM (toR S f)).map PyData.tuple = _
    rw [g1]; rfl
  · show PyData.depthAll qs + 1 ≤ k + 1
    omega
  · show (tupleText (PyData.shownAll qs)).length + 2 ≤ _
    have := tup_len (PyData.shownAll qs)
    omega
theorem rb_tupc {S : Sto} {k b : Nat} {xs : List D} (hx : ∀ x ∈ xs, RB S x k b) : RB S (.tup xs) (k + 1) (xs.length * b + 5) := by
  have := rb_tup (S := S) (k := k) (xs := xs) (bs := List.replicate xs.length b) (by simp) fun i d b' e1 e2 => by
    rw [List.getElem?_replicate] at e2
    split at e2
    · cases e2; exact hx d (List.mem_of_getElem? e1)
    · cases e2
  simpa using this
theorem kv_repr {kb : Nat} : ∀ {kvs : List (Key × D)} {qs : List PyData}, qs.length = kvs.length → (∀ kv ∈ kvs, ∃ w : Str, kv.1 = .inr w ∧ w.length ≤ kb ∧ ∀ c ∈ w.cps.toList, c < 16 ^ 8) → PyData.showableAll qs = true →
    PyData.showableKv ((kvs.map fun w => keyP w.1).zip qs) = true ∧ PyData.depthKv ((kvs.map fun w => keyP w.1).zip qs) ≤ PyData.depthAll qs ∧ piled (PyData.shownKv ((kvs.map fun w => keyP w.1).zip qs)) ≤ piled (PyData.shownAll qs) + kvs.length * (10 * kb + 4)
  | [], [], _, _, _ => ⟨rfl, Nat.le_refl _, Nat.zero_le _⟩
  | [], _ :: _, h, _, _ => by cases h
  | _ :: _, [], h, _, _ => by cases h
  | kv :: kvs, q :: qs, h, hk, hs => by
    have hs' : (q.showable && PyData.showableAll qs) = true := hs
    rw [Bool.and_eq_true] at hs'
    obtain ⟨g1, g2, g3⟩ := kv_repr (kvs := kvs) (qs := qs) (by simpa using h) (fun kv hkv => hk kv (List.mem_cons_of_mem _ hkv)) hs'.2
    obtain ⟨w, e, hw, hc⟩ := hk kv List.mem_cons_self
    have ek : keyP kv.1 = .str w := by rw [e]; rfl
    rw [List.map_cons, List.zip_cons_cons, ek]
    refine ⟨?_, ?_, ?_⟩
    · show (true && q.showable && PyData.showableKv _) = true
      rw [hs'.1, g1]; rfl
    · show max (max 0 q.depth) (PyData.depthKv _) ≤ max q.depth (PyData.depthAll qs)
      omega
    · show piled ((reprText w ++ ": " ++ q.shown) :: PyData.shownKv _) ≤ piled (q.shown :: PyData.shownAll qs) + (kvs.length + 1) * _
      rw [piled_cons, piled_cons, strLen_append, strLen_append]
      have e1 : (((": " : String) : Str)).length = 2 := rfl
      have := StrLaws.reprText_len w hc
      have e2 : (kvs.length + 1) * (10 * kb + 4) = kvs.length * (10 * kb + 4) + (10 * kb + 4) := by rw [Nat.add_mul, Nat.one_mul]
      omega
theorem rb_dict {S : Sto} {k b kb a : Nat} {kvs : List (Key × D)} (h : S[a]? = some (.dk kvs)) (hx : ∀ kv ∈ kvs, RB S kv.2 k b) (hk : ∀ kv ∈ kvs, ∃ w : Str, kv.1 = .inr w ∧ w.length ≤ kb ∧ ∀ c ∈ w.cps.toList, c < 16 ^ 8) :
    RB S (.loc a) (k + 1) (kvs.length * b + kvs.length * (10 * kb + 4) + 4) := fun f hf => by
  obtain ⟨f, rfl⟩ : ∃ f', f = f' + 1 := ⟨f - 1, by omega⟩
  obtain ⟨qs, g1, g2, g3, g4, g5⟩ := rb_list (S := S) (k := k) (xs := kvs.map (·.2)) (bs := List.replicate kvs.length b) (by simp) (fun i d b' e1 e2 => by
    rw [List.getElem?_replicate] at e2
    split at e2
    · cases e2
      obtain ⟨kv, hkv, rfl⟩ := List.mem_map.mp (List.mem_of_getElem? e1)
      exact hx kv hkv
    · cases e2) f (by omega)
  obtain ⟨r1, r2, r3⟩ := kv_repr (qs := qs) (by simpa using g5) hk g2
  refine ⟨.dict ((kvs.map fun w : Key × D => keyP w.1).zip qs), ?_, r1, ?_, ?_⟩
  · simp only [toR, h]
    rw [g1]; rfl
  · show PyData.depthKv _ + 1 ≤ k + 1
    omega
  · show (dictText (PyData.shownKv _)).length + 2 ≤ _
    have := dict_len (PyData.shownKv ((kvs.map fun w => keyP w.1).zip qs))
    simp at g4
    omega
/-- values of styles are short -/
def smV (v : D) : Bool := isN v || (isAu v || (isWh v || (isPct v || tb v)))
theorem wh_abs {i : Int} (h : isWh (.int i) = true) : i.natAbs < 10 ^ 7 := by
  have : (decide (-1000000 ≤ i) && decide (i ≤ 1000000)) = true := h
  simp only [Bool.and_eq_true, decide_eq_true_eq] at this
  have e : (10 : Nat) ^ 7 = 10000000 := by decide
  omega
theorem isS_eq {s : Str} {d : D} (h : isS s d = true) : d = .str s := by
  cases d with
  | str x =>
    have : (x == s) = true := h
    rw [beq_iff_eq] at this
    rw [this]
  | _ => cases h
theorem asc_lt {x : Str} (h : (x.cps.toList.all fun c => decide (c < 16 ^ 8)) = true) : ∀ c ∈ x.cps.toList, c < 16 ^ 8 := fun c hc => of_decide_eq_true (List.all_eq_true.mp h c hc)
theorem rb_small {S : Sto} {v : D} (h : smV v = true) : RB S v 2 200 := by
  unfold smV at h
  simp only [Bool.or_eq_true] at h
  rcases h with h | h | h | h | h
  · cases v <;> first | exact rb_non.up (by omega) (by omega) | cases h
  · rw [isS_eq h]
    exact (rb_str (asc_lt (by decide +kernel))).up (by omega) (by decide +kernel)
  · obtain ⟨i, rfl⟩ := wh_int h
    exact (rb_int (wh_abs h)).up (by omega) (by omega)
  · unfold isPct at h
    split at h
    · rename_i a b
      rw [Bool.and_eq_true] at h
      rw [isS_eq h.1]
      obtain ⟨i, rfl⟩ := wh_int h.2
      refine (rb_tupc (k := 1) (b := 90) fun x hx => ?_).up (by omega) (by show 2 * 90 + 5 ≤ 200; omega)
      simp only [List.mem_cons, List.not_mem_nil, or_false] at hx
      rcases hx with rfl | rfl
      · exact (rb_str (asc_lt (by decide +kernel))).up (by omega) (by decide +kernel)
      · exact (rb_int (wh_abs h.2)).up (by omega) (by omega)
    · cases h
  · cases v <;> first | exact rb_bl.up (by omega) (by omega) | cases h
theorem wd_short : WD.all (fun q => match q.2 with | .tup os => os.all (fun z => match z with | .str x => decide (x.length ≤ 15) && x.cps.toList.all (fun c => decide (c < 16 ^ 8)) | _ => true) | _ => false) = true := by decide +kernel
theorem rb_style {S : Sto} {w : Str} {v : D} {pl : Bool} (h : styleV w v pl = true) : RB S v 3 900 := by
  have small : smV v = true → RB S v 3 900 := fun h => (rb_small h).up (by omega) (by omega)
  have orS : ∀ {a b : Bool}, (a || b) = true → a = true ∨ b = true := fun h => by simpa using h
  have wh : ∀ {u : D}, isWh u = true → smV u = true := fun h => by unfold smV; rw [h]; simp
  have sz' : ∀ {u : D}, isSz u = true → smV u = true := fun h => wh (Bool.and_eq_true_iff.mp h).1
  have pc : ∀ {u : D}, isPct u = true → smV u = true := fun h => by unfold smV; rw [h]; simp
  have shr : ∀ {u : D}, isShr u = true → smV u = true := fun h => pc (Bool.and_eq_true_iff.mp h).1
  have au : ∀ {u : D}, isAu u = true → smV u = true := fun h => by unfold smV; rw [h]; simp
  have nn : ∀ {u : D}, isN u = true → smV u = true := fun h => by unfold smV; rw [h]; simp
  unfold styleV at h
  split at h
  · rename_i hw
    obtain ⟨os, ho, hf⟩ := wd_tup hw
    unfold wordV at h
    rw [ho] at h
    rcases orS h with h | h
    · exact small (nn (Bool.and_eq_true_iff.mp h).1)
    · obtain ⟨h1, h2⟩ := Bool.and_eq_true_iff.mp h
      obtain ⟨x, rfl⟩ : ∃ x, v = .str x := by
        cases v <;> first | exact ⟨_, rfl⟩ | cases h1
      obtain ⟨z, hz, e⟩ := List.any_eq_true.mp h2
      have hs := List.all_eq_true.mp wd_short _ (look_mem ho)
      have hz' := List.all_eq_true.mp hs z hz
      have : z = .str x := by
        cases z with
        | str y =>
          have : (y == x) = true := e
          rw [beq_iff_eq] at this
          rw [this]
        | _ => cases e
      subst this
      simp only [Bool.and_eq_true, decide_eq_true_eq] at hz'
      exact (rb_str (asc_lt hz'.2)).up (by omega) (by omega)
  · split at h
    · unfold four at h
      obtain ⟨h1, h2⟩ := Bool.and_eq_true_iff.mp h
      obtain ⟨h2, h3⟩ := Bool.and_eq_true_iff.mp h2
      obtain ⟨xs, rfl⟩ : ∃ xs, v = .tup xs := by
        cases v <;> first | exact ⟨_, rfl⟩ | cases h1
      have hl : ((xs.length : Int) == 4) = true := h2
      have hl' : xs.length = 4 := by
        rw [beq_iff_eq] at hl; omega
      refine (rb_tupc (k := 2) (b := 200) fun x hx => rb_small ?_).up (by omega) (by rw [hl']; omega)
      have ht := List.all_eq_true.mp (show xs.all (tst w) = true from h3) x hx
      unfold tst at ht
      split at ht
      · rcases orS ht with ht | ht
        · exact nn ht
        · rcases orS ht with ht | ht
          · exact wh ht
          · exact pc ht
      · split at ht
        · rcases orS ht with ht | ht
          · exact au ht
          · rcases orS ht with ht | ht
            · exact wh ht
            · exact pc ht
        · split at ht
          · exact sz' ht
          · rcases orS ht with ht | ht
            · exact sz' ht
            · exact shr ht
    · split at h
      · rcases orS h with h | h
        · exact small (au h)
        · rcases orS h with h | h
          · exact small (sz' h)
          · exact small (shr h)
      · split at h
        · rcases orS h with h | h
          · exact small (au h)
          · exact small (sz' h)
        · split at h
          · rcases orS h with h | h
            · exact small (nn h)
            · exact small (sz' h)
          · split at h
            · exact small (by unfold smV; rw [h]; simp)
            · split at h
              · exact small (sz' (Bool.and_eq_true_iff.mp h).1)
              · split at h
                · exact small (wh h)
                · exact small (sz' h)
theorem fd_short : FD.all (fun q => decide (q.1.length ≤ 15) && q.1.cps.toList.all (fun c => decide (c < 16 ^ 8))) = true := by decide +kernel
theorem nd_len : ∀ {ks : List Str} {l : List Str}, ks.Nodup → (∀ k ∈ ks, k ∈ l) → ks.length ≤ l.length
  | [], _, _, _ => Nat.zero_le _
  | k :: ks, l, h, hs => by
    rw [List.nodup_cons] at h
    have := nd_len (ks := ks) (l := l.erase k) h.2 fun x hx => (List.mem_erase_of_ne (fun e => h.1 (by rw [← e]; exact hx))).mpr (hs x (List.mem_cons_of_mem _ hx))
    have hk := hs k List.mem_cons_self
    rw [List.length_erase_of_mem hk] at this
    have : 0 < l.length := List.length_pos_of_mem hk
    rw [List.length_cons]
    omega
theorem SD.len {pl : Bool} {kvs : List (Key × D)} (h : SD pl kvs) : kvs.length ≤ 22 := by
  have key : ∀ kvs : List (Key × D), (kvs.map (·.1)).Nodup → (∀ kv ∈ kvs, ∃ w, kv.1 = .inr w ∧ (FD.lookup w).isSome = true) → ∃ ks : List Str, kvs.map (·.1) = ks.map Sum.inr ∧ ∀ k ∈ ks, k ∈ FD.map (·.1) := by
    intro kvs
    induction kvs with
    | nil => exact fun _ _ => ⟨[], rfl, fun _ z => nomatch z⟩
    | cons kv r ih =>
      intro hn ha
      rw [List.map_cons, List.nodup_cons] at hn
      obtain ⟨ks, e, hks⟩ := ih hn.2 fun kv hk => ha kv (List.mem_cons_of_mem _ hk)
      obtain ⟨w, e1, e2⟩ := ha kv List.mem_cons_self
      obtain ⟨v, hv⟩ := Option.isSome_iff_exists.mp e2
      refine ⟨w :: ks, by rw [List.map_cons, List.map_cons, e1, e], fun k hk => ?_⟩
      rcases List.mem_cons.mp hk with rfl | hk
      · exact List.mem_map.mpr ⟨_, look_mem hv, rfl⟩
      · exact hks k hk
  obtain ⟨ks, e, hks⟩ := key kvs h.nd fun kv hk => let ⟨w, a, b, _⟩ := h.all kv hk; ⟨w, a, b⟩
  have hn : ks.Nodup := by
    have := h.nd
    rw [e] at this
    clear hks e
    induction ks with
    | nil => exact List.nodup_nil
    | cons k r ih =>
      rw [List.map_cons, List.nodup_cons] at this
      exact List.nodup_cons.mpr ⟨fun hk => this.1 (List.mem_map.mpr ⟨k, hk, rfl⟩), ih this.2⟩
  have hl := nd_len hn hks
  have e2 : kvs.length = ks.length := by
    have := congrArg List.length e
    simpa using this
  have e3 : (FD.map (·.1)).length = 22 := by decide +kernel
  omega
theorem rb_sd {S : Sto} {a : Nat} {pl : Bool} {kvs : List (Key × D)} (h : S[a]? = some (.dk kvs)) (g : SD pl kvs) : RB S (.loc a) 4 25000 := by
  have hl := g.len
  refine (rb_dict (kb := 15) h (fun kv hk => let ⟨w, a, b, c, _⟩ := g.all kv hk; rb_style c) fun kv hk => ?_).up (by omega) ?_
  · obtain ⟨w, e, b, _⟩ := g.all kv hk
    obtain ⟨v, hv⟩ := Option.isSome_iff_exists.mp b
    have := List.all_eq_true.mp fd_short _ (look_mem hv)
    simp only [Bool.and_eq_true, decide_eq_true_eq] at this
    exact ⟨w, e, this.1, asc_lt this.2⟩
  · have h1 : kvs.length * 900 ≤ 22 * 900 := Nat.mul_le_mul_right _ hl
    have h2 : kvs.length * (10 * 15 + 4) ≤ 22 * (10 * 15 + 4) := Nat.mul_le_mul_right _ hl
    omega
theorem memK_short {k : Str} (h : memK k = true) : k.length ≤ 10 ∧ ∀ c ∈ k.cps.toList, c < 16 ^ 8 := by
  unfold memK memS at h
  simp only [List.any_cons, List.any_nil, Bool.or_false, Bool.or_eq_true, beq_iff_eq] at h
  rcases h with rfl | rfl | rfl | rfl <;> exact ⟨by decide +kernel, asc_lt (by decide +kernel)⟩
theorem rb_kstr {S : Sto} {k : Str} (h : k.length ≤ 10 ∧ ∀ c ∈ k.cps.toList, c < 16 ^ 8) : RB S (.str k) 1 104 := (rb_str h.2).up (by omega) (by omega)
theorem rb_node {S : Sto} {k : Str} {a kk m : Nat} {pl : Bool} {kvs : List (Key × D)} {ks : List D} (hk : memK k = true) (h : S[a]? = some (.dk kvs)) (g : SD pl kvs) (hks : RB S (.tup ks) kk (m * 27000 + 5)) (h4 : 4 ≤ kk) : RB S (.tup [.str k, .loc a, .tup ks]) (kk + 1) ((m + 1) * 27000) := by
  refine (rb_tup (k := kk) (bs := [104, 25000, m * 27000 + 5]) rfl fun i d b e1 e2 => ?_).up (Nat.le_refl _) (by simp only [List.sum_cons, List.sum_nil]; omega)
  match i, e1, e2 with
  | 0, e1, e2 => cases e1; cases e2; exact (rb_kstr (memK_short hk)).up (by omega) (by omega)
  | 1, e1, e2 => cases e1; cases e2; exact (rb_sd h g).up h4 (by omega)
  | 2, e1, e2 => cases e1; cases e2; exact hks
  | i + 3, e1, e2 => simp at e1
theorem rb_kids {S : Sto} {k m : Nat} {ks : List D} (h : ∀ f, k ≤ f → ∃ qs, ks.mapM (toR S f) = some qs ∧ PyData.showableAll qs = true ∧ PyData.depthAll qs ≤ k ∧ piled (PyData.shownAll qs) ≤ m * 27000) : RB S (.tup ks) (k + 1) (m * 27000 + 5) := fun f hf => by
  obtain ⟨f, rfl⟩ : ∃ f', f = f' + 1 := ⟨f - 1, by omega⟩
  obtain ⟨qs, g1, g2, g3, g4⟩ := h f (by omega)
  refine ⟨.tuple qs, ?_, g2, ?_, ?_⟩
  · show (ks.mapM (toR S f)).map PyData.tuple = _
    rw [g1]; rfl
  · show PyData.depthAll qs + 1 ≤ k + 1
    omega
  · show (tupleText (PyData.shownAll qs)).length + 2 ≤ _
    have := tup_len (PyData.shownAll qs)
    omega
mutual
theorem GT.rb {S : Sto} : ∀ {ab : Str} {n : Nat} {d : D} {s : Nat}, GT S ab n d s → RB S d (2 * n + 6) (s * 27000)
  | _, n, _, _, .brk => (rb_tupc (k := 1) (b := 104) fun x hx => by
      rw [List.mem_singleton.mp hx]; exact rb_kstr ⟨by decide +kernel, asc_lt (by decide +kernel)⟩).up (by omega) (by show 1 * 104 + 5 ≤ _; omega)
  | _, n, _, _, .txt (x := x) a b => by
    have hb : (decide (x.length ≤ 400) && x.cps.toList.all (fun c => decide (32 ≤ c) && decide (c ≤ 126))) = true := b
    rw [Bool.and_eq_true] at hb
    have hx : ∀ c ∈ x.cps.toList, c < 16 ^ 8 := fun c hc => by
      have := List.all_eq_true.mp hb.2 c hc
      simp only [Bool.and_eq_true, decide_eq_true_eq] at this
      have e : (16 : Nat) ^ 8 = 4294967296 := by decide
      omega
    have hl := of_decide_eq_true hb.1
    refine (rb_tupc (k := 1) (b := 4004) fun y hy => ?_).up (by omega) (by show 2 * 4004 + 5 ≤ _; omega)
    simp only [List.mem_cons, List.not_mem_nil, or_false] at hy
    rcases hy with rfl | rfl
    · exact (rb_kstr ⟨by decide +kernel, asc_lt (by decide +kernel)⟩).up (by omega) (by omega)
    · exact (rb_str hx).up (by omega) (by omega)
  | _, n, _, _, .img (w := w) (h := h) a b c => by
    rw [Bool.and_eq_true] at c
    have h1 := wh_abs (Bool.and_eq_true_iff.mp c.1).1
    have h2 := wh_abs (Bool.and_eq_true_iff.mp c.2).1
    refine (rb_tup (k := 4) (bs := [104, 25000, 10, 10]) rfl fun i d b' e1 e2 => ?_).up (by omega) (by show 104 + (25000 + (10 + (10 + 0))) + 5 ≤ _; omega)
    match i, e1, e2 with
    | 0, e1, e2 => cases e1; cases e2; exact (rb_kstr ⟨by decide +kernel, asc_lt (by decide +kernel)⟩).up (by omega) (by omega)
    | 1, e1, e2 => cases e1; cases e2; exact rb_sd a b
    | 2, e1, e2 => cases e1; cases e2; exact (rb_int h1).up (by omega) (by omega)
    | 3, e1, e2 => cases e1; cases e2; exact (rb_int h2).up (by omega) (by omega)
    | i + 4, e1, e2 => simp at e1
  | _, n, _, _, .kind a b c d e f => rb_node a b c (rb_kids (GTs.rb f)) (by omega)
theorem GTs.rb {S : Sto} : ∀ {k : Str} {n : Nat} {ks : List D} {m : Nat}, GTs S k n ks m → ∀ f, 2 * n + 4 ≤ f → ∃ qs, ks.mapM (toR S f) = some qs ∧ PyData.showableAll qs = true ∧ PyData.depthAll qs ≤ 2 * n + 4 ∧ piled (PyData.shownAll qs) ≤ m * 27000
  | _, n, _, _, .nil, f, hf => ⟨[], rfl, rfl, Nat.zero_le _, Nat.zero_le _⟩
  | _, _, _, _, .cons (n := n) (s := s) (m := m) (d := d) (ks := ks) a b, f, hf => by
    obtain ⟨q, a1, a2, a3, a4⟩ := GT.rb a f (by omega)
    obtain ⟨qs, b1, b2, b3, b4⟩ := GTs.rb b f (by omega)
    refine ⟨q :: qs, ?_, ?_, ?_, ?_⟩
    · rw [List.mapM_cons, a1, b1]; rfl
    · show (q.showable && PyData.showableAll qs) = true
      rw [a2]; exact b2
    · show max q.depth (PyData.depthAll qs) ≤ _
      omega
    · show piled (q.shown :: PyData.shownAll qs) ≤ _
      rw [piled_cons]
      omega
end
theorem GTop.rb {S : Sto} {d : D} {s : Nat} (h : GTop S d s) : RB S d 26 (s * 27000) := by
  obtain ⟨k, a, kvs, ks, m, rfl, rfl, e3, e4, e5, e6, e7, e8⟩ := h.ex
  exact rb_node (blk_memK e3) e4 e5 (rb_kids e8.rb) (by omega)
/-- repr of a good tree -/
theorem GTop.repr {S : Sto} {d : D} {s : Nat} (h : GTop S d s) (hs : s ≤ 200) : ∃ q, toR S 32 d = some q ∧ biSem .repr_ [d] S = some (.str q.shown, S) := by
  obtain ⟨q, h1, h2, h3, h4⟩ := h.rb 32 (by omega)
  refine ⟨q, h1, ?_⟩
  obtain ⟨k, a, kvs, ks, m, rfl, _⟩ := h.ex
  have h5 : q.shown.length ≤ sizeLine := by
    have : s * 27000 ≤ 200 * 27000 := Nat.mul_le_mul_right _ hs
    exact Nat.le_trans (m := 5400000) (by omega) (by decide)
  simp only [biSem, h1, Option.bind_some]
  rw [if_pos ⟨h2, by omega, h5⟩]

end K85

set_option Elab.async false
set_option linter.all false
set_option maxRecDepth 100000
set_option maxHeartbeats 4000000
namespace K85
open L2 DI PySem PySem.Spec PyProof.Rows
/-! ### draws -/
theorem w_dig {d st i : Nat} {σ : Sl} {S : Sto} {base : Int} {e : Ex} {Q : D → Sto → Prop} (hv : σ[i]? = some (some (.loc st))) (h : St S st) (he : V P0 (calls P0 fs (d + 1)) e σ S (.int base)) (h0 : 0 < base ∧ base < 1073741824)
    (hQ : ∀ (x : Int) (S' : Sto), 0 ≤ x → x < base → St S' st → DI.Fr [st] S S' → Q (.int x) S') : W (de P0 (calls P0 fs (d + 1)) (.cal 22 (.cons (.var i) (.cons e .nil))) false σ S) Q :=
  w_cal (w_cons (V_use (V_var hv) (w_cons (V_use he (w_nil (digit h h0.1 h0.2 hQ))))))
/-- one of a list that is written there -/
theorem w_pick {d st i : Nat} {σ : Sl} {S : Sto} {es : Exs} {Q : D → Sto → Prop} (hv : σ[i]? = some (some (.loc st)))
    (he : W (des P0 (calls P0 fs (d + 2)) es σ S) fun ds S1 => St S1 st ∧ 0 < ds.length ∧ ds.length ≤ 1000 ∧ ∀ x S', x ∈ ds → St S' st → DI.Fr [st] S1 S' → Q x S') :
    W (de P0 (calls P0 fs (d + 2)) (.cal 23 (.cons (.var i) (.cons (.lst es) .nil))) false σ S) Q := by
  refine w_cal (w_cons (V_use (V_var hv) (w_cons (w_lst (W_mono he ?_)))))
  rintro ds S1 ⟨h, h1, h2, hQ⟩
  have hl := h.lt
  refine ⟨sz (by omega), w_nil (one (h.fr (B := []) DI.Fr.push (by simp)) get_push (by omega) h1 (by omega) fun x S' hx h' f => hQ x S' hx h' ((fup DI.Fr.push).trans f))⟩
theorem w_one {d st i a : Nat} {σ : Sl} {S : Sto} {e : Ex} {ds : List D} {Q : D → Sto → Prop} (hv : σ[i]? = some (some (.loc st))) (h : St S st)
    (he : W (de P0 (calls P0 fs (d + 2)) e false σ S) fun x S1 => ∃ a ds, x = .loc a ∧ S1[a]? = some (.lst ds) ∧ a ≠ st ∧ St S1 st ∧ 0 < ds.length ∧ ds.length ≤ 1000 ∧ ∀ x S', x ∈ ds → St S' st → DI.Fr [st] S1 S' → Q x S') :
    W (de P0 (calls P0 fs (d + 2)) (.cal 23 (.cons (.var i) (.cons e .nil))) false σ S) Q := by
  refine w_cal (w_cons (V_use (V_var hv) (w_cons (W_mono he ?_))))
  rintro x S1 ⟨a, ds, rfl, e1, ha, h1, h2, h3, hQ⟩
  exact w_nil (one h1 e1 ha h2 (by omega) hQ)
theorem V_pow6 {C : Nat → List D → Sto → Out D} {σ : Sl} {S : Sto} : V P0 C (.bin .Pow (.cst (.int 10)) (.cst (.int 6))) σ S (.int 1000000) := w_bin (w_int (w_int (w_pow6 ⟨rfl, rfl⟩)))
theorem V_max {C : Nat → List D → Sto → Out D} {σ : Sl} {S : Sto} {a c : Ex} {i j : Int} (ha : V P0 C a σ S (.int i)) (hc : V P0 C c σ S (.int j)) : V P0 C (.bi .max2 (.cons a (.cons c .nil))) σ S (.int (max i j)) := V_bi2 ha hc rfl
theorem VOk_pct {S : Sto} {i : Int} : VOk S (.tup [.str "percent", .int i]) := by
  refine .tup (fun x hx => ?_) fun x hx => ?_ <;> (simp only [List.mem_cons, List.not_mem_nil, or_false] at hx; rcases hx with rfl | rfl)
  · exact .str (by decide +kernel)
  · exact .int i
  · exact sh_str (by decide +kernel)
  · exact sh_int
theorem T_ofV {C : Nat → List D → Sto → Out D} {σ : Sl} {S : Sto} {o : CmpOp} {a c : Ex} {p : Bool} (h : V P0 C (.cmp o a c) σ S (.bl p)) : T P0 C (.cmp o a c) σ S p := by
  unfold DI.V at h
  unfold DI.T
  simp only [de] at h ⊢
  exact h
theorem T_isnt {C : Nat → List D → Sto → Out D} {σ : Sl} {S : Sto} {a : Ex} {d : D} (h : V P0 C a σ S d) : T P0 C (.cmp .IsNot a (.cst .non)) σ S (!isN d) := T_ofV (v_isnt h)
theorem t_nin4 {C : Nat → List D → Sto → Out D} {σ : Sl} {S : Sto} {w a b c d : Str} {i : Nat} (h : σ[i]? = some (some (.str w))) : T P0 C (.cmp .NotIn (.var i) (.tup (.cons (.cst (.str a)) (.cons (.cst (.str b)) (.cons (.cst (.str c)) (.cons (.cst (.str d)) .nil)))))) σ S (!memS [a, b, c, d] w) := by
  refine T_cmp (V_var h) v_tup4 ?_
  simp only [cmpSem, inSem, flatD, List.all_cons, List.all_nil, Bool.and_self, and_self, if_true, Option.map_some]
  congr 1
theorem fjoin {B B' : List Nat} {S S1 S2 : Sto} (a : DI.Fr B S S1) (b : DI.Fr B' S1 S2) (h : ∀ k ∈ B', k < S.length → k ∈ B) : DI.Fr B S S2 :=
  ⟨Nat.le_trans a.1 b.1, fun k hk hn => (b.2 k (Nat.lt_of_lt_of_le hk a.1) fun hm => hn (h k hm hk)).trans (a.2 k hk hn)⟩
theorem bi_tup {S : Sto} {a : Nat} {xs : List D} (h : S[a]? = some (.lst xs)) : biSem .tuple_ [.loc a] S = some (.tup xs, S) := by simp only [biSem, seqD, h, Option.map_some]
theorem bi_len {S : Sto} {a : Nat} {xs : List D} (h : S[a]? = some (.lst xs)) : biSem .len [.loc a] S = some (.int xs.length, S) := by simp only [biSem, h]
theorem bm_app {S : Sto} {a : Nat} {xs : List D} {d : D} (h : S[a]? = some (.lst xs)) (hl : xs.length ≤ 100000) : bmSem .append (.loc a) [d] S = some (.non, S.set a (.lst (xs ++ [d]))) := by
  have : xs.length < sizeLine := Nat.lt_of_le_of_lt hl (by decide)
  simp only [bmSem, h, this, if_true]
theorem w_join {C : Nat → List D → Sto → Out D} {σ : Sl} {S : Sto} {o e : Ex} {Q : D → Sto → Prop} (k : W (de P0 C o false σ S) fun x S => ∃ z, x = .str z ∧ W (de P0 C e false σ S) fun y S => ∃ ys, (seqD y S).bind strsD = some ys ∧ (ys.map (·.length)).sum + ys.length * z.length ≤ 16777216 ∧ Q (.str (Txt.join z ys)) S) : W (de P0 C (.join o e) false σ S) Q := by
  simp only [de, fin_f, W_bind]
  refine W_mono k ?_
  rintro x S1 ⟨z, rfl, h⟩
  dsimp only
  rw [W_bind]
  refine W_mono h ?_
  rintro y S2 ⟨ys, h1, h2, h3⟩
  rw [h1]
  dsimp only
  rw [if_pos h2]
  exact h3
/-- a comprehension without a test, its length found on the way -/
theorem lc_effG {P : Pg} {C : Nat → List D → Sto → Out D} {σ : Sl} {S : Sto} {own : List (Str × Nat)} {tg : Tg} {it : Ir} {elt : Ex} {Q : D → Sto → Prop}
    (hit : W (deI P C it σ S) fun w S1 => ∃ (n : Nat) (I : Nat → List D → Sto → Prop), wlen w S1 = n ∧ n ≤ 1000000 ∧ I 0 [] (S1 ++ [Cell.lst []]) ∧
      (∀ i acc S', i < n → acc.length = i → I i acc S' → S'[S1.length]? = some (Cell.lst acc) → ∃ d σ', wgo w i S' = some (some d) ∧ setTg tg d (wipeD σ (own.map (·.2))) = some σ' ∧ W (de P C elt false σ' S') fun v S2 => S2[S1.length]? = some (Cell.lst acc) ∧ I (i + 1) (acc ++ [v]) (S2.set S1.length (Cell.lst (acc ++ [v])))) ∧
      (∀ acc S', acc.length = n → I n acc S' → S'[S1.length]? = some (Cell.lst acc) → wgo w n S' = some none ∧ Q (.loc S1.length) S')) : W (de P C (.lc own tg it .nil elt) false σ S) Q := by
  refine w_lc (W_mono hit fun w S1 ⟨n, I, hw2, hw3, h0, hs, hq⟩ => ?_)
  rw [hw2]
  refine W_lcLoop (J := fun i S' => i ≤ n ∧ ∃ acc, acc.length = i ∧ I i acc S' ∧ S'[S1.length]? = some (Cell.lst acc)) (k0 := n) ?_ ?_ ?_ n 0 _ (by omega) ⟨by omega, [], rfl, h0, get_push⟩
  · rintro S' ⟨_, acc, h1, h2, h3⟩
    exact (hq acc S' h1 h2 h3).1
  · rintro i S' hi ⟨_, acc, h1, h2, h3⟩
    obtain ⟨d, σ', e0, e1, e2⟩ := hs i acc S' hi h1 h2 h3
    refine ⟨d, σ', e0, e1, w_T0 ?_⟩
    rw [if_pos rfl]
    refine W_mono e2 fun v S2 ⟨k1, k2⟩ => ⟨acc, k1, ?_, by omega, _, ?_, k2, get_set (lt_of k1)⟩
    · exact Nat.lt_of_lt_of_le (m := 1000001) (by omega) (by decide)
    · rw [List.length_append, h1]; rfl
  · rintro S' ⟨_, acc, h1, h2, h3⟩
    exact (hq acc S' h1 h2 h3).2
theorem go_rng {n i : Nat} {S : Sto} (h : i < n) : wgo (.rng 0 n) i S = some (some (.int (i : Nat))) := by
  simp only [wgo]
  rw [if_pos h, Int.zero_add]
theorem go_end {n : Nat} {S : Sto} : wgo (.rng 0 n) n S = some none := by simp [wgo]
theorem rng_ok {x : Int} (h : 0 ≤ x ∧ x ≤ 1000000) : rngOk 0 x = true := by
  unfold rngOk
  exact decide_eq_true ⟨by omega, by omega, by omega, by omega⟩
def strEs : List Str → Exs
  | [] => .nil
  | x :: r => .cons (.cst (.str x)) (strEs r)
theorem w_strs {C : Nat → List D → Sto → Out D} {σ : Sl} {S : Sto} : ∀ {xs : List Str} {Q : List D → Sto → Prop}, Q (xs.map D.str) S → W (des P0 C (strEs xs) σ S) Q
  | [], Q, h => w_nil h
  | x :: r, Q, h => w_cons (w_str (w_strs (xs := r) (Q := fun ds S => Q (.str x :: ds) S) h))
theorem cmp_int {S : Sto} {i j : Int} : cmpSem .Eq (.int i) (.int j) S = some (i == j) := eqD_int (S := S)
/-! ### in, of plain data -/
theorem plQ_up : ∀ n x, plD n x = true → plD (n + 1) x = true ∧ toQ (n + 1) x = toQ n x
  | 0, _, h => nomatch h
  | _ + 1, .non, _ => ⟨rfl, rfl⟩
  | _ + 1, .int _, _ => ⟨rfl, rfl⟩
  | _ + 1, .str _, h => ⟨h, rfl⟩
  | n + 1, .tup xs, h => by
    have h' : xs.all (plD n) = true := h
    rw [List.all_eq_true] at h'
    refine ⟨?_, ?_⟩
    · show xs.all (plD (n + 1)) = true
      rw [List.all_eq_true]
      exact fun x hx => (plQ_up n x (h' x hx)).1
    · show PyData.tuple (xs.map (toQ (n + 1))) = .tuple (xs.map (toQ n))
      congr 1
      exact List.map_congr_left fun x hx => (plQ_up n x (h' x hx)).2
  | _ + 1, .bl _, h => nomatch h
  | _ + 1, .ty _, h => nomatch h
  | _ + 1, .rl _, h => nomatch h
  | _ + 1, .loc _, h => nomatch h
  | _ + 1, .fn _, h => nomatch h
  | _ + 1, .cl _, h => nomatch h
  | _ + 1, .rd _, h => nomatch h
theorem in_pl {S : Sto} {x : D} {xs : List D} (hx : plD 31 x = true) (hxs : xs.all (plD 31) = true) (hne : (flatD x && xs.all flatD) = false) : ∃ t, inSem x (.tup xs) S = some t ∧ (t = true ↔ x ∈ xs) := by
  obtain ⟨x1, x2⟩ := plQ_up 31 x hx
  have e1 : toP S 32 x = some (toQ 31 x) := by rw [← x2]; exact toP_pl 32 x x1
  have e2 : toP S 32 (.tup xs) = some (.tuple (xs.map (toQ 31))) := toP_pl (S := S) 32 (.tup xs) hxs
  have s1 : SeqAt.shaped (toQ 31 x) = true := by
    unfold SeqAt.shaped
    rw [lay_pl 31 x hx, Bool.true_and]
    have := dep_pl 31 x
    exact decide_eq_true (by omega)
  have s2 : SeqAt.shaped (.tuple (xs.map (toQ 31))) = true := by
    have h : plD 32 (.tup xs) = true := hxs
    have := lay_pl 32 _ h
    have h2 := dep_pl 32 (.tup xs)
    unfold SeqAt.shaped
    show (PyData.canLay0 (toQ 32 (.tup xs)) && decide (PyData.depth (toQ 32 (.tup xs)) ≤ 64)) = true
    rw [this, Bool.true_and]
    exact decide_eq_true (by omega)
  refine ⟨(xs.map (toQ 31)).any fun z => PyData.eqv z (toQ 31 x), ?_, ?_⟩
  · show (if flatD x = true ∧ xs.all flatD = true then some _ else inDeep x (.tup xs) S) = _
    rw [if_neg (fun h => by rw [h.1, h.2] at hne; cases hne)]
    unfold inDeep
    rw [e1, e2]
    dsimp only
    rw [if_pos ⟨s1, s2, by have := dep_pl 31 x; omega⟩]
  · rw [List.any_map, List.any_eq_true]
    rw [List.all_eq_true] at hxs
    constructor
    · rintro ⟨z, hz, e⟩
      have := (eqv_pl 31 z x (hxs z hz) hx).mp e
      rwa [← this]
    · intro h
      exact ⟨x, h, (eqv_pl 31 x x hx hx).mpr rfl⟩
theorem V_t0 {C : Nat → List D → Sto → Out D} {σ : Sl} {S : Sto} : V P0 C (.tup .nil) σ S (.tup []) := w_tup (w_nil ⟨sz (by show 0 ≤ 1000000; omega), rfl, rfl⟩)
theorem V_t1 {C : Nat → List D → Sto → Out D} {σ : Sl} {S : Sto} {a : Ex} {x : D} (ha : V P0 C a σ S x) : V P0 C (.tup (.cons a .nil)) σ S (.tup [x]) := w_tup (w_cons (V_use ha (w_nil ⟨sz (by show 1 ≤ 1000000; omega), rfl, rfl⟩)))
theorem V_t2 {C : Nat → List D → Sto → Out D} {σ : Sl} {S : Sto} {a b : Ex} {x y : D} (ha : V P0 C a σ S x) (hb : V P0 C b σ S y) : V P0 C (.tup (.cons a (.cons b .nil))) σ S (.tup [x, y]) := w_tup (w_cons (V_use ha (w_cons (V_use hb (w_nil ⟨sz (by show 2 ≤ 1000000; omega), rfl, rfl⟩)))))
theorem V_t3 {C : Nat → List D → Sto → Out D} {σ : Sl} {S : Sto} {a b c : Ex} {x y z : D} (ha : V P0 C a σ S x) (hb : V P0 C b σ S y) (hc : V P0 C c σ S z) : V P0 C (.tup (.cons a (.cons b (.cons c .nil)))) σ S (.tup [x, y, z]) := w_tup (w_cons (V_use ha (w_cons (V_use hb (w_cons (V_use hc (w_nil ⟨sz (by show 3 ≤ 1000000; omega), rfl, rfl⟩)))))))
theorem V_t4 {C : Nat → List D → Sto → Out D} {σ : Sl} {S : Sto} {a b c e : Ex} {x y z u : D} (ha : V P0 C a σ S x) (hb : V P0 C b σ S y) (hc : V P0 C c σ S z) (he : V P0 C e σ S u) : V P0 C (.tup (.cons a (.cons b (.cons c (.cons e .nil))))) σ S (.tup [x, y, z, u]) := w_tup (w_cons (V_use ha (w_cons (V_use hb (w_cons (V_use hc (w_cons (V_use he (w_nil ⟨sz (by show 4 ≤ 1000000; omega), rfl, rfl⟩)))))))))
theorem item0 {S : Sto} {d : D} {r : List D} : itemSem (.tup (d :: r)) (.int 0) S = some d := DI.atI_nat (k := 0) rfl

theorem find_mem {t : List Rw} {w : Str} {q : Rw} (h : t.find? (fun q => decide (q.1 = w)) = some q) : q ∈ t ∧ q.1 = w := ⟨List.mem_of_find?_eq_some h, by simpa using List.find?_some h⟩
theorem ch_pos : chT.all (fun q => decide (1 ≤ q.2.1.length) && decide (q.2.1.length ≤ 100)) = true := by decide +kernel
theorem in_tb {S : Sto} {a : Nat} {kvs : List (Key × D)} {w : Str} (h : S[a]? = some (.dk kvs)) : cmpSem .In (.str w) (.loc a) S = some (lookK kvs (.inr w)).isSome := by
  simp only [cmpSem, inSem, h, dictAt, Option.map_some]
theorem drawn_choice {d st : Nat} {S : Sto} {w : Str} {q : Rw} {a : Nat} {x2 x4 x5 x6 x7 x8 x9 x10 x11 x12 : Option D} {Q : Po} {S0 : Sto} (h : St S st) (hs : st < S0.length) (T : TbAt S0 S a chT) (hq : chT.find? (fun q => decide (q.1 = w)) = some q)
    (hQ : ∀ v S', St S' st → DI.Fr [st] S S' → Dv w v → Q.rt v S') :
    WS (dSs P0 (calls P0 fs (d + 2)) t_law_drawn_value_1 [some (.loc st), some (.str w), x2, some (.loc a), x4, x5, x6, x7, x8, x9, x10, x11, x12] S) Q := by
  unfold t_law_drawn_value_1
  obtain ⟨bs, e1, e2, e5⟩ := T.ex
  obtain ⟨b, e3, e4, hbm⟩ := tb_find e2 hq
  obtain ⟨m1, rfl⟩ := find_mem hq
  have hp := List.all_eq_true.mp ch_pos q m1
  simp only [Bool.and_eq_true, decide_eq_true_eq] at hp
  have hv : rwV q b = .loc b := by
    simp only [chT, List.mem_cons, List.not_mem_nil, or_false] at m1
    rcases m1 with rfl | rfl | rfl | rfl | rfl | rfl <;> rfl
  rw [hv] at e3
  have hb : b ≠ st := by have := e5 b hbm; omega
  refine z_ret (w_cal (w_cons (V_use (V_var rfl) (w_cons (w_ix (V_use (V_var rfl) (V_use (V_var rfl) ⟨.loc b, ?_, w_nil ?_⟩)))))))
  · simp only [itemSem, e1, dictAt, e3]; rfl
  · exact one (by assumption) e4 hb (by omega) (by omega) fun x S' hx h' f' => hQ x S' h' f' (ch_dv m1 hx)
/-- the row of a word with bounds -/
structure Bd (q : Rw) (l : Int) (p : D) : Prop where
  mem : q ∈ bdT false
  eq : q.2.2 = some (l, p)
  lo : -1000000 ≤ l ∧ l ≤ 1
  pc : p = .non ∨ p = .int l
  short : q.2.1.length ≤ 1
  four : four4 q.1 = true → l ≤ 0
theorem bd_row {q : Rw} (h : q ∈ bdT false) : ∃ l p, Bd q l p := by
  have h0 := h
  simp only [bdT, List.mem_cons, List.not_mem_nil, or_false] at h
  rcases h with rfl | rfl | rfl | rfl | rfl | rfl | rfl | rfl | rfl | rfl | rfl | rfl | rfl | rfl | rfl | rfl <;>
    first
      | exact ⟨_, _, h0, rfl, by decide, .inr rfl, by decide, fun _ => by decide⟩
      | exact ⟨_, _, h0, rfl, by decide, .inl rfl, by decide, fun _ => by decide⟩
      | exact ⟨_, _, h0, rfl, by decide, .inl rfl, by decide, fun h => absurd h (by decide +kernel)⟩
/-- the words beside the numbers of a row are good, whatever stands in the store -/
theorem bd_word {q : Rw} {l : Int} {p : D} (h : Bd q l p) {v : D} (hv : v ∈ q.2.1) : (if four4 q.1 = true then tst q.1 v else styleV q.1 v false) = true ∧ (∀ S, VOk S v) ∧ (∀ xs, v ≠ .tup xs) := by
  have h1 := List.all_eq_true.mp bd_good q h.mem
  have h2 := List.all_eq_true.mp (Bool.and_eq_true_iff.mp h1).2 v hv
  refine ⟨h2, ?_⟩
  have : v = .non ∨ v = .str "auto" := by
    have h0 := h.mem
    simp only [bdT, List.mem_cons, List.not_mem_nil, or_false] at h0
    rcases h0 with rfl | rfl | rfl | rfl | rfl | rfl | rfl | rfl | rfl | rfl | rfl | rfl | rfl | rfl | rfl | rfl <;> simp only [List.mem_cons, List.not_mem_nil, or_false] at hv <;> first | exact .inl hv | exact .inr hv | cases hv
  rcases this with rfl | rfl
  · exact ⟨fun _ => .non, fun _ e => nomatch e⟩
  · exact ⟨fun _ => .str (by decide +kernel), fun _ e => nomatch e⟩
theorem NL_all : [("float" : Str), "clear", "place", "offset", "width", "height", "least_width", "least_height", "most_width", "most_height", "margin", "border", "padding", "clip", "raise", "letter", "up", "down", "line", "wrap", "align", "indent"].all (fun w => ((chT.find? fun q => decide (q.1 = w)).isSome || ((bdT false).find? fun q => decide (q.1 = w)).isSome) && (FD.lookup w).isSome) = true := by decide +kernel
def NL : List Str := ["float", "clear", "place", "offset", "width", "height", "least_width", "least_height", "most_width", "most_height", "margin", "border", "padding", "clip", "raise", "letter", "up", "down", "line", "wrap", "align", "indent"]
theorem nl_fd {w : Str} (h : w ∈ NL) : (FD.lookup w).isSome = true := by
  have := List.all_eq_true.mp NL_all w h
  exact (Bool.and_eq_true_iff.mp this).2
theorem nl_row {w : Str} (h : w ∈ NL) : (∃ q, chT.find? (fun q => decide (q.1 = w)) = some q) ∨ (chT.find? (fun q => decide (q.1 = w)) = none ∧ ∃ q, (bdT false).find? (fun q => decide (q.1 = w)) = some q) := by
  have := (Bool.and_eq_true_iff.mp (List.all_eq_true.mp NL_all w h)).1
  rcases e : chT.find? (fun q => decide (q.1 = w)) with _ | q
  · rw [e] at this
    exact .inr ⟨e, Option.isSome_iff_exists.mp this⟩
  · exact .inl ⟨q, e⟩
theorem four_styleV {w : Str} {v : D} (h : four4 w = true) : styleV w v false = four (tst w) v := by
  unfold four4 memS at h
  simp only [List.any_cons, List.any_nil, Bool.or_false, Bool.or_eq_true, beq_iff_eq] at h
  rcases h with rfl | rfl | rfl | rfl <;> rfl
abbrev slV (st : Nat) (w : Str) (x2 x3 x4 : Option D) (b : Nat) (l : Int) (p : D) (n : Int) (x9 x10 x11 x12 : Option D) : Sl := [some (.loc st), some (.str w), x2, x3, x4, some (.loc b), some (.int l), some p, some (.int n), x9, x10, x11, x12]
/-- a drawn value that is no four -/
theorem drawn_single {d st : Nat} {S : Sto} {q : Rw} {b : Nat} {l n : Int} {p : D} {x2 x3 x4 x9 x10 x11 x12 : Option D} {Q : Po} (h : St S st) (hb : S[b]? = some (.lst q.2.1)) (B : Bd q l p) (h4 : four4 q.1 = false) (hn : l ≤ n ∧ n ≤ 1000000)
    (hQ : ∀ v S', St S' st → DI.Fr [st] S S' → Dv q.1 v → Q.rt v S') : WS (dSs P0 (calls P0 fs (d + 2)) t_law_drawn_value_2 (slV st q.1 x2 x3 x4 b l p n x9 x10 x11 x12) S) Q := by
  unfold t_law_drawn_value_2
  have hlt := h.lt
  have key : ∀ (S1 : Sto) (a : Nat) (sh : List D), S1[a]? = some (.lst sh) → (∀ v ∈ sh, Dv q.1 v) → sh.length ≤ 1 → DI.Fr [] S S1 → WS (dSs P0 (calls P0 fs (d + 2)) (.cons (.ret (.cal 23 (.cons (.var 0) (.cons (.bin .Add (.bin .Add (.var 5) (.lst (.cons (.var 8) .nil))) (.var 9)) .nil)))) .nil) (slV st q.1 x2 x3 x4 b l p n (some (.loc a)) x10 x11 x12) S1) Q := by
    intro S1 a sh e1 hsh hl f1
    have hb1 := f1.all _ _ hb
    have hs := B.short
    refine z_ret (w_one (a := 0) (ds := []) rfl (h.fr f1 (by simp)) (w_bin (w_bin (V_use (V_var rfl) (w_lst (w_cons (V_use (V_var rfl) (w_nil ⟨sz (by show 1 ≤ 1000000; omega), ?_⟩))))))))
    refine w_addL (get_pushl hb1) get_push (sz (by show q.2.1.length + 1 ≤ 1000000; omega)) (V_use (V_var rfl) ?_)
    refine w_addL get_push (get_pushl (get_pushl e1)) (sz (by simp; omega)) ?_
    refine ⟨_, _, rfl, get_push, by simp; have := f1.1; omega, (h.fr f1 (by simp)).fr (((DI.Fr.push.trans DI.Fr.push).trans DI.Fr.push) : DI.Fr [] _ _) (by simp), by simp <;> omega, by simp; omega, fun x S' hx h' f' => ?_⟩
    refine hQ x S' h' (((fup (B := [st]) f1).trans (fup (((DI.Fr.push.trans DI.Fr.push).trans DI.Fr.push) : DI.Fr [] S1 _))).trans f') ?_
    simp only [List.mem_append, List.mem_singleton] at hx
    rcases hx with (hx | rfl) | hx
    · obtain ⟨g1, g2, g3⟩ := bd_word B hx
      rw [h4] at g1
      exact ⟨by simpa using g1, g2, fun xs e => absurd e (g3 xs)⟩
    · exact ⟨bd_int B.mem B.eq h4 hn.1 hn.2, fun _ => .int _, fun _ e => nomatch e⟩
    · exact hsh x hx
  rcases B.pc with rfl | rfl
  · refine z_set (w_iteT (p := true) (T_cast (t_is (V_var rfl)) rfl) (fun _ => w_lst (w_nil ⟨sz (by show 0 ≤ 1000000; omega), ?_⟩)) fun z => nomatch z)
    exact key _ _ _ get_push (fun _ z => nomatch z) (by show 0 ≤ 1; omega) DI.Fr.push
  · refine z_set (w_iteT (p := false) (T_cast (t_is (V_var rfl)) rfl) (fun z => nomatch z) fun _ => w_lst (w_cons (w_tup (w_cons (w_str (w_cons (V_use (V_max (V_var rfl) (V_var rfl)) (w_nil ⟨sz (by show 2 ≤ 1000000; omega), w_nil ⟨sz (by show 1 ≤ 1000000; omega), ?_⟩⟩))))))))
    refine key _ _ _ get_push (fun v hv => ?_) (by show 1 ≤ 1; omega) DI.Fr.push
    rw [List.mem_singleton.mp hv]
    have := B.lo
    exact ⟨bd_pct B.mem B.eq h4 (by omega) (by omega), fun _ => VOk_pct, fun xs e => by cases e; show 2 ≤ 1000000; omega⟩
/-- a part of a drawn four -/
def Pt (w : Str) (v : D) : Prop := tst w v = true ∧ (∀ S, VOk S v) ∧ ∀ S, Sh S v
theorem sh_pl {S : Sto} {x : D} (h : plD 32 x = true) : Sh S x := by
  refine ⟨toQ 32 x, toP_pl 32 x h, ?_⟩
  unfold SeqAt.shaped
  rw [lay_pl 32 x h, Bool.true_and]
  have := dep_pl 32 x
  exact decide_eq_true (by omega)
theorem sh_pct {S : Sto} {i : Int} : Sh S (.tup [.str "percent", .int i]) := sh_pl (by
  show (PyData.canLay0 (.str "percent") && (true && true)) = true
  decide +kernel)
/-- a drawn four -/
theorem drawn_part {d st : Nat} {S : Sto} {q : Rw} {b fa : Nat} {l n : Int} {p : D} {acc : List D} {x2 x3 x4 x9 x11 x12 : Option D} {Q : Po} (h : St S st) (hb : S[b]? = some (.lst q.2.1)) (hbs : b ≠ st) (hf : S[fa]? = some (.lst acc)) (hfs : fa ≠ st) (hl : acc.length ≤ 10) (B : Bd q l p) (h4 : four4 q.1 = true) (hn : l ≤ n ∧ n ≤ 1000000)
    (hQ : ∀ v S' y12, St S' st → DI.Fr [st, fa] S S' → S'[fa]? = some (.lst (acc ++ [v])) → Pt q.1 v → Q.nx (slV st q.1 x2 x3 x4 b l p n x9 (some (.loc fa)) x11 y12) S') :
    WS (dSs P0 (calls P0 fs (d + 2)) t_law_drawn_value_5 (slV st q.1 x2 x3 x4 b l p n x9 (some (.loc fa)) x11 x12) S) Q := by
  unfold t_law_drawn_value_5
  have hlt := h.lt
  have hlo := B.lo
  have hl0 := B.four h4
  have hsh := B.short
  obtain ⟨t1, t2⟩ := bd_four B.mem B.eq h4
  have tI : ∀ i : Int, l ≤ i → i ≤ 1000000 → Pt q.1 (.int i) := fun i h1 h2 => ⟨t1 i h1 h2, fun _ => .int i, fun _ => sh_int⟩
  have tW : ∀ v, v ∈ q.2.1 → Pt q.1 v := by
    intro v hv
    obtain ⟨g1, g2, g3⟩ := bd_word B hv
    rw [if_pos h4] at g1
    refine ⟨g1, g2, fun S => ?_⟩
    have := g2 S
    cases this with
    | non => exact sh_non
    | bl => exact sh_bl
    | int => exact sh_int
    | str h => exact sh_str h
    | tup => exact absurd rfl (g3 _)
    | lst h => exact absurd (g2 []) (fun z => by cases z <;> simp at *)
    | dk h => exact absurd (g2 []) (fun z => by cases z <;> simp at *)
    | fk h => exact absurd (g2 []) (fun z => by cases z <;> simp at *)
  have key : ∀ (S1 : Sto) (a : Nat) (ps : List D), St S1 st → S1[a]? = some (.lst ps) → a ≠ st → 0 < ps.length → ps.length ≤ 1000 → (∀ v ∈ ps, Pt q.1 v) → DI.Fr [st] S S1 → WS (dSs P0 (calls P0 fs (d + 2)) t_law_drawn_value_4 (slV st q.1 x2 x3 x4 b l p n x9 (some (.loc fa)) x11 (some (.loc a))) S1) Q := by
    intro S1 a ps h1 e1 ha g1 g2 g3 f1
    unfold t_law_drawn_value_4
    have hf1 := f1.get hf (by simpa using hfs)
    refine z_exp (w_bm (V_use (V_var rfl) ⟨fa, _, rfl, hf1, w_cons (w_one (a := 0) (ds := []) rfl h1 (V_use (V_var rfl) ⟨a, ps, rfl, e1, ha, h1, g1, g2, fun x S2 hx h2 f2 => w_nil ?_⟩))⟩))
    have hf2 := f2.get hf1 (by simpa using hfs)
    refine ⟨_, _, by simp only [bmSem, hf2]; rw [if_pos (Nat.lt_of_le_of_lt hl (by decide))], z_nil ?_⟩
    refine hQ x _ _ (h2.fr (B := [fa]) (DI.Fr.setr DI.Fr.refl (.inl (by simp))) (by simpa using Ne.symm hfs)) (((f1.trans f2).sub (fun k hk _ => by simp at hk ⊢; exact .inl hk)).setr (.inl (by simp))) (get_set (lt_of hf2)) (g3 x hx)
  refine z_set (w_bin (V_use (V_var rfl) (w_lst (w_cons (w_int (w_cons (V_use (V_var rfl) (w_cons (w_bi (w_cons (V_use (V_var rfl) (w_cons (w_bin (w_int (w_dig (base := 9) rfl h V_int (by omega) fun x S1 hx hx2 h1 f1 => w_sub (w_nil ⟨_, _, rfl, w_nil ⟨sz (by show 3 ≤ 1000000; omega), ?_⟩⟩))))))))))))))))
  have hb1 := f1.get hb (by simpa using hbs)
  refine w_addL (get_pushl hb1) get_push (sz (by show q.2.1.length + 3 ≤ 1000000; omega)) ?_
  try simp only [List.set_cons_succ, List.set_cons_zero]
  generalize hS2 : (S1 ++ [Cell.lst [D.int 0, D.int n, D.int (max l (3 - x))]]) ++ [Cell.lst (q.2.1 ++ [D.int 0, D.int n, D.int (max l (3 - x))])] = S2
  have f12 : DI.Fr [] S1 S2 := by rw [← hS2]; exact DI.Fr.push.trans DI.Fr.push
  have e2 : S2[(S1 ++ [Cell.lst [D.int 0, D.int n, D.int (max l (3 - x))]]).length]? = some (.lst (q.2.1 ++ [D.int 0, D.int n, D.int (max l (3 - x))])) := by rw [← hS2]; exact get_push
  have hne : (S1 ++ [Cell.lst [D.int 0, D.int n, D.int (max l (3 - x))]]).length ≠ st := by have := h1.lt; simp; omega
  generalize (S1 ++ [Cell.lst [D.int 0, D.int n, D.int (max l (3 - x))]]).length = a2 at e2 hne ⊢
  have h2 := h1.fr f12 (by simp)
  have pts : ∀ v ∈ q.2.1 ++ [D.int 0, D.int n, D.int (max l (3 - x))], Pt q.1 v := by
    intro v hv
    simp only [List.mem_append, List.mem_cons, List.not_mem_nil, or_false] at hv
    rcases hv with hv | rfl | rfl | rfl
    · exact tW v hv
    · exact tI 0 hl0 (by omega)
    · exact tI n hn.1 hn.2
    · exact tI _ (by omega) (by omega)
  rcases B.pc with hp | hp
  · refine z_iteT (p := false) (T_cast (T_isnt (d := p) (V_var rfl)) (by rw [hp]; rfl)) (fun z => nomatch z) fun _ => z_nil ?_
    try dsimp only
    exact key S2 a2 _ h2 e2 hne (by simp) (by simp; omega) pts (f1.trans (fup f12))
  · refine z_iteT (p := true) (T_cast (T_isnt (d := p) (V_var rfl)) (by rw [hp]; rfl)) (fun _ => ?_) (fun z => nomatch z)
    unfold t_law_drawn_value_3
    refine z_set (w_bin (V_use (V_var rfl) (w_lst (w_cons (w_tup (w_cons (w_str (w_cons (w_pick rfl ?_)))))))))
    refine w_cons (V_use (V_var rfl) (w_cons (w_int (w_cons (w_int (w_cons (V_use V_pow6 (w_nil ⟨h2, by show 0 < 4; omega, by show 4 ≤ 1000; omega, fun y S3 hy h3 f3 => w_nil ⟨sz (by show 2 ≤ 1000000; omega), w_nil ⟨sz (by show 1 ≤ 1000000; omega), ?_⟩⟩⟩))))))))
    have e3 := f3.get e2 (by simpa using hne)
    refine w_addL (get_pushl e3) get_push (sz (by simp; omega)) (z_nil ?_)
    try simp only [List.set_cons_succ, List.set_cons_zero]
    try dsimp only
    have f3' : DI.Fr [] S3 ((S3 ++ [Cell.lst [D.tup [D.str "percent", y]]]) ++ [Cell.lst (q.2.1 ++ [D.int 0, D.int n, D.int (max l (3 - x))] ++ [D.tup [D.str "percent", y]])]) := DI.Fr.push.trans DI.Fr.push
    refine key _ _ _ (h3.fr f3' (by simp)) get_push (by have := h3.lt; simp; omega) (by simp) (by simp; omega) (fun v hv => ?_) (((f1.trans (fup f12)).trans f3).trans (fup f3'))
    rcases List.mem_append.mp hv with hv | hv
    · exact pts v hv
    · rw [List.mem_singleton.mp hv]
      subst hp
      simp only [List.mem_cons, List.not_mem_nil, or_false] at hy
      have hy' : ∃ i : Int, y = .int i ∧ l ≤ i ∧ i ≤ 1000000 := by
        rcases hy with rfl | rfl | rfl | rfl
        · exact ⟨_, rfl, by omega, by omega⟩
        · exact ⟨_, rfl, by omega, by omega⟩
        · exact ⟨_, rfl, by omega, by omega⟩
        · exact ⟨_, rfl, by omega, by omega⟩
      obtain ⟨i, rfl, g1, g2⟩ := hy'
      exact ⟨t2 l i rfl g1 g2, fun _ => VOk_pct, fun _ => sh_pct⟩
theorem drawn_four {d st : Nat} {S : Sto} {q : Rw} {b : Nat} {l n : Int} {p : D} {x2 x3 x4 x9 x10 x11 x12 : Option D} {Q : Po} (h : St S st) (hb : S[b]? = some (.lst q.2.1)) (hbs : b ≠ st) (B : Bd q l p) (h4 : four4 q.1 = true) (hn : l ≤ n ∧ n ≤ 1000000)
    (hQ : ∀ v S', St S' st → DI.Fr [st] S S' → Dv q.1 v → Q.rt v S') : WS (dSs P0 (calls P0 fs (d + 2)) t_law_drawn_value_7 (slV st q.1 x2 x3 x4 b l p n x9 x10 x11 x12) S) Q := by
  unfold t_law_drawn_value_7
  have hlt := h.lt
  refine z_set (w_lst (w_nil ⟨sz (by show 0 ≤ 1000000; omega), ?_⟩))
  try simp only [List.set_cons_succ, List.set_cons_zero]
  refine z_for ?_
  with_reducible refine w_rng1 ?_
  refine V_use (x := .int 4) V_int ?_
  refine ⟨4, rfl, rfl, ?_⟩
  refine WS_for (n := 4) (fun i σ S1 => ∃ acc y11 y12, σ = slV st q.1 x2 x3 x4 b l p n x9 (some (.loc S.length)) y11 y12 ∧ St S1 st ∧ DI.Fr [st] S S1 ∧ S1[S.length]? = some (.lst acc) ∧ acc.length = i ∧ ∀ v ∈ acc, Pt q.1 v)
    ⟨[], _, _, rfl, h.fr (B := []) DI.Fr.push (by simp), fup DI.Fr.push, get_push, rfl, fun _ z => nomatch z⟩ ?_ ?_ ?_
  · rintro σ' S' _
    rfl
  · rintro i σ S1 hi ⟨acc, y11, y12, rfl, h1, f1, e1, hl, hp⟩
    refine ⟨.int (0 + i), _, by simp only [wgo]; rw [if_pos (by simpa using hi)], rfl, ?_⟩
    try simp only [List.set_cons_succ, List.set_cons_zero]
    refine drawn_part h1 (f1.get hb (by simpa using hbs)) hbs e1 (by omega) (by omega) B h4 hn fun v S2 y h2 f2 e2 g => ?_
    refine ⟨acc ++ [v], _, y, rfl, h2, fjoin f1 f2 (fun k hk hkl => ?_), e2, by simp [hl], fun u hu => ?_⟩
    · simp only [List.mem_cons, List.not_mem_nil, or_false] at hk ⊢
      rcases hk with rfl | rfl
      · rfl
      · omega
    · rcases List.mem_append.mp hu with hu | hu
      · exact hp u hu
      · rw [List.mem_singleton.mp hu]; exact g
  · rintro σ S1 ⟨acc, y11, y12, rfl, h1, f1, e1, hl, hp⟩
    unfold t_law_drawn_value_6
    refine z_ret (V_use (V_bi1 (V_var rfl) (bi_tup e1)) (hQ _ _ h1 f1 ⟨?_, fun S => .tup (fun x hx => (hp x hx).2.1 S) fun x hx => (hp x hx).2.2 S, fun xs e => by cases e; omega⟩))
    rw [four_styleV h4]
    show (true && (((acc.length : Int) == 4) && acc.all (tst q.1))) = true
    rw [hl, List.all_eq_true.mpr fun x hx => (hp x hx).1]
    rfl
theorem drawn_value {d st : Nat} {S : Sto} {w : Str} {Q : D → Sto → Prop} (h : St S st) (hw : w ∈ NL) (hQ : ∀ v S', St S' st → DI.Fr [st] S S' → Dv w v → Q v S') :
    W (calls P0 fs (d + 3) 27 [.loc st, .str w, .bl false] S) Q := by
  refine W_call (f := d_law_drawn_value) rfl rfl ?_
  show WS (dSs P0 _ t_law_drawn_value [some (.loc st), some (.str w), some (.bl false), none, none, none, none, none, none, none, none, none, none] S) _
  unfold t_law_drawn_value
  refine z_par (w_cal (w_nil (choices fun S1 a T1 => w_cal (w_cons (V_use (V_var rfl) (w_nil (bounds fun S2 b2 T2 => ?_)))))))
  try simp only [List.set_cons_succ, List.set_cons_zero]
  have hst := h.lt
  have f02 : DI.Fr [] S S2 := T1.f.trans T2.f
  have h2 := h.fr f02 (by simp)
  have T1' := T1.fr T2.f
  obtain ⟨bs1, c1, c2, c3⟩ := T1'.ex
  obtain ⟨bs2, g1, g2, g3⟩ := T2.ex
  rcases nl_row hw with ⟨q, hq⟩ | ⟨hn, q, hq⟩
  · obtain ⟨b, e3, e4, hbm⟩ := tb_find c2 hq
    refine z_iteT (p := true) (T_cmp (V_var rfl) (V_var rfl) (by rw [in_tb c1, e3]; rfl)) (fun _ => ?_) fun z => nomatch z
    exact drawn_choice (d := d) h2 (by omega) T1' hq fun v S' h' f' g => hQ v S' h' ((fup f02).trans f') g
  · refine z_iteT (p := false) (T_cmp (V_var rfl) (V_var rfl) (by rw [in_tb c1, tb_none c2 hn]; rfl)) (fun z => nomatch z) fun _ => z_nil ?_
    try dsimp only
    unfold t_law_drawn_value_8
    obtain ⟨b, e3, e4, hbm⟩ := tb_find g2 hq
    obtain ⟨m1, rfl⟩ := find_mem hq
    obtain ⟨l, p, B⟩ := bd_row m1
    have hv : rwV q b = .tup [.loc b, .int l, p] := by
      unfold rwV
      rw [B.eq]
    rw [hv] at e3
    have hb : b ≠ st := by have := g3 b hbm; have := T1.f.1; omega
    have hlo := B.lo
    refine z_setT (V_use (V_ix (z := .tup [.loc b, .int l, p]) (V_var rfl) (V_var rfl) (by simp only [itemSem, g1, dictAt, e3]; rfl)) ⟨_, rfl, ?_⟩)
    try simp only [List.set_cons_succ, List.set_cons_zero]
    refine z_set (w_pick rfl ?_)
    refine w_cons (V_use (V_var rfl) (w_cons (V_use (V_max (V_var rfl) V_int) (w_cons (w_int (w_cons (V_use V_pow6 (w_cons (w_bin (w_int (w_dig (base := 90) rfl h2 V_int (by omega) fun x S3 hx hx2 h3 f3 => ?_)))))))))))
    refine w_add (w_cons (w_bi (w_cons (V_use (V_var rfl) (w_cons (w_bin (w_int (w_int (w_sub (w_nil ⟨_, _, rfl, w_nil ⟨h3, by show 0 < 6; omega, by show 6 ≤ 1000; omega, fun n S4 hn4 h4 f4 => ?_⟩⟩))))))))))
    obtain ⟨n, rfl, hn1, hn2⟩ : ∃ i : Int, n = .int i ∧ l ≤ i ∧ i ≤ 1000000 := by
      simp only [List.mem_cons, List.not_mem_nil, or_false] at hn4
      rcases hn4 with rfl | rfl | rfl | rfl | rfl | rfl
      · exact ⟨_, rfl, by omega, by omega⟩
      · exact ⟨_, rfl, by omega, by omega⟩
      · exact ⟨_, rfl, by omega, by omega⟩
      · exact ⟨_, rfl, by omega, by omega⟩
      · exact ⟨_, rfl, by omega, by omega⟩
      · exact ⟨_, rfl, by omega, by omega⟩
    try simp only [List.set_cons_succ, List.set_cons_zero]
    have f24 := f3.trans f4
    have e4' := f24.get e4 (by simpa using hb)
    have f04 : DI.Fr [st] S S4 := (fup f02).trans f24
    refine z_iteT (t_nin4 rfl) (fun z => ?_) fun z => ?_
    · have z4 : four4 q.1 = false := by simpa [four4] using z
      exact drawn_single (d := d) h4 e4' B z4 ⟨hn1, hn2⟩ fun v S' h' f' g => hQ v S' h' (f04.trans f') g
    · have z4 : four4 q.1 = true := by simpa [four4] using z
      refine z_nil ?_
      exact drawn_four (d := d) h4 e4' hb B z4 ⟨hn1, hn2⟩ fun v S' h' f' g => hQ v S' h' (f04.trans f') g

end K85

set_option Elab.async false
set_option linter.all false
set_option maxRecDepth 100000
set_option maxHeartbeats 4000000
namespace K85
open L2 DI PySem PySem.Spec PyProof.Rows
/-! ### drawn strings and styles -/
theorem join_e (l : List Str) : (Txt.join "" l).cps.toList = (l.map fun x => x.cps.toList).flatten := by
  have e : Txt.join "" l = Str.join "" l := StrLaws.glued_eq_join _ l
  rw [e]
  induction l with
  | nil => rfl
  | cons a r ih =>
    cases r with
    | nil => simp [Str.join]
    | cons b r =>
      have : Str.join "" (a :: b :: r) = a ++ "" ++ Str.join "" (b :: r) := rfl
      rw [this, PySem.Str.cps_append, PySem.Str.cps_append, Array.toList_append, Array.toList_append, ih (by exact StrLaws.glued_eq_join _ _)]
      rw [show (("" : Str)).cps.toList = [] from by decide +kernel]
      simp
theorem one_chr {d i : Nat} {S : Sto} {z : Str} (h : St S i) (h0 : 0 < z.length) (h1 : z.length < 1000000) {Q : D → Sto → Prop}
    (hQ : ∀ (c : Nat) (S' : Sto), c ∈ z.cps.toList → St S' i → DI.Fr [i] S S' → Q (.str ⟨#[c]⟩) S') : W (calls P0 fs (d + 2) 23 [.loc i, .str z] S) Q := by
  refine W_call (f := d_law_one) rfl rfl ?_
  show WS (dSs P0 _ t_law_one [some (.loc i), some (.str z)] S) _
  unfold t_law_one
  have hz := sz (n := z.length) (by omega)
  refine z_ret (w_ix (w_var ⟨_, rfl, w_cal (w_cons (w_var ⟨_, rfl, w_cons (V_use (V_bi1 (V_var rfl) (z := .int z.length) (by simp only [biSem, hz, if_true])) (w_nil ?_))⟩))⟩))
  refine digit h (by omega) (by omega) fun x S' hx hx2 h' f => ?_
  obtain ⟨k, rfl⟩ := Int.eq_ofNat_of_zero_le hx
  have hl : z.cps.toList.length = z.length := Array.length_toList
  have hk : k < z.cps.toList.length := by omega
  refine ⟨.str ⟨#[z.cps.toList[k]]⟩, ?_, hQ _ S' (List.getElem_mem hk) h' f⟩
  simp only [itemSem, hz, if_true]
  unfold atI
  rw [ixN_nat hk]
  simp [List.getElem?_eq_getElem hk]
theorem strsD_map : ∀ l : List Str, strsD (l.map D.str) = some l
  | [] => rfl
  | x :: r => by simp only [List.map_cons, strsD, strsD_map r, Option.map_some]
/-- a text as it is drawn -/
def SG (x : Str) : Prop := x.length ≤ 20 ∧ ∀ c ∈ x.cps.toList, 32 ≤ c ∧ c ≤ 126
theorem SG.text {x : Str} (h : SG x) : textB (.str x) = true := by
  show (decide (x.length ≤ 400) && x.cps.toList.all (fun c => decide (32 ≤ c) && decide (c ≤ 126))) = true
  rw [decide_eq_true (by have := h.1; omega), Bool.true_and, List.all_eq_true]
  intro c hc
  obtain ⟨a, b⟩ := h.2 c hc
  rw [decide_eq_true a, decide_eq_true b]; rfl
theorem canLay_ascii {x : Str} (h : ∀ c ∈ x.cps.toList, c ≤ 126) : PyData.canLay0 (.str x) = true := by
  show PyData.strOk x = true
  unfold PyData.strOk
  rw [← Array.all_toList, List.all_eq_true]
  intro c hc
  have := h c hc
  exact decide_eq_true (by omega)
theorem SG.lay {x : Str} (h : SG x) : (decide (x.length ≤ 1000) && PyData.canLay0 (.str x)) = true := by
  rw [decide_eq_true (by have := h.1; omega), canLay_ascii fun c hc => (h.2 c hc).2]; rfl
theorem ab_chars : (" abz~!:=,.'#\"\\" : Str).cps.toList.all (fun c => decide (32 ≤ c) && decide (c ≤ 126)) = true := by decide +kernel
theorem sum_ones : ∀ {ys : List Str}, (∀ y ∈ ys, ∃ c, y = ⟨#[c]⟩ ∧ 32 ≤ c ∧ c ≤ 126) → (ys.map (·.length)).sum = ys.length ∧ (ys.map fun x => x.cps.toList).flatten.length = ys.length ∧ ∀ c ∈ (ys.map fun x => x.cps.toList).flatten, 32 ≤ c ∧ c ≤ 126
  | [], _ => ⟨rfl, rfl, fun _ h => nomatch h⟩
  | y :: r, h => by
    obtain ⟨i1, i2, i3⟩ := sum_ones (ys := r) fun z hz => h z (List.mem_cons_of_mem _ hz)
    obtain ⟨c, rfl, h1, h2⟩ := h y List.mem_cons_self
    refine ⟨?_, ?_, fun k hk => ?_⟩
    · rw [List.map_cons, List.sum_cons, i1, List.length_cons]
      show 1 + _ = _
      omega
    · rw [List.map_cons, List.flatten_cons, List.length_append, i2, List.length_cons]
      show 1 + r.length = r.length + 1
      omega
    · rw [List.map_cons, List.flatten_cons] at hk
      rcases List.mem_append.mp hk with hk | hk
      · have : k = c := by simpa using hk
        subst this; exact ⟨h1, h2⟩
      · exact i3 k hk
theorem string {d st : Nat} {S : Sto} {Q : D → Sto → Prop} (h : St S st) (hQ : ∀ x S', SG x → St S' st → DI.Fr [st] S S' → Q (.str x) S') : W (calls P0 fs (d + 3) 29 [.loc st] S) Q := by
  refine W_call (f := d_law_string) rfl rfl ?_
  show WS (dSs P0 _ t_law_string [some (.loc st), none, none] S) _
  unfold t_law_string
  have hlt := h.lt
  refine z_set (w_str ?_)
  try simp only [List.set_cons_succ, List.set_cons_zero]
  refine z_ret (w_join (w_str ⟨_, rfl, ?_⟩))
  refine lc_effG ?_
  with_reducible refine w_rng1 ?_
  refine w_dig (base := 9) rfl h V_int (by omega) fun x S1 hx hx2 h1 f1 => ⟨x, rfl, rng_ok (by omega), ?_⟩
  have hl1 := h1.lt
  refine ⟨x.toNat, fun k acc S' => St S' st ∧ DI.Fr [st] S S' ∧ ∃ ys, acc = ys.map D.str ∧ ∀ y ∈ ys, ∃ c, y = ⟨#[c]⟩ ∧ 32 ≤ c ∧ c ≤ 126, rfl, by omega, ⟨h1.fr (B := []) DI.Fr.push (by simp), f1.trans (fup DI.Fr.push), [], rfl, fun _ z => nomatch z⟩, ?_, ?_⟩
  · rintro i acc S' hi hl ⟨h2, f2, ys, rfl, hy⟩ e2
    refine ⟨_, _, go_rng hi, rfl, ?_⟩
    refine w_cal (w_cons (V_use (V_var rfl) (w_cons (V_use (V_var rfl) (w_nil (one_chr h2 (by decide +kernel) (by decide +kernel) fun c S3 hc h3 f3 => ?_))))))
    refine ⟨f3.get e2 (by simp; omega), h3.fr (B := [S1.length]) (DI.Fr.setr DI.Fr.refl (.inl (by simp))) (by simp; omega), (f2.trans f3).setr (.inr f1.1), ys ++ [⟨#[c]⟩], by simp, fun y hy' => ?_⟩
    rcases List.mem_append.mp hy' with hy' | hy'
    · exact hy y hy'
    · rw [List.mem_singleton.mp hy']
      have := List.all_eq_true.mp ab_chars c hc
      simp only [Bool.and_eq_true, decide_eq_true_eq] at this
      exact ⟨c, rfl, this⟩
  · rintro acc S' hl ⟨h2, f2, ys, rfl, hy⟩ e2
    obtain ⟨q1, q2, q3⟩ := sum_ones hy
    rw [List.length_map] at hl
    refine ⟨go_end, ys, by simp only [seqD, e2, Option.bind_some, strsD_map], ?_, hQ _ S' ⟨?_, ?_⟩ h2 f2⟩
    · rw [q1]
      show _ + _ * 0 ≤ _
      omega
    · have : (Txt.join "" ys).length = (Txt.join "" ys).cps.toList.length := Array.length_toList.symm
      rw [this, join_e, q2]
      omega
    · rw [join_e]
      exact q3
theorem names {d : Nat} {S : Sto} {Q : D → Sto → Prop} (hQ : ∀ S' a, S'[a]? = some (.lst (NL.map D.str)) → S.length ≤ a → DI.Fr [] S S' → Q (.loc a) S') : W (calls P0 fs (d + 1) 24 [] S) Q := by
  refine W_call (f := d_law_names) rfl rfl ?_
  show WS (dSs P0 _ t_law_names [none] S) _
  unfold t_law_names
  refine z_set (w_lst (w_strs (xs := ["float", "clear", "place", "offset", "width", "height", "least_width", "least_height", "most_width"]) ⟨sz (by show 9 ≤ 1000000; omega), ?_⟩))
  try simp only [List.set_cons_succ, List.set_cons_zero]
  refine z_set (w_bin (V_use (V_var rfl) (w_lst (w_strs (xs := ["most_height", "margin", "border", "padding", "clip", "raise", "letter", "up", "down", "line"]) ⟨sz (by show 10 ≤ 1000000; omega), ?_⟩))))
  refine w_addL (get_pushl get_push) get_push (sz (by show 9 + 10 ≤ 1000000; omega)) ?_
  try simp only [List.set_cons_succ, List.set_cons_zero]
  refine z_ret (w_bin (V_use (V_var rfl) (w_lst (w_strs (xs := ["wrap", "align", "indent"]) ⟨sz (by show 3 ≤ 1000000; omega), ?_⟩))))
  refine w_addL (get_pushl get_push) get_push (sz (by show 19 + 3 ≤ 1000000; omega)) ?_
  exact hQ _ _ get_push (by simp <;> omega) ((((DI.Fr.push.trans DI.Fr.push).trans DI.Fr.push).trans DI.Fr.push).trans DI.Fr.push)
theorem word_val {pl : Bool} {kvs : List (Key × D)} (h : SD pl kvs) {w : Str} (hw : (WD.lookup w).isSome = true) : (lookK kvs (.inr w)).getD .non = .non ∨ ∃ x, (lookK kvs (.inr w)).getD .non = .str x ∧ PyData.canLay0 (.str x) = true := by
  rcases e : lookK kvs (.inr w) with _ | v
  · exact .inl rfl
  · show v = .non ∨ ∃ x, v = .str x ∧ _
    obtain ⟨kv, hk, e1, e2⟩ := look_in e
    obtain ⟨w', a, b, c, d, _⟩ := h.all kv hk
    rw [a] at e1; cases e1
    subst e2
    unfold styleV at c
    rw [if_pos hw] at c
    unfold wordV at c
    obtain ⟨os, ho, hf⟩ := wd_tup hw
    rw [ho] at c
    simp only [Bool.or_eq_true, Bool.and_eq_true] at c
    rcases c with c | c
    · refine .inl ?_
      have := c.1
      cases hv : kv.2 <;> first | rfl | (rw [hv] at this; cases this; done)
    · refine .inr ?_
      have := c.1
      cases hv : kv.2 <;> first | (rw [hv] at this; cases this; done) | skip
      rename_i x
      refine ⟨x, rfl, ?_⟩
      have := d []
      rw [hv] at this
      cases this with
      | str h => exact h
theorem word_sh {pl : Bool} {kvs : List (Key × D)} (h : SD pl kvs) {w : Str} (hw : (WD.lookup w).isSome = true) (S : Sto) : Sh S ((lookK kvs (.inr w)).getD .non) := by
  rcases word_val h hw with e | ⟨x, e, hx⟩
  · rw [e]; exact sh_non
  · rw [e]; exact sh_str hx
theorem set_dk {S : Sto} {a : Nat} {kvs : List (Key × D)} {w : Str} {v : D} (h : S[a]? = some (.dk kvs)) (hl : kvs.length ≤ 100000) : setSem (.loc a) (.str w) v S = some (S.set a (.dk (putD kvs (.inr w) v))) := by
  have : kvs.length < sizeLine := Nat.lt_of_le_of_lt hl (by decide)
  simp only [setSem, h, this, if_true]
theorem put_len {kvs : List (Key × D)} {k : Key} {v : D} : (putD kvs k v).length ≤ kvs.length + 1 := by
  unfold putD
  split
  · rw [List.length_map]; omega
  · rw [List.length_append]; exact Nat.le_refl _
theorem drop_len {kvs : List (Key × D)} {k : Key} : (dropD kvs k).length ≤ kvs.length := List.length_filter_le _ _
/-- a drawn style -/
structure DS (S : Sto) (a : Nat) (kvs : List (Key × D)) : Prop where
  at_ : S[a]? = some (.dk kvs)
  sd : SD (plc kvs) kvs
  len : kvs.length ≤ 30
theorem drawn_style {d st : Nat} {S : Sto} {o : Int} {Q : D → Sto → Prop} (h : St S st) (ho : 0 < o ∧ o < 1000) (hQ : ∀ a kvs S', DS S' a kvs → S.length ≤ a → St S' st → DI.Fr [st] S S' → Q (.loc a) S') :
    W (calls P0 fs (d + 4) 28 [.loc st, .int o] S) Q := by
  refine W_call (f := d_law_drawn_style) rfl rfl ?_
  show WS (dSs P0 _ t_law_drawn_style [some (.loc st), some (.int o), none, none, none] S) _
  unfold t_law_drawn_style
  have hlt := h.lt
  refine z_par (w_dct0 (w_cal (w_nil (names fun S1 na e1 hna f1 => ?_))))
  try simp only [List.set_cons_succ, List.set_cons_zero]
  have f01 : DI.Fr [] S S1 := DI.Fr.push.trans f1
  have d1 : S1[S.length]? = some (.dk []) := f1.all _ _ get_push
  have h1 := h.fr f01 (by simp)
  have hna' : S.length < na := by simp at hna; omega
  have main : ∀ (S2 : Sto) (nb : Nat) (ws : List Str), S2[nb]? = some (.lst (ws.map D.str)) → (∀ w ∈ ws, w ∈ NL) → ws.length ≤ 22 → S.length < nb → St S2 st → DI.Fr [st] S S2 → S2[S.length]? = some (.dk []) →
      WS (dSs P0 (calls P0 fs (d + 3)) t_law_drawn_style_7 [some (.loc st), some (.int o), some (.loc S.length), some (.loc nb), none] S2) { nx := fun _ S => Q .non S, rt := Q } := by
    intro S2 nb ws e2 hw hwl hnb h2 f2 d2
    unfold t_law_drawn_style_7
    refine z_for (w_iex (V_use (V_var rfl) ⟨.li nb, walk_lst e2, ?_⟩))
    have hlen : wlen (.li nb) S2 = ws.length := by simp only [wlen, e2, List.length_map]
    rw [hlen]
    refine WS_for (n := ws.length) (fun i σ S3 => ∃ kvs y4, σ = [some (.loc st), some (.int o), some (.loc S.length), some (.loc nb), y4] ∧ St S3 st ∧ DI.Fr [st] S S3 ∧ S3[nb]? = some (.lst (ws.map D.str)) ∧ S3[S.length]? = some (.dk kvs) ∧ SD false kvs ∧ kvs.length ≤ i)
      ⟨[], _, rfl, h2, f2, e2, d2, SD.nil, Nat.le_refl _⟩ ?_ ?_ ?_
    · rintro σ S3 ⟨kvs, y4, rfl, h3, f3, e3, _⟩
      simp only [wgo, e3]
      rw [List.getElem?_eq_none (by simp)]
    · rintro i σ S3 hi ⟨kvs, y4, rfl, h3, f3, e3, d3, g3, l3⟩
      refine ⟨.str ws[i], _, by simp only [wgo, e3, List.getElem?_map, List.getElem?_eq_getElem hi]; rfl, rfl, ?_⟩
      try simp only [List.set_cons_succ, List.set_cons_zero]
      unfold t_law_drawn_style_3
      refine z_ite (w_cmp (w_dig (base := o) rfl h3 (V_var rfl) (by omega) fun x S4 hx hx2 h4 f4 => w_int ⟨_, cmp_int, _, rfl, fun _ => ?_, fun _ => ?_⟩))
      · unfold t_law_drawn_style_2
        refine z_sub (w_cal (w_cons (V_use (V_var rfl) (w_cons (V_use (V_var rfl) (w_cons (w_blc (w_nil (drawn_value h4 (hw _ (List.getElem_mem hi)) fun v S5 h5 f5 g5 => V_use (V_var rfl) (V_use (V_var rfl) ?_))))))))))
        have hne : S.length ≠ st := by omega
        have d5 := (f4.trans f5).get d3 (by simpa using hne)
        have e5 := (f4.trans f5).get e3 (by simp; omega)
        refine ⟨_, set_dk d5 (by omega), z_nil ?_⟩
        try dsimp only
        refine z_nil ?_
        refine ⟨putD kvs (.inr ws[i]) v, _, rfl, h5.fr (B := [S.length]) (DI.Fr.setr DI.Fr.refl (.inl (by simp))) (by simp; omega), (f3.trans (f4.trans f5)).setr (.inr (Nat.le_refl _)), by rw [get_setn (by omega)]; exact e5, get_set (lt_of d5), g3.put (nl_fd (hw _ (List.getElem_mem hi))) g5.good g5.ok g5.short, ?_⟩
        have := put_len (kvs := kvs) (k := .inr ws[i]) (v := v)
        omega
      · refine z_nil ?_
        try dsimp only
        refine z_nil ?_
        exact ⟨kvs, _, rfl, h4, f3.trans f4, f4.get e3 (by simp; omega), f4.get d3 (by simp; omega), g3, by omega⟩
    · rintro σ S3 ⟨kvs, y4, rfl, h3, f3, e3, d3, g3, l3⟩
      unfold t_law_drawn_style_6
      have fin : ∀ S4 kvs, St S4 st → DI.Fr [st] S S4 → S4[S.length]? = some (.dk kvs) → SD (plc kvs) kvs → kvs.length ≤ 30 → WS (dSs P0 (calls P0 fs (d + 3)) t_law_drawn_style_5 [some (.loc st), some (.int o), some (.loc S.length), some (.loc nb), y4] S4) { nx := fun _ S => Q .non S, rt := Q } := fun S4 kvs h4 f4 d4 g4 l4 => by
        unfold t_law_drawn_style_5
        exact z_ret (V_use (V_var rfl) (hQ _ kvs S4 ⟨d4, g4, l4⟩ (Nat.le_refl _) h4 f4))
      refine z_ite (w_and (T_use (t_eqS (word_sh g3 (by decide +kernel) _) (c_get (w := "place") rfl d3)) ⟨_, rfl, fun hp => ?_, fun _ => ⟨_, rfl, fun z => ?_, fun _ => ?_⟩⟩))
      · refine w_cmp (w_dig (base := 2) rfl h3 V_int (by omega) fun x S4 hx hx2 h4 f4 => w_int ⟨_, cmp_int, _, rfl, fun _ => ?_, fun _ => ?_⟩)
        · unfold t_law_drawn_style_4
          refine z_sub (w_tup (w_cons (w_str (w_cons (w_dig (base := 200) rfl h4 V_int (by omega) fun y S5 hy hy2 h5 f5 => w_nil ⟨sz (by show 2 ≤ 1000000; omega), V_use (V_var rfl) (w_str ?_)⟩)))))
          have d5 := (f4.trans f5).get d3 (by simp; omega)
          refine ⟨_, set_dk d5 (by omega), z_nil ?_⟩
          have epl : plc (putD kvs (.inr "height") (D.tup [.str "percent", .int y])) = true := by
            rw [plc_put (by decide)]; exact hp
          refine fin _ _ (h5.fr (B := [S.length]) (DI.Fr.setr DI.Fr.refl (.inl (by simp))) (by simp; omega)) ((f3.trans (f4.trans f5)).setr (.inr (Nat.le_refl _))) (get_set (lt_of d5)) ?_ ?_
          · rw [epl]
            refine g3.up.put (by decide +kernel) ?_ (fun _ => VOk_pct) (fun xs e => by cases e; show 2 ≤ 1000000; omega)
            rw [styleV_h, if_pos rfl, shr_of hy (by omega)]
            simp
          · have := put_len (kvs := kvs) (k := .inr "height") (v := D.tup [.str "percent", .int y])
            omega
        · refine z_nil ?_
          exact fin _ _ h4 (f3.trans f4) (f4.get d3 (by simp; omega)) g3.up (by omega)
      · cases z.symm.trans ‹isS _ _ = false›
      · refine z_nil ?_
        exact fin _ _ h3 f3 d3 g3.up (by omega)
  refine z_ite (w_cmp (w_dig (base := o) rfl h1 (V_var rfl) (by omega) fun x S2 hx hx2 h2 f2 => w_int ⟨_, cmp_int, _, rfl, fun _ => ?_, fun _ => ?_⟩))
  · unfold t_law_drawn_style_1
    have e2 := f2.get e1 (by simp; omega)
    refine z_set (w_rev (V_use (V_var rfl) ⟨_, lst_l e2, z_nil ?_⟩))
    try simp only [List.set_cons_succ, List.set_cons_zero]
    rw [← List.map_reverse]
    have hl2 := h2.lt
    exact main _ _ NL.reverse get_push (fun w hw => List.mem_reverse.mp hw) (by decide) (by have := f2.1; have := f1.1; simp at *; omega) (h2.fr (B := []) DI.Fr.push (by simp)) (((fup f01).trans f2).trans (fup DI.Fr.push)) (get_pushl (f2.get d1 (by simp; omega)))
  · refine z_nil ?_
    exact main _ _ NL (f2.get e1 (by simp; omega)) (fun w hw => hw) (by decide) hna' h2 ((fup f01).trans f2) (f2.get d1 (by simp; omega))

end K85

set_option Elab.async false
set_option linter.all false
set_option maxRecDepth 100000
set_option maxHeartbeats 4000000
namespace K85
open L2 DI PySem PySem.Spec PyProof.Rows
/-! ### values and nodes as texts -/
theorem str_assoc (a b c : Str) : a ++ b ++ c = a ++ (b ++ c) := by
  have h : ∀ x y : Str, (x ++ y) = ⟨x.cps ++ y.cps⟩ := fun _ _ => rfl
  rw [h, h, h, h]
  exact congrArg PySem.Str.mk (Array.append_assoc)
theorem str_empty_app (a : Str) : ("" : Str) ++ a = a := by
  have h : ∀ x y : Str, (x ++ y) = ⟨x.cps ++ y.cps⟩ := fun _ _ => rfl
  rw [h]
  show (⟨#[] ++ a.cps⟩ : Str) = a
  rw [Array.empty_append]
def intS (i : Int) : Str := Str.ofString (toString i)
def txF : D → Str
  | .str x => x
  | .tup [_, .int i] => intS i ++ "pc"
  | .non => "none"
  | .bl b => if b = true then "yes" else "no"
  | .int i => intS i
  | _ => ""
def txV (v : D) : Str := match v with
  | .tup xs => if xs.length = 2 then txF (.tup xs) else Txt.join "," (xs.map txF)
  | v => txF v
theorem txV_pct {a b : D} : txV (.tup [a, b]) = txF (.tup [a, b]) := by
  show (if ([a, b] : List D).length = 2 then txF (.tup [a, b]) else Txt.join "," ([a, b].map txF)) = _
  exact if_pos (show ([a, b] : List D).length = 2 from rfl)
/-- what may stand in a style, as far as its text goes -/
inductive FV : D → Prop
  | sm {v : D} : smV v = true → FV v
  | str {x : Str} : x.length ≤ 15 → FV (.str x)
  | four {xs : List D} : xs.length = 4 → (∀ x ∈ xs, smV x = true) → FV (.tup xs)
theorem styleV_fv {w : Str} {v : D} {pl : Bool} (h : styleV w v pl = true) : FV v := by
  have orS : ∀ {a b : Bool}, (a || b) = true → a = true ∨ b = true := fun h => by simpa using h
  have wh : ∀ {u : D}, isWh u = true → smV u = true := fun h => by unfold smV; rw [h]; simp
  have sz' : ∀ {u : D}, isSz u = true → smV u = true := fun h => wh (Bool.and_eq_true_iff.mp h).1
  have pc : ∀ {u : D}, isPct u = true → smV u = true := fun h => by unfold smV; rw [h]; simp
  have shr : ∀ {u : D}, isShr u = true → smV u = true := fun h => pc (Bool.and_eq_true_iff.mp h).1
  have au : ∀ {u : D}, isAu u = true → smV u = true := fun h => by unfold smV; rw [h]; simp
  have nn : ∀ {u : D}, isN u = true → smV u = true := fun h => by unfold smV; rw [h]; simp
  unfold styleV at h
  split at h
  · rename_i hw
    obtain ⟨os, ho, hf⟩ := wd_tup hw
    unfold wordV at h
    rw [ho] at h
    rcases orS h with h | h
    · exact .sm (nn (Bool.and_eq_true_iff.mp h).1)
    · obtain ⟨h1, h2⟩ := Bool.and_eq_true_iff.mp h
      obtain ⟨x, rfl⟩ : ∃ x, v = .str x := by
        cases v <;> first | exact ⟨_, rfl⟩ | cases h1
      obtain ⟨z, hz, e⟩ := List.any_eq_true.mp h2
      have hs := List.all_eq_true.mp wd_short _ (look_mem ho)
      have hz' := List.all_eq_true.mp hs z hz
      have : z = .str x := by
        cases z with
        | str y =>
          have : (y == x) = true := e
          rw [beq_iff_eq] at this
          rw [this]
        | _ => cases e
      subst this
      simp only [Bool.and_eq_true, decide_eq_true_eq] at hz'
      exact .str hz'.1
  · split at h
    · unfold four at h
      obtain ⟨h1, h2⟩ := Bool.and_eq_true_iff.mp h
      obtain ⟨h2, h3⟩ := Bool.and_eq_true_iff.mp h2
      obtain ⟨xs, rfl⟩ : ∃ xs, v = .tup xs := by
        cases v <;> first | exact ⟨_, rfl⟩ | cases h1
      have hl : ((xs.length : Int) == 4) = true := h2
      have hl' : xs.length = 4 := by
        rw [beq_iff_eq] at hl; omega
      refine .four hl' fun x hx => ?_
      have ht := List.all_eq_true.mp (show xs.all (tst w) = true from h3) x hx
      unfold tst at ht
      split at ht
      · rcases orS ht with ht | ht
        · exact nn ht
        · rcases orS ht with ht | ht
          · exact wh ht
          · exact pc ht
      · split at ht
        · rcases orS ht with ht | ht
          · exact au ht
          · rcases orS ht with ht | ht
            · exact wh ht
            · exact pc ht
        · split at ht
          · exact sz' ht
          · rcases orS ht with ht | ht
            · exact sz' ht
            · exact shr ht
    · split at h
      · rcases orS h with h | h
        · exact .sm (au h)
        · rcases orS h with h | h
          · exact .sm (sz' h)
          · exact .sm (shr h)
      · split at h
        · rcases orS h with h | h
          · exact .sm (au h)
          · exact .sm (sz' h)
        · split at h
          · rcases orS h with h | h
            · exact .sm (nn h)
            · exact .sm (sz' h)
          · split at h
            · exact .sm (by unfold smV; rw [h]; simp)
            · split at h
              · exact .sm (sz' (Bool.and_eq_true_iff.mp h).1)
              · split at h
                · exact .sm (wh h)
                · exact .sm (sz' h)
theorem sm_cases {v : D} (h : smV v = true) : v = .non ∨ v = .str "auto" ∨ (∃ i, v = .int i ∧ i.natAbs < 10 ^ 7) ∨ (∃ i, v = .tup [.str "percent", .int i] ∧ i.natAbs < 10 ^ 7) ∨ ∃ b, v = .bl b := by
  unfold smV at h
  simp only [Bool.or_eq_true] at h
  rcases h with h | h | h | h | h
  · cases v <;> first | exact .inl rfl | cases h
  · exact .inr (.inl (isS_eq h))
  · obtain ⟨i, rfl⟩ := wh_int h
    exact .inr (.inr (.inl ⟨i, rfl, wh_abs h⟩))
  · unfold isPct at h
    split at h
    · rename_i a b
      rw [Bool.and_eq_true] at h
      rw [isS_eq h.1]
      obtain ⟨i, rfl⟩ := wh_int h.2
      exact .inr (.inr (.inr (.inl ⟨i, rfl, wh_abs h.2⟩)))
    · cases h
  · cases v <;> first | exact .inr (.inr (.inr (.inr ⟨_, rfl⟩))) | cases h
theorem int_len {i : Int} (h : i.natAbs < 10 ^ 7) : (intS i).length ≤ 8 := by
  unfold intS
  rw [PySem.ofString_length]
  exact int_text_length_le10 (by omega) h
theorem int_log {i : Int} (h : i.natAbs < 10 ^ 7) : i.natAbs.log2 < 1920 := by
  by_cases h0 : i.natAbs = 0
  · rw [h0]; decide
  · rw [Nat.log2_lt h0]
    exact Nat.lt_of_lt_of_le h (by decide +kernel)
theorem txF_len {v : D} (h : smV v = true) : (txF v).length ≤ 10 := by
  rcases sm_cases h with rfl | rfl | ⟨i, rfl, hi⟩ | ⟨i, rfl, hi⟩ | ⟨b, rfl⟩
  · decide +kernel
  · decide +kernel
  · have := int_len hi
    show (intS i).length ≤ 10
    omega
  · have := int_len hi
    show (intS i ++ "pc").length ≤ 10
    rw [strLen_append]
    have e : (("pc" : Str)).length = 2 := by decide +kernel
    omega
  · cases b <;> decide +kernel
theorem sum_le {l : List Str} {b : Nat} (h : ∀ x ∈ l, x.length ≤ b) : (l.map (·.length)).sum ≤ l.length * b := by
  induction l with
  | nil => simp
  | cons x r ih =>
    have h1 := h x List.mem_cons_self
    have h2 := ih fun y hy => h y (List.mem_cons_of_mem _ hy)
    rw [List.map_cons, List.sum_cons, List.length_cons, Nat.add_mul]
    omega
theorem join_len {sep : Str} {l : List Str} : (Txt.join sep l).length ≤ (l.map (·.length)).sum + l.length * sep.length := by
  have e : Txt.join sep l = Str.join sep l := StrLaws.glued_eq_join _ l
  rw [e]
  cases l with
  | nil => show 0 ≤ _; omega
  | cons a r =>
    rw [len_join_cons, List.length_cons, Nat.add_mul]
    omega
theorem txV_len {v : D} (h : FV v) : (txV v).length ≤ 50 := by
  cases h with
  | sm h =>
    have := txF_len h
    rcases sm_cases h with rfl | rfl | ⟨i, rfl, hi⟩ | ⟨i, rfl, hi⟩ | ⟨b, rfl⟩
    · show (txF _).length ≤ 50; omega
    · show (txF _).length ≤ 50; omega
    · show (txF _).length ≤ 50; omega
    · rw [txV_pct]; omega
    · show (txF _).length ≤ 50; omega
  | str h => show _ ≤ 50; exact Nat.le_trans h (by omega)
  | @four xs h1 h2 =>
    show (if xs.length = 2 then _ else Txt.join "," (xs.map txF)).length ≤ 50
    rw [if_neg (by omega)]
    have h3 := sum_le (l := xs.map txF) (b := 10) fun x hx => by
      obtain ⟨y, hy, rfl⟩ := List.mem_map.mp hx
      exact txF_len (h2 y hy)
    have h4 := join_len (sep := ",") (l := xs.map txF)
    rw [List.length_map, h1] at h3 h4
    have e : (("," : Str)).length = 1 := by decide +kernel
    omega
theorem w_strI {C : Nat → List D → Sto → Out D} {σ : Sl} {S : Sto} {e : Ex} {i : Int} (h : V P0 C e σ S (.int i)) (hi : i.natAbs < 10 ^ 7) : V P0 C (.bi .str_ (.cons e .nil)) σ S (.str (intS i)) := V_bi1 h (by
  simp only [biSem]
  rw [if_pos (int_log hi)]
  rfl)
theorem w_addS {S : Sto} {a b : Str} {Q : D → Sto → Prop} (h : a.length + b.length ≤ 1000000) (k : Q (.str (a ++ b)) S) : W (.of (opSem .Add (.str a) (.str b) S)) Q := by
  have e : opSem .Add (.str a) (.str b) S = some (.str (a ++ b), S) := by
    simp only [opSem]
    rw [if_pos (sz h)]
  rw [e]; exact k
theorem V_addS {C : Nat → List D → Sto → Out D} {σ : Sl} {S : Sto} {x y : Ex} {a b : Str} (ha : V P0 C x σ S (.str a)) (hb : V P0 C y σ S (.str b)) (h : a.length + b.length ≤ 1000000) : V P0 C (.bin .Add x y) σ S (.str (a ++ b)) :=
  V_bin ha hb (by simp only [opSem]; rw [if_pos (sz h)])
abbrev AnsS (S : Sto) (x : Str) : D → Sto → Prop := fun r S' => DI.Fr [] S S' ∧ r = .str x
/-- a comprehension of texts over a tuple -/
theorem lc_strs {C : Nat → List D → Sto → Out D} {σ : Sl} {S : Sto} {xs : List D} {nm : Str} {v : Nat} {it elt : Ex} {Q : D → Sto → Prop} {f : D → Str} (hit : V P0 C it σ S (.tup xs)) (hl : xs.length ≤ 1000)
    (hv : ∀ x ∈ xs, ∀ S', DI.Fr [] S S' → W (de P0 C elt false (σ.set v (some x)) S') (AnsS S' (f x))) (hw : wipeD σ [v] = σ.set v none := by rfl)
    (hQ : ∀ a S', DI.Fr [] S S' → S'[a]? = some (.lst (xs.map fun x => D.str (f x))) → Q (.loc a) S') : W (de P0 C (.lc [(nm, v)] (.nm v) (.ex it) .nil elt) false σ S) Q := by
  refine lc_effG (w_iex (V_use hit ⟨_, rfl, ?_⟩))
  refine ⟨xs.length, fun i acc S' => DI.Fr [] S S' ∧ acc = (xs.take i).map fun x => D.str (f x), rfl, by omega, ⟨DI.Fr.push, rfl⟩, ?_, ?_⟩
  · rintro i acc S' hi hla ⟨f1, rfl⟩ e1
    refine ⟨xs[i], σ.set v (some xs[i]), by simp only [wgo, List.getElem?_eq_getElem hi], ?_, ?_⟩
    · show setTg (.nm v) xs[i] (wipeD σ [v]) = _
      rw [hw]
      simp [setTg]
    · refine W_mono (hv _ (List.getElem_mem hi) S' f1) ?_
      rintro r S2 ⟨f2, rfl⟩
      refine ⟨f2.all _ _ e1, (f1.trans f2).setr (.inr (Nat.le_refl _)), ?_⟩
      rw [List.take_succ, List.getElem?_eq_getElem hi, List.map_append]
      rfl
  · rintro acc S' hl ⟨f1, rfl⟩ e1
    rw [List.take_length] at e1
    exact ⟨by simp [wgo], hQ _ S' f1 e1⟩
theorem join_strs {S : Sto} {a : Nat} {l : List Str} (h : S[a]? = some (.lst (l.map D.str))) : (seqD (.loc a) S).bind strsD = some l := by
  simp only [seqD, h, Option.bind_some, strsD_map]
theorem small_ok {v : D} (h : smV v = true) (S : Sto) : TOk S v := by
  rcases sm_cases h with rfl | rfl | ⟨i, rfl, hi⟩ | ⟨i, rfl, hi⟩ | ⟨b, rfl⟩
  · exact .non
  · exact .str _
  · exact .int i
  · exact .tup _
  · exact .bl b
theorem fv_ok {v : D} (h : FV v) (S : Sto) : TOk S v := by
  cases h with
  | sm h => exact small_ok h S
  | str h => exact .str _
  | four _ _ => exact .tup _

end K85

set_option Elab.async false
set_option linter.all false
set_option maxRecDepth 100000
set_option maxHeartbeats 4000000
namespace K85
open L2 DI PySem PySem.Spec PyProof.Rows
/-- the program's text of a value -/
theorem vt_flat {n : Nat} {S : Sto} {v : D} (h : smV v = true ∨ ∃ x : Str, v = .str x) : W (calls P0 fs (n + 1) 17 [v] S) (AnsS S (txV v)) := by
  refine W_call (f := d_value_text) rfl rfl ?_
  show WS (dSs P0 _ t_value_text [some v, none] S) _
  unfold t_value_text
  have hok : TOk S v := by
    rcases h with h | ⟨x, rfl⟩
    · exact small_ok h S
    · exact .str x
  refine z_iteT (T_bl rfl (v_ts hok (V_var rfl))) (fun hs => ?_) fun hs => ?_
  · unfold t_value_text_1
    cases v <;> first | cases hs | skip
    exact z_ret (V_use (V_var rfl) ⟨DI.Fr.refl, rfl⟩)
  (try dsimp only; refine z_nil ?_)
  unfold t_value_text_10
  have hs' : smV v = true := by
    rcases h with h | ⟨x, rfl⟩
    · exact h
    · cases hs
  refine z_iteT (T_bl rfl (v_tt hok (V_var rfl))) (fun ht => ?_) fun ht => ?_
  · unfold t_value_text_4
    rcases sm_cases hs' with rfl | rfl | ⟨i, rfl, hi⟩ | ⟨i, rfl, hi⟩ | ⟨b, rfl⟩
    · cases ht
    · cases ht
    · cases ht
    · refine z_iteT (p := true) (T_ofV (V_cast (v_lenT (V_var rfl)) rfl)) (fun _ => ?_) fun z => nomatch z
      unfold t_value_text_2
      have hl := int_len hi
      have e : (("pc" : Str)).length = 2 := by decide +kernel
      refine z_ret (V_use (V_addS (w_strI (V_ix (z := .int i) (V_var rfl) V_int rfl) hi) V_str (by omega)) ⟨DI.Fr.refl, ?_⟩)
      rw [txV_pct]
      rfl
    · cases ht
  (try dsimp only; refine z_nil ?_)
  unfold t_value_text_9
  refine z_iteT (t_is (V_var rfl)) (fun hn => ?_) fun hn => ?_
  · unfold t_value_text_5
    cases v <;> first | cases hn | skip
    exact z_ret (w_str ⟨DI.Fr.refl, rfl⟩)
  (try dsimp only; refine z_nil ?_)
  unfold t_value_text_8
  refine z_iteT (T_bl rfl (v_tb hok (V_var rfl))) (fun hb => ?_) fun hb => ?_
  · unfold t_value_text_6
    cases v <;> first | cases hb | skip
    rename_i b
    cases b
    · exact z_ret (w_iteT (p := false) (T_bl rfl (V_var rfl)) (fun z => nomatch z) fun _ => w_str ⟨DI.Fr.refl, rfl⟩)
    · exact z_ret (w_iteT (p := true) (T_bl rfl (V_var rfl)) (fun _ => w_str ⟨DI.Fr.refl, rfl⟩) fun z => nomatch z)
  (try dsimp only; refine z_nil ?_)
  unfold t_value_text_7
  rcases sm_cases hs' with rfl | rfl | ⟨i, rfl, hi⟩ | ⟨i, rfl, hi⟩ | ⟨b, rfl⟩
  · cases hn
  · cases hs
  · exact z_ret (V_use (w_strI (V_var rfl) hi) ⟨DI.Fr.refl, rfl⟩)
  · cases ht
  · cases hb
theorem c_vtext {n : Nat} {S : Sto} {v : D} (h : FV v) : W (calls P0 fs (n + 2) 17 [v] S) (AnsS S (txV v)) := by
  cases h with
  | sm h => exact vt_flat (.inl h)
  | str h => exact vt_flat (.inr ⟨_, rfl⟩)
  | @four xs h1 h2 =>
    refine W_call (f := d_value_text) rfl rfl ?_
    show WS (dSs P0 _ t_value_text [some (.tup xs), none] S) _
    unfold t_value_text
    have hok : TOk S (.tup xs) := .tup xs
    refine z_iteT (p := false) (T_cast (T_bl rfl (v_ts hok (V_var rfl))) rfl) (fun z => nomatch z) fun _ => ?_
    (try dsimp only; refine z_nil ?_)
    unfold t_value_text_10
    refine z_iteT (p := true) (T_cast (T_bl rfl (v_tt hok (V_var rfl))) rfl) (fun _ => ?_) fun z => nomatch z
    unfold t_value_text_4
    refine z_iteT (p := false) (T_ofV (V_cast (v_lenT (V_var rfl)) (by rw [h1]; rfl))) (fun z => nomatch z) fun _ => ?_
    (try dsimp only; refine z_nil ?_)
    unfold t_value_text_3
    refine z_ret (w_join (w_str ⟨_, rfl, ?_⟩))
    refine lc_strs (f := txV) (V_var rfl) (by omega) (fun x hx S' f => w_cal (w_cons (V_use (V_var rfl) (w_nil (vt_flat (.inl (h2 x hx))))))) rfl fun a S' f e => ?_
    have e' : S'[a]? = some (.lst ((xs.map txV).map D.str)) := by rw [e, List.map_map]; rfl
    refine ⟨_, join_strs e', ?_, f, ?_⟩
    · have := sum_le (l := xs.map txV) (b := 50) fun x hx => by
        obtain ⟨y, hy, rfl⟩ := List.mem_map.mp hx
        exact txV_len (.sm (h2 y hy))
      rw [List.length_map, h1] at this
      rw [List.length_map, h1]
      have e : (("," : Str)).length = 1 := by decide +kernel
      omega
    · have : xs.map txV = xs.map txF := List.map_congr_left fun x hx => by
        rcases sm_cases (h2 x hx) with rfl | rfl | ⟨i, rfl, hi⟩ | ⟨i, rfl, hi⟩ | ⟨b, rfl⟩
        · rfl
        · rfl
        · rfl
        · exact txV_pct
        · rfl
      rw [this]
      show _ = D.str (if xs.length = 2 then _ else _)
      rw [if_neg (by omega)]

/-- the law's text of a value -/
theorem lt_flat {n : Nat} {S : Sto} {v : D} (h : smV v = true ∨ ∃ x : Str, v = .str x) : W (calls P0 fs (n + 1) 32 [v] S) (AnsS S (txV v)) := by
  refine W_call (f := d_law_value_text) rfl rfl ?_
  show WS (dSs P0 _ t_law_value_text [some v, none] S) _
  unfold t_law_value_text
  have hok : TOk S v := by
    rcases h with h | ⟨x, rfl⟩
    · exact small_ok h S
    · exact .str x
  refine z_iteT (t_is (V_var rfl)) (fun hn => ?_) fun hn => ?_
  · unfold t_law_value_text_1
    cases v <;> first | cases hn | skip
    exact z_ret (w_str ⟨DI.Fr.refl, rfl⟩)
  (try dsimp only; refine z_nil ?_)
  unfold t_law_value_text_8
  refine z_iteT (T_bl rfl (v_tb hok (V_var rfl))) (fun hb => ?_) fun hb => ?_
  · unfold t_law_value_text_2
    cases v <;> first | cases hb | skip
    rename_i b
    refine z_ret (w_ix (w_lst (w_cons (w_str (w_cons (w_str (w_nil ⟨sz (by show 2 ≤ 1000000; omega), V_use (V_bi1 (V_var rfl) rfl) ?_⟩)))))))
    refine ⟨.str (if b = true then "yes" else "no"), ?_, DI.Fr.push, rfl⟩
    simp only [itemSem, get_push]
    cases b <;> rfl
  (try dsimp only; refine z_nil ?_)
  unfold t_law_value_text_7
  by_cases hp : ∃ i, v = .tup [.str "percent", .int i] ∧ i.natAbs < 10 ^ 7
  · obtain ⟨i, rfl, hi⟩ := hp
    refine z_iteT (p := true) (T_cast (T_and (p := true) (q := true) (T_cast (T_bl rfl (v_tt hok (V_var rfl))) rfl) fun _ => T_ofV (V_cast (v_lenT (V_var rfl)) rfl)) rfl) (fun _ => ?_) fun z => nomatch z
    unfold t_law_value_text_3
    have hl := int_len hi
    have e : (("pc" : Str)).length = 2 := by decide +kernel
    refine z_ret (V_use (V_addS (w_strI (V_ix (z := .int i) (V_var rfl) V_int rfl) hi) V_str (by omega)) ⟨DI.Fr.refl, ?_⟩)
    rw [txV_pct]
    rfl
  have ht : tt v = false := by
    rcases h with h | ⟨x, rfl⟩
    · rcases sm_cases h with rfl | rfl | ⟨i, rfl, hi⟩ | ⟨i, rfl, hi⟩ | ⟨b, rfl⟩
      · rfl
      · rfl
      · rfl
      · exact absurd ⟨i, rfl, hi⟩ hp
      · rfl
    · rfl
  refine z_iteT (p := false) (T_cast (T_and (q := false) (T_cast (T_bl rfl (v_tt hok (V_var rfl))) ht) fun z => nomatch z) rfl) (fun z => nomatch z) fun _ => ?_
  (try dsimp only; refine z_nil ?_)
  unfold t_law_value_text_6
  refine z_iteT (p := false) (T_cast (T_bl rfl (v_tt hok (V_var rfl))) ht) (fun z => nomatch z) fun _ => ?_
  (try dsimp only; refine z_nil ?_)
  unfold t_law_value_text_5
  refine z_ret (w_iteT (T_bl rfl (v_ts hok (V_var rfl))) (fun hs => ?_) fun hs => ?_)
  · cases v <;> first | cases hs | skip
    exact V_use (V_var rfl) ⟨DI.Fr.refl, rfl⟩
  · rcases h with h | ⟨x, rfl⟩
    · rcases sm_cases h with rfl | rfl | ⟨i, rfl, hi⟩ | ⟨i, rfl, hi⟩ | ⟨b, rfl⟩
      · cases hn
      · cases hs
      · exact V_use (w_strI (V_var rfl) hi) ⟨DI.Fr.refl, rfl⟩
      · cases ht
      · cases hb
    · cases hs
theorem l_vtext {n : Nat} {S : Sto} {v : D} (h : FV v) : W (calls P0 fs (n + 2) 32 [v] S) (AnsS S (txV v)) := by
  cases h with
  | sm h => exact lt_flat (.inl h)
  | str h => exact lt_flat (.inr ⟨_, rfl⟩)
  | @four xs h1 h2 =>
    refine W_call (f := d_law_value_text) rfl rfl ?_
    show WS (dSs P0 _ t_law_value_text [some (.tup xs), none] S) _
    unfold t_law_value_text
    have hok : TOk S (.tup xs) := .tup xs
    refine z_iteT (p := false) (T_cast (t_is (V_var rfl)) rfl) (fun z => nomatch z) fun _ => ?_
    (try dsimp only; refine z_nil ?_)
    unfold t_law_value_text_8
    refine z_iteT (p := false) (T_cast (T_bl rfl (v_tb hok (V_var rfl))) rfl) (fun z => nomatch z) fun _ => ?_
    (try dsimp only; refine z_nil ?_)
    unfold t_law_value_text_7
    refine z_iteT (p := false) (T_cast (T_and (p := true) (q := false) (T_cast (T_bl rfl (v_tt hok (V_var rfl))) rfl) fun _ => T_ofV (V_cast (v_lenT (V_var rfl)) (by rw [h1]; rfl))) rfl) (fun z => nomatch z) fun _ => ?_
    (try dsimp only; refine z_nil ?_)
    unfold t_law_value_text_6
    refine z_iteT (p := true) (T_cast (T_bl rfl (v_tt hok (V_var rfl))) rfl) (fun _ => ?_) fun z => nomatch z
    unfold t_law_value_text_4
    refine z_ret (w_join (w_str ⟨_, rfl, ?_⟩))
    refine lc_strs (f := txV) (V_var rfl) (by omega) (fun x hx S' f => w_cal (w_cons (V_use (V_var rfl) (w_nil (lt_flat (.inl (h2 x hx))))))) rfl fun a S' f e => ?_
    have e' : S'[a]? = some (.lst ((xs.map txV).map D.str)) := by rw [e, List.map_map]; rfl
    refine ⟨_, join_strs e', ?_, f, ?_⟩
    · have := sum_le (l := xs.map txV) (b := 50) fun x hx => by
        obtain ⟨y, hy, rfl⟩ := List.mem_map.mp hx
        exact txV_len (.sm (h2 y hy))
      rw [List.length_map, h1] at this
      rw [List.length_map, h1]
      have e : (("," : Str)).length = 1 := by decide +kernel
      omega
    · have : xs.map txV = xs.map txF := List.map_congr_left fun x hx => by
        rcases sm_cases (h2 x hx) with rfl | rfl | ⟨i, rfl, hi⟩ | ⟨i, rfl, hi⟩ | ⟨b, rfl⟩
        · rfl
        · rfl
        · rfl
        · exact txV_pct
        · rfl
      rw [this]
      show _ = D.str (if xs.length = 2 then _ else _)
      rw [if_neg (by omega)]

end K85

set_option Elab.async false
set_option linter.all false
set_option maxRecDepth 100000
set_option maxHeartbeats 4000000
namespace K85
open L2 DI PySem PySem.Spec PyProof.Rows
/-! ### equality of texts and lists, looks that change nothing -/
theorem eq_strs {S : Sto} {a b : Str} : eqSem (.str a) (.str b) S = some (a == b) := by
  unfold eqSem
  simp only [toP]
  split <;> rfl
theorem ne_strs {S : Sto} {a : Str} : cmpSem .NotEq (.str a) (.str a) S = some false := by
  rw [NE_of eq_strs]; simp
theorem cmp_loc {S : Sto} {x : D} {i : Nat} {t : Bool} (h : eqSem x (.loc i) S = some t) : cmpSem .Eq x (.loc i) S = some t := by
  cases x <;> simp only [cmpSem, h]
theorem toRs_mono {S S' : Sto} {n : Nat} (ih : ∀ d p, toR S n d = some p → toR S' n d = some p) : ∀ (xs : List D) (ps : List PyData), xs.mapM (toR S n) = some ps → xs.mapM (toR S' n) = some ps
  | [], ps, h => by simpa using h
  | x :: xs, ps, h => by
    rw [List.mapM_cons] at h ⊢
    cases h1 : toR S n x with
    | none => rw [h1] at h; cases h
    | some q =>
      rw [h1] at h
      rw [ih x q h1]
      cases h2 : xs.mapM (toR S n) with
      | none => rw [h2] at h; cases h
      | some qs =>
        rw [h2] at h
        rw [toRs_mono ih xs qs h2]
        exact h
theorem toR_mono {S S' : Sto} (f : DI.Fr [] S S') : ∀ n d p, toR S n d = some p → toR S' n d = some p
  | 0, _, _, h => by simp [toR] at h
  | n + 1, d, p, h => by
    have ih := toRs_mono (toR_mono f n)
    cases d with
    | tup xs =>
      simp only [toR, Option.map_eq_some_iff] at h ⊢
      obtain ⟨ps, h1, rfl⟩ := h
      exact ⟨ps, ih _ _ h1, rfl⟩
    | rl xs =>
      simp only [toR, Option.map_eq_some_iff] at h ⊢
      obtain ⟨ps, h1, rfl⟩ := h
      exact ⟨ps, ih _ _ h1, rfl⟩
    | loc a =>
      simp only [toR] at h ⊢
      split at h
      · rename_i xs hx
        rw [f.all _ _ hx]
        simp only [Option.map_eq_some_iff] at h ⊢
        obtain ⟨ps, h1, rfl⟩ := h
        exact ⟨ps, ih _ _ h1, rfl⟩
      · rename_i xs hx
        rw [f.all _ _ hx]
        simp only [Option.map_eq_some_iff] at h ⊢
        obtain ⟨ps, h1, rfl⟩ := h
        exact ⟨ps, ih _ _ h1, rfl⟩
      · cases h
    | _ => simpa only [toR] using h
theorem SD.lit {pl : Bool} {l : List (Str × Lit)} (h : (decide (l.map (·.1)).Nodup && l.all fun q => (FD.lookup q.1).isSome && (styleV q.1 q.2.d pl && layL q.2)) = true) : SD pl (litD l) := by
  rw [Bool.and_eq_true] at h
  obtain ⟨h0, h2⟩ := h
  have h1 := of_decide_eq_true h0
  clear h0
  refine ⟨?_, fun kv hk => ?_⟩
  · have e : (litD l).map (·.1) = (l.map (·.1)).map (Sum.inr : Str → Key) := by
      unfold litD
      rw [List.map_map, List.map_map]; rfl
    rw [e]
    clear h2 e
    induction l with
    | nil => exact List.nodup_nil
    | cons q r ih =>
      rw [List.map_cons, List.nodup_cons] at h1
      rw [List.map_cons, List.map_cons, List.nodup_cons]
      refine ⟨fun hm => h1.1 ?_, ih h1.2⟩
      obtain ⟨k, hk, e⟩ := List.mem_map.mp hm
      cases e; exact hk
  · obtain ⟨q, hq, rfl⟩ := List.mem_map.mp hk
    have := List.all_eq_true.mp h2 q hq
    simp only [Bool.and_eq_true] at this
    refine ⟨q.1, rfl, this.1, this.2.1, fun S => VOk.lit this.2.2, fun xs e => ?_⟩
    have e : q.2.d = .tup xs := e
    cases hq2 : q.2 <;> (rw [hq2] at e; cases e)
/-- a comprehension whose test is a call -/
theorem lc_ifG {P : Pg} {C : Nat → List D → Sto → Out D} {σ : Sl} {S : Sto} {own : List (Str × Nat)} {tg : Tg} {it : Ir} {test elt : Ex} {Q : D → Sto → Prop}
    (hit : W (deI P C it σ S) fun w S1 => ∃ (n : Nat) (I : Nat → List D → Sto → Prop), wlen w S1 = n ∧ n ≤ 1000000 ∧ I 0 [] (S1 ++ [Cell.lst []]) ∧
      (∀ i acc S', i < n → acc.length ≤ i → I i acc S' → S'[S1.length]? = some (Cell.lst acc) → ∃ d σ', wgo w i S' = some (some d) ∧ setTg tg d (wipeD σ (own.map (·.2))) = some σ' ∧ W (de P C test true σ' S') fun r S2 => ∃ t, r = .bl t ∧ S2[S1.length]? = some (Cell.lst acc) ∧
        (t = true → W (de P C elt false σ' S2) fun v S3 => S3[S1.length]? = some (Cell.lst acc) ∧ I (i + 1) (acc ++ [v]) (S3.set S1.length (Cell.lst (acc ++ [v])))) ∧ (t = false → I (i + 1) acc S2)) ∧
      (∀ acc S', I n acc S' → S'[S1.length]? = some (Cell.lst acc) → wgo w n S' = some none ∧ Q (.loc S1.length) S')) : W (de P C (.lc own tg it (.cons test .nil) elt) false σ S) Q := by
  refine w_lc (W_mono hit fun w S1 ⟨n, I, hw2, hw3, h0, hs, hq⟩ => ?_)
  rw [hw2]
  refine W_lcLoop (J := fun i S' => i ≤ n ∧ ∃ acc, acc.length ≤ i ∧ I i acc S' ∧ S'[S1.length]? = some (Cell.lst acc)) (k0 := n) ?_ ?_ ?_ n 0 _ (by omega) ⟨by omega, [], Nat.le_refl _, h0, get_push⟩
  · rintro S' ⟨_, acc, h1, h2, h3⟩
    exact (hq acc S' h2 h3).1
  · rintro i S' hi ⟨_, acc, h1, h2, h3⟩
    obtain ⟨d, σ', e0, e1, e2⟩ := hs i acc S' hi h1 h2 h3
    refine ⟨d, σ', e0, e1, w_T1 (W_mono e2 fun r S2 ⟨t, hr, k1, k2, k3⟩ => ⟨t, hr, ?_⟩)⟩
    cases t with
    | true =>
      rw [if_pos rfl]
      refine W_mono (k2 rfl) fun v S3 ⟨k4, k5⟩ => ⟨acc, k4, ?_, by omega, _, ?_, k5, get_set (lt_of k4)⟩
      · exact Nat.lt_of_lt_of_le (m := 1000001) (by omega) (by decide)
      · rw [List.length_append]; show acc.length + 1 ≤ i + 1; omega
    | false =>
      rw [if_neg (by decide)]
      exact ⟨by omega, acc, by omega, k3 rfl, k1⟩
  · rintro S' ⟨_, acc, h1, h2, h3⟩
    exact (hq acc S' h2 h3).2
theorem w_blk {C : Nat → List D → Sto → Out D} {σ : Sl} {S : Sto} {k : Str} {e : Ex} {Q : D → Sto → Prop} (h : W (de P0 C e false σ (S ++ [Cell.dk []])) fun x S1 => Q (.tup [.str k, .loc S.length, x]) S1) : W (de P0 C (.tup (.cons (.cst (.str k)) (.cons (.dct0 false) (.cons e .nil)))) false σ S) Q :=
  w_tup (w_cons (w_str (w_cons (w_dct0 (w_cons (W_mono h fun x S1 hx => w_nil ⟨sz (by show 3 ≤ 1000000; omega), hx⟩))))))
theorem w_blkD {C : Nat → List D → Sto → Out D} {σ : Sl} {S : Sto} {k : Str} {l : List (Str × Lit)} {e : Ex} {Q : D → Sto → Prop} (hl : okL l = true) (h : W (de P0 C e false σ (S ++ [Cell.dk (litD l)])) fun x S1 => Q (.tup [.str k, .loc S.length, x]) S1) : W (de P0 C (.tup (.cons (.cst (.str k)) (.cons (dictE l) (.cons e .nil)))) false σ S) Q :=
  w_tup (w_cons (w_str (w_cons (w_dictE hl (w_cons (W_mono h fun x S1 hx => w_nil ⟨sz (by show 3 ≤ 1000000; omega), hx⟩))))))
theorem w_img0 {C : Nat → List D → Sto → Out D} {σ : Sl} {S : Sto} {a b : Ex} {w h : Int} {Q : D → Sto → Prop} (ha : V P0 C a σ (S ++ [Cell.dk []]) (.int w)) (hb : V P0 C b σ (S ++ [Cell.dk []]) (.int h)) (hq : Q (.tup [.str "image", .loc S.length, .int w, .int h]) (S ++ [Cell.dk []])) :
    W (de P0 C (.tup (.cons (.cst (.str ("image" : Str))) (.cons (.dct0 false) (.cons a (.cons b .nil))))) false σ S) Q :=
  w_tup (w_cons (w_str (w_cons (w_dct0 (w_cons (V_use ha (w_cons (V_use hb (w_nil ⟨sz (by show 4 ≤ 1000000; omega), hq⟩)))))))))

/-! ### rows of trees -/
theorem fd_nl : FD.map (·.1) = NL := by decide +kernel
def wordTx (w : Str) (v : D) : Str := w ++ "=" ++ txV v
def styTx (kvs : List (Key × D)) : List Str := NL.filterMap fun w => (lookK kvs (.inr w)).map fun v => wordTx w v
def kvsAt (S : Sto) (a : Nat) : List (Key × D) := match S[a]? with | some (.dk kvs) => kvs | _ => []
def rowS (S : Sto) : D → Str
  | .tup [.str _, .str x] => "text:" ++ x
  | .tup [.str k] => k
  | .tup [.str k, .loc a, .int w, .int h] => Txt.join " " ([k, intS w, intS h] ++ styTx (kvsAt S a))
  | .tup [.str k, .loc a, .tup _] => Txt.join " " ([k] ++ styTx (kvsAt S a))
  | _ => ""
def kidsOf : D → List D | .tup [_, _, .tup ks] => ks | _ => []
def rowsS (S : Sto) : Nat → Nat → D → List Str
  | 0, _, _ => []
  | f + 1, lv, d => (repS "  " lv ++ rowS S d) :: ((kidsOf d).map (rowsS S f (lv + 1))).flatten
theorem kvs_at {S : Sto} {a : Nat} {kvs : List (Key × D)} (h : S[a]? = some (.dk kvs)) : kvsAt S a = kvs := by unfold kvsAt; rw [h]
theorem nl_len : NL.all (fun w => decide (w.length ≤ 15)) = true := by decide +kernel
theorem sd_fv {pl : Bool} {kvs : List (Key × D)} (g : SD pl kvs) {w : Str} {v : D} (h : lookK kvs (.inr w) = some v) : FV v := by
  obtain ⟨kv, hk, e1, e2⟩ := look_in h
  obtain ⟨w', a, b, c, _⟩ := g.all kv hk
  subst e2
  exact styleV_fv c
theorem word_len {w : Str} {v : D} (hw : w ∈ NL) (h : FV v) : (wordTx w v).length ≤ 70 := by
  have h1 := of_decide_eq_true (List.all_eq_true.mp nl_len w hw)
  have h2 := txV_len h
  unfold wordTx
  rw [strLen_append, strLen_append]
  have e : (("=" : Str)).length = 1 := by decide +kernel
  omega
theorem sty_len {pl : Bool} {kvs : List (Key × D)} (g : SD pl kvs) : (styTx kvs).length ≤ 22 ∧ ∀ x ∈ styTx kvs, x.length ≤ 70 := by
  refine ⟨Nat.le_trans (List.length_filterMap_le _ _) (by decide), fun x hx => ?_⟩
  obtain ⟨w, hw, e⟩ := List.mem_filterMap.mp hx
  obtain ⟨v, hv, rfl⟩ := Option.map_eq_some_iff.mp e
  exact word_len hw (sd_fv g hv)
theorem words_len {l : List Str} (h1 : l.length ≤ 30) (h2 : ∀ x ∈ l, x.length ≤ 70) : (Txt.join " " l).length ≤ 2200 ∧ (l.map (·.length)).sum + l.length * ((" " : Str)).length ≤ 2200 := by
  have h3 := sum_le h2
  have h4 := join_len (sep := " ") (l := l)
  have e : ((" " : Str)).length = 1 := by decide +kernel
  rw [e] at h4 ⊢
  have h5 : l.length * 70 ≤ 30 * 70 := Nat.mul_le_mul_right _ h1
  omega
theorem join_one (x : Str) : Txt.join " " [x] = x := StrLaws.glued_eq_join _ _
theorem ind_len (lv : Nat) : (repS "  " lv).length = lv * 2 := by
  rw [rep_len]
  have e : (("  " : Str)).length = 2 := by decide +kernel
  rw [e]
/-- how long rows are -/
def RowsB (b : Nat) (l : List Str) : Prop := ∀ r ∈ l, r.length ≤ b
theorem memK_len {k : Str} (h : memK k = true) : k.length ≤ 10 := (memK_short h).1
theorem row_len {S : Sto} {ab : Str} {n : Nat} {x : D} {s : Nat} (g : GT S ab n x s) : (rowS S x).length ≤ 2300 := by
  cases g with
  | brk => show (("break" : Str)).length ≤ 2300; decide +kernel
  | @txt _ _ x a b =>
    have hb : (decide (x.length ≤ 400) && x.cps.toList.all (fun c => decide (32 ≤ c) && decide (c ≤ 126))) = true := b
    rw [Bool.and_eq_true] at hb
    have := of_decide_eq_true hb.1
    show (("text:" : Str) ++ x).length ≤ _
    rw [strLen_append]
    have e : (("text:" : Str)).length = 5 := by decide +kernel
    omega
  | @img _ _ a kvs w h e1 e2 e3 =>
    rw [Bool.and_eq_true] at e3
    have h1 := int_len (wh_abs (Bool.and_eq_true_iff.mp e3.1).1)
    have h2 := int_len (wh_abs (Bool.and_eq_true_iff.mp e3.2).1)
    obtain ⟨g1, g2⟩ := sty_len e2
    show (Txt.join " " ([("image" : Str), intS w, intS h] ++ styTx (kvsAt S a))).length ≤ _
    rw [kvs_at e1]
    refine Nat.le_trans (words_len (by simp; omega) fun x hx => ?_).1 (by omega)
    rcases List.mem_append.mp hx with hx | hx
    · simp only [List.mem_cons, List.not_mem_nil, or_false] at hx
      rcases hx with rfl | rfl | rfl
      · decide +kernel
      · omega
      · omega
    · exact g2 x hx
  | @kind _ k _ a m kvs ks e1 e2 e3 e4 e5 e6 =>
    obtain ⟨g1, g2⟩ := sty_len e3
    show (Txt.join " " ([k] ++ styTx (kvsAt S a))).length ≤ _
    rw [kvs_at e2]
    refine Nat.le_trans (words_len (by simp; omega) fun x hx => ?_).1 (by omega)
    rcases List.mem_append.mp hx with hx | hx
    · rw [List.mem_singleton.mp hx]
      have := memK_len e1
      omega
    · exact g2 x hx
theorem leafR {S : Sto} {ab : Str} {n s lv : Nat} {x : D} (g : GT S ab n x s) (hk : kidsOf x = []) (h : lv + n ≤ 20) : (rowsS S (n + 1) lv x).length ≤ s ∧ RowsB 2400 (rowsS S (n + 1) lv x) := by
  have hr := row_len g
  have hs : 1 ≤ s := by cases g <;> omega
  show (_ :: ((kidsOf x).map _).flatten : List Str).length ≤ s ∧ RowsB 2400 (_ :: ((kidsOf x).map _).flatten)
  rw [hk]
  refine ⟨hs, fun r hr' => ?_⟩
  rw [List.mem_singleton.mp hr', strLen_append, ind_len]
  omega
mutual
theorem GT.rlen {S : Sto} : ∀ {ab : Str} {n : Nat} {x : D} {s : Nat}, GT S ab n x s → ∀ {lv : Nat}, lv + n ≤ 20 → (rowsS S (n + 1) lv x).length ≤ s ∧ RowsB 2400 (rowsS S (n + 1) lv x)
  | _, n, _, _, .brk, lv, h => leafR (.brk (n := n) (ab := "")) rfl h
  | _, n, _, _, .txt a b, lv, h => leafR (.txt (n := n) (ab := "") a b) rfl h
  | _, n, _, _, .img a b c, lv, h => leafR (.img (n := n) (ab := "") a b c) rfl h
  | ab, n, _, _, .kind (m := m) a b c d e f, lv, h => by
    have g : GT _ ab n _ _ := .kind a b c d e f
    have hr := row_len g
    obtain ⟨h1, h2⟩ := GTs.rlen f (lv := lv + 1) (by omega)
    refine ⟨?_, fun r hr' => ?_⟩
    · show (_ :: _ : List Str).length ≤ _
      rw [List.length_cons]
      exact Nat.succ_le_succ h1
    · rcases List.mem_cons.mp hr' with rfl | hr'
      · rw [strLen_append, ind_len]; omega
      · exact h2 r hr'
theorem GTs.rlen {S : Sto} : ∀ {k : Str} {n : Nat} {ks : List D} {m : Nat}, GTs S k n ks m → ∀ {lv : Nat}, lv + n ≤ 21 → ((ks.map (rowsS S n lv)).flatten).length ≤ m ∧ RowsB 2400 (ks.map (rowsS S n lv)).flatten
  | _, _, _, _, .nil, lv, h => ⟨Nat.le_refl _, fun _ hr => nomatch hr⟩
  | _, _, _, _, .cons (n := n) (ks := ks) a b, lv, h => by
    obtain ⟨h1, h2⟩ := GT.rlen a (lv := lv) (by omega)
    obtain ⟨h3, h4⟩ := GTs.rlen b (lv := lv) h
    rw [List.map_cons, List.flatten_cons]
    refine ⟨by rw [List.length_append]; omega, fun r hr => ?_⟩
    rcases List.mem_append.mp hr with hr | hr
    · exact h2 r hr
    · exact h4 r hr
end

end K85

set_option Elab.async false
set_option linter.all false
set_option maxRecDepth 100000
set_option maxHeartbeats 4000000
namespace K85
open L2 DI PySem PySem.Spec PyProof.Rows
/-! ### drawn nodes and trees -/
theorem keep2 {st lf : Nat} {S S' : Sto} {l : List D} (h : St S st) (hl : S[lf]? = some (.lst l)) (f : DI.Fr [st, lf] S S') : ∀ (a : Nat) (kvs : List (Key × D)), S[a]? = some (.dk kvs) → S'[a]? = some (.dk kvs) := by
  intro a kvs e
  refine f.get e ?_
  obtain ⟨l', h1, _⟩ := h
  simp only [List.mem_cons, List.not_mem_nil, or_false, not_or]
  exact ⟨fun z => (by rw [z, h1] at e; cases e), fun z => (by rw [z, hl] at e; cases e)⟩
theorem keep1 {st : Nat} {S S' : Sto} (h : St S st) (f : DI.Fr [st] S S') : ∀ (a : Nat) (kvs : List (Key × D)), S[a]? = some (.dk kvs) → S'[a]? = some (.dk kvs) := by
  intro a kvs e
  refine f.get e ?_
  obtain ⟨l', h1, _⟩ := h
  simp only [List.mem_cons, List.not_mem_nil, or_false]
  exact fun z => (by rw [z, h1] at e; cases e)
theorem f12 {st lf : Nat} {S S' : Sto} (f : DI.Fr [st] S S') : DI.Fr [st, lf] S S' := f.sub fun k hk _ => by simp at hk ⊢; exact .inl hk
/-- what a drawn node promises -/
def NodeQ (S : Sto) (st lf : Nat) (l : Int) (ab : Str) (m : Nat) (Q : D → Sto → Prop) : Prop :=
  ∀ x S' (s : Nat), GT S' ab m x s → S'[lf]? = some (.lst [.int (l - s)]) → 1 ≤ s → (s : Int) ≤ l → St S' st → DI.Fr [st, lf] S S' → Q x S'
abbrev slN (st lf : Nat) (m : Nat) (ab k : Str) (x5 x6 x7 x8 : Option D) : Sl := [some (.loc st), some (.loc lf), some (.int (m : Nat)), some (.str ab), some (.str k), x5, x6, x7, x8]
theorem node_kids {C : Nat} {st lf m a : Nat} {S : Sto} {l : Int} {ab k : Str} {kvs : List (Key × D)} {x6 x7 x8 : Option D} {Q : D → Sto → Prop} (h : St S st) (hl : S[lf]? = some (.lst [.int l])) (hne : st ≠ lf) (h0 : 0 ≤ l) (hk : memK k = true)
    (ha : S[a]? = some (.dk kvs)) (hg : SD (plc kvs) kvs) (hr : ab = "inline" → blk k = true → outL kvs = true)
    (rec : ∀ m', m = m' + 1 → ∀ {S : Sto} {l : Int} {Q : D → Sto → Prop}, St S st → S[lf]? = some (.lst [.int l]) → 1 ≤ l → NodeQ S st lf l k m' Q → W (calls P0 fs (C + 2) 30 [.loc st, .loc lf, .int (m' : Nat), .str k] S) Q)
    (hQ : ∀ x S' (s : Nat), GT S' ab m x s → S'[lf]? = some (.lst [.int (l + 1 - s)]) → 1 ≤ s → (s : Int) ≤ l + 1 → St S' st → DI.Fr [st, lf] S S' → Q x S') :
    WS (dSs P0 (calls P0 fs (C + 2)) t_law_drawn_node_8 (slN st lf m ab k (some (.loc a)) x6 x7 x8) S) { nx := fun _ S => Q .non S, rt := Q } := by
  unfold t_law_drawn_node_8
  have hlt := h.lt
  have hlf := lt_of hl
  refine z_set (w_lst (w_nil ⟨sz (by show 0 ≤ 1000000; omega), ?_⟩))
  try simp only [List.set_cons_succ, List.set_cons_zero]
  refine z_for ?_
  with_reducible refine w_rng1 ?_
  have h1 := h.fr (B := []) (DI.Fr.push (c := Cell.lst [])) (by simp)
  refine w_dig (base := 5) rfl h1 V_int (by omega) fun x S2 hx hx2 h2 f2 => ⟨x, rfl, rng_ok (by omega), ?_⟩
  have f02 : DI.Fr [st] S S2 := (fup DI.Fr.push).trans f2
  refine WS_for (n := x.toNat) (fun i σ S1 => ∃ ks s y8, σ = slN st lf m ab k (some (.loc a)) x6 (some (.loc S.length)) y8 ∧ St S1 st ∧ DI.Fr [st, lf] S S1 ∧ S1[lf]? = some (.lst [.int (l - (s : Nat))]) ∧ S1[S.length]? = some (.lst ks) ∧ GTs S1 k m ks s ∧ ks.length ≤ i ∧ (s : Int) ≤ l)
    ⟨[], 0, _, rfl, h2, f12 f02, by rw [f02.get hl (by simp; omega)]; simp, f2.get get_push (by simp; omega), .nil, Nat.le_refl _, by omega⟩ ?_ ?_ ?_
  · rintro σ' S' _
    exact go_end
  · rintro i σ S1 hi ⟨ks, s, y8, rfl, g1, g2, g3, g4, g5, g6, g7⟩
    refine ⟨_, _, go_rng hi, rfl, ?_⟩
    try simp only [List.set_cons_succ, List.set_cons_zero]
    unfold t_law_drawn_node_6
    have t1 : T P0 (calls P0 fs (C + 2)) (.cmp .Gt (.ix (.var 1) (.cst (.int 0))) (.cst (.int 0))) (slN st lf m ab k (some (.loc a)) x6 (some (.loc S.length)) (some (.int (i : Nat)))) S1 (decide (0 < l - s)) :=
      T_cmp (V_ix (z := .int (l - s)) (V_var rfl) V_int (by simp only [itemSem, g3]; rfl)) V_int rfl
    have t2 : T P0 (calls P0 fs (C + 2)) (.cmp .Gt (.var 2) (.cst (.int 0))) (slN st lf m ab k (some (.loc a)) x6 (some (.loc S.length)) (some (.int (i : Nat)))) S1 (decide ((0 : Int) < m)) := T_cmp (V_var rfl) V_int rfl
    refine z_iteT (T_and t1 fun _ => t2) (fun z => ?_) fun z => ?_
    · simp only [Bool.and_eq_true, decide_eq_true_eq] at z
      obtain ⟨m', rfl⟩ : ∃ m', m = m' + 1 := ⟨m - 1, by omega⟩
      unfold t_law_drawn_node_5
      refine z_exp (w_bm (V_use (V_var rfl) ⟨_, _, rfl, g4, w_cons (w_cal (w_cons (V_use (V_var rfl) (w_cons (V_use (V_var rfl) (w_cons (V_use (V_bin (z := .int (m' : Nat)) (V_var rfl) V_int (by simp only [opSem]; congr 3; omega)) (w_cons (V_use (V_var rfl) (w_nil ?_))))))))))⟩))
      refine rec m' rfl g1 g3 (by omega) fun y S3 s' q1 q2 q3 q4 q5 q6 => w_nil ⟨.non, _, bm_app (q6.get g4 (by simp; omega)) (by omega), z_nil ?_⟩
      have e3 := q6.get g4 (by simp; omega)
      have fw : DI.Fr [S.length] S3 (S3.set S.length (Cell.lst (ks ++ [y]))) := DI.Fr.setr DI.Fr.refl (.inl (by simp))
      have kd : ∀ (a : Nat) (kvs : List (Key × D)), S3[a]? = some (.dk kvs) → (S3.set S.length (Cell.lst (ks ++ [y])))[a]? = some (.dk kvs) := fun a kvs e => fw.get e (by simp; rintro rfl; rw [e3] at e; cases e)
      ((try dsimp only); refine z_nil ?_)
      refine ⟨ks ++ [y], s + s', _, rfl, q5.fr fw (by simp; omega), (g2.trans q6).setr (.inr (Nat.le_refl _)), ?_, get_set (lt_of e3), GTs.app (q1.mono kd) ((g5.mono (keep2 g1 g3 q6)).mono kd), by simp; omega, by omega⟩
      rw [fw.get q2 (by simp; omega)]
      congr 4
      omega
    · refine z_nil ?_
      try dsimp only
      refine z_nil ?_
      exact ⟨ks, s, _, rfl, g1, g2, g3, g4, g5, by omega, g7⟩
  · rintro σ S1 ⟨ks, s, y8, rfl, g1, g2, g3, g4, g5, g6, g7⟩
    unfold t_law_drawn_node_7
    refine z_ret (w_tup (w_cons (V_use (V_var rfl) (w_cons (V_use (V_var rfl) (w_cons (V_use (V_bi1 (V_var rfl) (bi_tup g4)) (w_nil ⟨sz (by show 3 ≤ 1000000; omega), ?_⟩))))))))
    refine hQ _ S1 (s + 1) (.kind hk (keep2 h hl g2 _ _ ha) hg hr (by omega) g5) ?_ (by omega) (by omega) g1 g2
    rw [g3]
    congr 4
    omega
theorem v_is2 {C : Nat → List D → Sto → Out D} {σ : Sl} {S : Sto} {a : Nat} {kvs : List (Key × D)} (h : σ[5]? = some (some (.loc a))) (ha : S[a]? = some (.dk kvs)) (hg : SD (plc kvs) kvs) :
    V P0 C (.or_ (.cmp .IsNot (.dget1 (.var 5) (.cst (.str ("float" : Str)))) (.cst .non)) (.cmp .Eq (.dget1 (.var 5) (.cst (.str ("place" : Str)))) (.cst (.str ("absolute" : Str))))) σ S (.bl (outL kvs)) := by
  refine V_cast (V_or (v_isnt (c_get h ha)) fun _ => v_eqS (word_sh hg (by decide +kernel) _) (c_get h ha)) ?_
  unfold outL
  rw [Bool.or_comm]
theorem kinds_of {x : D} (h : x ∈ ([("block" : Str), "block", "root", "piece", "inline", "inline", "image", "text", "text", "break"].map D.str)) : x = .str "text" ∨ x = .str "break" ∨ x = .str "image" ∨ ∃ k : Str, x = .str k ∧ memK k = true ∧ (k == ("text" : Str)) = false ∧ (k == ("break" : Str)) = false ∧ (k == ("image" : Str)) = false ∧ PyData.canLay0 (.str k) = true := by
  simp only [List.map_cons, List.map_nil, List.mem_cons, List.not_mem_nil, or_false] at h
  rcases h with rfl | rfl | rfl | rfl | rfl | rfl | rfl | rfl | rfl | rfl <;> first | exact .inl rfl | exact .inr (.inl rfl) | exact .inr (.inr (.inl rfl)) | exact .inr (.inr (.inr ⟨_, rfl, by decide +kernel⟩))
theorem v_pct_ok {v : D} (h : v = .str "left" ∨ v = .str "right") : styleV "float" v false = true ∧ (∀ S, VOk S v) ∧ (∀ xs, v = .tup xs → xs.length ≤ 1000000) ∧ isN v = false := by
  rcases h with rfl | rfl <;> exact ⟨by decide +kernel, fun _ => .str (by decide +kernel), fun _ e => (nomatch e), rfl⟩
theorem drawn_step {m d st lf : Nat} {S : Sto} {l : Int} {ab : Str} {Q : D → Sto → Prop} (h : St S st) (hl : S[lf]? = some (.lst [.int l])) (hne : st ≠ lf) (h0 : 1 ≤ l) (hab : PyData.canLay0 (.str ab) = true) (hQ : NodeQ S st lf l ab m Q)
    (rec : ∀ k m', PyData.canLay0 (.str k) = true → m = m' + 1 → ∀ {S : Sto} {l : Int} {Q : D → Sto → Prop}, St S st → S[lf]? = some (.lst [.int l]) → 1 ≤ l → NodeQ S st lf l k m' Q → W (calls P0 fs (d + 4) 30 [.loc st, .loc lf, .int (m' : Nat), .str k] S) Q) :
    W (calls P0 fs (d + 5) 30 [.loc st, .loc lf, .int (m : Nat), .str ab] S) Q := by
  refine W_call (f := d_law_drawn_node) rfl rfl ?_
  show WS (dSs P0 _ t_law_drawn_node [some (.loc st), some (.loc lf), some (.int (m : Nat)), some (.str ab), none, none, none, none, none] S) _
  unfold t_law_drawn_node
  have hlt := h.lt
  have hlf := lt_of hl
  refine z_sub (V_use (V_bin (z := .int (l - 1)) (V_ix (z := .int l) (V_var rfl) V_int (by simp only [itemSem, hl]; rfl)) V_int rfl) (V_use (V_var rfl) (w_int (set_loc hl (by rfl) ?_))))
  rw [show ([D.int l].set (Int.toNat 0) (D.int (l - 1))) = [D.int (l - 1)] from rfl]
  have g1 : St (S.set lf (.lst [.int (l - 1)])) st := h.fr (B := [lf]) (DI.Fr.setr DI.Fr.refl (.inl (by simp))) (by simp; omega)
  have e1 : (S.set lf (.lst [.int (l - 1)]))[lf]? = some (.lst [.int (l - 1)]) := get_set hlf
  have f1 : DI.Fr [st, lf] S (S.set lf (.lst [.int (l - 1)])) := DI.Fr.setr DI.Fr.refl (.inl (by simp))
  generalize S.set lf (.lst [.int (l - 1)]) = S1 at g1 e1 f1
  refine z_set (w_pick rfl (w_strs (xs := ["block", "block", "root", "piece", "inline", "inline", "image", "text", "text", "break"]) ⟨g1, by show 0 < 10; omega, by show 10 ≤ 1000; omega, fun x S2 hx g2 f2 => ?_⟩))
  try simp only [List.set_cons_succ, List.set_cons_zero]
  have e2 := f2.get e1 (by simp; omega)
  have f02 := f1.trans (f12 (lf := lf) f2)
  rcases kinds_of hx with rfl | rfl | rfl | ⟨k, rfl, hk, k1, k2, k3, k4⟩
  · refine z_iteT (p := true) (T_cast (t_eqS (sh_str (by decide +kernel)) (V_var rfl)) rfl) (fun _ => ?_) fun z => nomatch z
    unfold t_law_drawn_node_1
    refine z_ret (w_tup (w_cons (V_use (V_var rfl) (w_cons (w_cal (w_cons (V_use (V_var rfl) (w_nil (string g2 fun x S3 hx g3 f3 => w_nil ⟨sz (by show 2 ≤ 1000000; omega), ?_⟩)))))))))
    refine hQ _ S3 1 (.txt hx.lay hx.text) (f3.get e2 (by simp; omega)) (by omega) (by omega) g3 (f02.trans (f12 f3))
  · refine z_iteT (p := false) (T_cast (t_eqS (sh_str (by decide +kernel)) (V_var rfl)) rfl) (fun z => nomatch z) fun _ => ?_
    ((try dsimp only); refine z_nil ?_)
    unfold t_law_drawn_node_11
    refine z_iteT (p := true) (T_cast (t_eqS (sh_str (by decide +kernel)) (V_var rfl)) rfl) (fun _ => ?_) fun z => nomatch z
    unfold t_law_drawn_node_2
    refine z_ret (w_tup (w_cons (V_use (V_var rfl) (w_nil ⟨sz (by show 1 ≤ 1000000; omega), ?_⟩))))
    exact hQ _ S2 1 .brk e2 (by omega) (by omega) g2 f02
  · refine z_iteT (p := false) (T_cast (t_eqS (sh_str (by decide +kernel)) (V_var rfl)) rfl) (fun z => nomatch z) fun _ => ?_
    ((try dsimp only); refine z_nil ?_)
    unfold t_law_drawn_node_11
    refine z_iteT (p := false) (T_cast (t_eqS (sh_str (by decide +kernel)) (V_var rfl)) rfl) (fun z => nomatch z) fun _ => ?_
    ((try dsimp only); refine z_nil ?_)
    unfold t_law_drawn_node_10
    refine z_set (w_cal (w_cons (V_use (V_var rfl) (w_cons (w_int (w_nil (drawn_style g2 (by omega) fun a kvs S3 ds na g3 f3 => ?_)))))))
    try simp only [List.set_cons_succ, List.set_cons_zero]
    refine z_iteT (p := true) (T_cast (t_eqS (sh_str (by decide +kernel)) (V_var rfl)) rfl) (fun _ => ?_) fun z => nomatch z
    unfold t_law_drawn_node_3
    refine z_ret (w_tup (w_cons (V_use (V_var rfl) (w_cons (V_use (V_var rfl) (w_cons (w_pick rfl ?_)))))))
    refine w_cons (w_int (w_cons (w_int (w_cons (V_use V_pow6 (w_nil ⟨g3, by show 0 < 3; omega, by show 3 ≤ 1000; omega, fun y S4 hy g4 f4 => w_cons (w_dig (base := 60) rfl g4 V_int (by omega) fun z S5 hz hz2 g5 f5 => w_nil ⟨sz (by show 4 ≤ 1000000; omega), ?_⟩)⟩))))))
    obtain ⟨i, rfl, i1, i2⟩ : ∃ i : Int, y = .int i ∧ 0 ≤ i ∧ i ≤ 1000000 := by
      simp only [List.mem_cons, List.not_mem_nil, or_false] at hy
      rcases hy with rfl | rfl | rfl <;> exact ⟨_, rfl, by omega, by omega⟩
    have f25 := (f3.trans f4).trans f5
    refine hQ _ S5 1 (.img (keep1 g3 (f4.trans f5) _ _ ds.at_) ds.sd ?_) (f25.get e2 (by simp; omega)) (by omega) (by omega) g5 (f02.trans (f12 f25))
    rw [sz_of i1 i2, sz_of hz (by omega)]; rfl
  · refine z_iteT (p := false) (T_cast (t_eqS (sh_str k4) (V_var rfl)) (by exact k1)) (fun z => nomatch z) fun _ => ?_
    ((try dsimp only); refine z_nil ?_)
    unfold t_law_drawn_node_11
    refine z_iteT (p := false) (T_cast (t_eqS (sh_str k4) (V_var rfl)) (by exact k2)) (fun z => nomatch z) fun _ => ?_
    ((try dsimp only); refine z_nil ?_)
    unfold t_law_drawn_node_10
    refine z_set (w_cal (w_cons (V_use (V_var rfl) (w_cons (w_int (w_nil (drawn_style g2 (by omega) fun a kvs S3 ds na g3 f3 => ?_)))))))
    try simp only [List.set_cons_succ, List.set_cons_zero]
    refine z_iteT (p := false) (T_cast (t_eqS (sh_str k4) (V_var rfl)) (by exact k3)) (fun z => nomatch z) fun _ => ?_
    ((try dsimp only); refine z_nil ?_)
    unfold t_law_drawn_node_9
    have e3 := f3.get e2 (by simp; omega)
    have f03 := f02.trans (f12 (lf := lf) f3)
    refine z_set (V_use (v_is2 rfl ds.at_ ds.sd) ?_)
    try simp only [List.set_cons_succ, List.set_cons_zero]
    have fin : ∀ (S4 : Sto) (kvs : List (Key × D)), St S4 st → S4[lf]? = some (.lst [.int (l - 1)]) → S4[a]? = some (.dk kvs) → SD (plc kvs) kvs → DI.Fr [st, lf] S S4 → (ab = "inline" → blk k = true → outL kvs = true) → ∀ x6, WS (dSs P0 (calls P0 fs (d + 4)) t_law_drawn_node_8 (slN st lf m ab k (some (.loc a)) x6 none none) S4) { nx := fun _ S => Q .non S, rt := Q } := by
      intro S4 kvs g4 e4 d4 sd4 f4 hr x6
      refine node_kids (C := d + 2) g4 e4 hne (by omega) hk d4 sd4 hr (fun m' hm => rec k m' k4 hm) fun x S' s q1 q2 q3 q4 q5 q6 => ?_
      refine hQ x S' s q1 ?_ q3 (by omega) q5 (f4.trans q6)
      rw [q2]
      congr 4
      omega
    refine z_iteT (T_and (t_eqS (sh_str hab) (V_var rfl)) fun _ => T_and (t_in2 rfl) fun _ => T_not (T_bl rfl (V_var rfl))) (fun z => ?_) fun z => ?_
    · unfold t_law_drawn_node_4
      refine z_sub (w_pick rfl (w_strs (xs := ["left", "right"]) ⟨g3, by show 0 < 2; omega, by show 2 ≤ 1000; omega, fun v S4 hv g4 f4 => V_use (V_var rfl) (w_str ?_)⟩))
      have d4 := keep1 g3 f4 _ _ ds.at_
      have hv' : v = .str "left" ∨ v = .str "right" := by simpa using hv
      obtain ⟨v1, v2, v3, v4⟩ := v_pct_ok hv'
      have hla := lt_of d4
      have nas : a ≠ st := by rintro rfl; obtain ⟨q, q1, _⟩ := g4; rw [d4] at q1; cases q1
      have e4 := f4.get e3 (by simp; omega)
      have nal : a ≠ lf := by rintro rfl; rw [d4] at e4; cases e4
      refine ⟨_, set_dk d4 (by have := ds.len; omega), ?_⟩
      ((try dsimp only); refine z_nil ?_)
      refine fin _ (putD kvs (.inr "float") v) (g4.fr (B := [a]) (DI.Fr.setr DI.Fr.refl (.inl (by simp))) (by simpa using Ne.symm nas)) (by rw [get_setn nal]; exact e4) (get_set hla) ?_ ((f03.trans (f12 f4)).setr (.inr ?_)) ?_ _
      · rw [plc_put (by decide)]
        exact ds.sd.put (by decide +kernel) (styleV_up v1) v2 v3
      · have := f02.1
        omega
      · intro _ _
        unfold outL
        rw [lookK_put, lookK_put, if_pos rfl]
        show (_ || !isN v) = true
        rw [v4]; simp
    · ((try dsimp only); refine z_nil ?_)
      refine fin S3 kvs g3 e3 ds.at_ ds.sd f03 ?_ _
      rintro rfl hb
      have hb' : memS ["block", "root"] k = true := hb
      rw [hb'] at z
      cases ho : outL kvs with
      | true => rfl
      | false => rw [ho] at z; exact absurd z (by decide +kernel)
theorem drawn_node : ∀ (m : Nat) {d st lf : Nat} {S : Sto} {l : Int} {ab : Str} {Q : D → Sto → Prop}, St S st → S[lf]? = some (.lst [.int l]) → st ≠ lf → 1 ≤ l → PyData.canLay0 (.str ab) = true → NodeQ S st lf l ab m Q →
    W (calls P0 fs (d + m + 5) 30 [.loc st, .loc lf, .int (m : Nat), .str ab] S) Q
  | 0, d, st, lf, S, l, ab, Q, h, hl, hne, h0, hab, hQ => drawn_step (d := d + 0) h hl hne h0 hab hQ fun k m' _ e => nomatch e
  | m + 1, d, st, lf, S, l, ab, Q, h, hl, hne, h0, hab, hQ => drawn_step (d := d + (m + 1)) h hl hne h0 hab hQ fun k m' hk e => by
    obtain rfl : m = m' := by omega
    intro S l Q g1 g2 g3 g4
    have := drawn_node m (d := d) g1 g2 hne g3 hk g4
    rw [show d + m + 5 = d + (m + 1) + 4 by omega] at this
    exact this

end K85

set_option Elab.async false
set_option linter.all false
set_option maxRecDepth 100000
set_option maxHeartbeats 4000000
namespace K85
open L2 DI PySem PySem.Spec PyProof.Rows
theorem w_pop {C : Nat → List D → Sto → Out D} {σ : Sl} {S : Sto} {i a : Nat} {kvs : List (Key × D)} {w : Str} {Q : D → Sto → Prop} (hi : σ[i]? = some (some (.loc a))) (h : S[a]? = some (.dk kvs))
    (k : ∀ S', S'[a]? = some (.dk (dropD kvs (.inr w))) → DI.Fr [a] S S' → Q ((lookK kvs (.inr w)).getD .non) S') : W (de P0 C (.dpop2 (.var i) (.cst (.str w)) (.cst .non)) false σ S) Q := by
  have e1 : de P0 C (.var i) false σ S = .ok (.loc a) S := by
    simp only [de, fin_f, hi]
  have e2 : ∀ b, de P0 C (.cst (.str w)) b σ S = fin b (.ok (.str w) S) := fun b => by simp only [de]; rfl
  have e3 : ∀ b, de P0 C (.cst .non) b σ S = fin b (.ok .non S) := fun b => by simp only [de]; rfl
  simp only [de, fin_f] at e1 e2 e3 ⊢
  rw [hi]
  simp only [Out.bind, h, isDk, if_true, keyD, Lit.d]
  rcases e : lookK kvs (.inr w) with _ | v
  · rw [e] at k
    refine k S ?_ DI.Fr.refl
    rw [h]
    congr 2
    unfold dropD
    rw [List.filter_eq_self.mpr]
    intro kv hk
    unfold lookK at e
    rw [Option.map_eq_none_iff, List.find?_eq_none] at e
    simpa using e kv hk
  · rw [e] at k
    exact k _ (get_set (lt_of h)) (DI.Fr.setr DI.Fr.refl (.inl (by simp)))
theorem look_dropS {kvs : List (Key × D)} {w : Str} : lookK (dropD kvs (.inr w)) (.inr w) = none := by rw [lookK_drop, if_pos rfl]
theorem drop_top {kvs : List (Key × D)} (h : SD (plc kvs) kvs) : plc kvs = false → SD (plc (dropD (dropD kvs (.inr "float")) (.inr "place"))) (dropD (dropD kvs (.inr "float")) (.inr "place")) ∧ topL (dropD (dropD kvs (.inr "float")) (.inr "place")) = true := by
  intro hp
  rw [hp] at h
  refine ⟨((h.drop _).drop _).up, ?_⟩
  unfold topL
  rw [look_dropS, lookK_drop, if_neg (by decide), look_dropS]
  rfl
theorem drop_top2 {kvs : List (Key × D)} (h : SD (plc kvs) kvs) (hp : plc kvs = true) : SD (plc (dropD (dropD (dropD kvs (.inr "float")) (.inr "place")) (.inr "height"))) (dropD (dropD (dropD kvs (.inr "float")) (.inr "place")) (.inr "height")) ∧ topL (dropD (dropD (dropD kvs (.inr "float")) (.inr "place")) (.inr "height")) = true := by
  rw [hp] at h
  refine ⟨(SD.down (((h.drop _).drop _).drop _) look_dropS).up, ?_⟩
  unfold topL
  rw [lookK_drop, if_neg (by decide), lookK_drop, if_neg (by decide), look_dropS, lookK_drop, if_neg (by decide), look_dropS]
  rfl
abbrev slT (st a lf ka : Nat) (many : Int) (x5 x6 : Option D) : Sl := [some (.loc st), some (.int many), some (.loc a), some (.loc lf), some (.loc ka), x5, x6]
theorem tree_kids {d st a lf ka : Nat} {S : Sto} {many : Int} {kvs : List (Key × D)} {x5 x6 : Option D} {Q : D → Sto → Prop} (h : St S st) (hl : S[lf]? = some (.lst [.int (many - 1)])) (hk : S[ka]? = some (.lst [])) (ha : S[a]? = some (.dk kvs)) (hn : st < lf ∧ lf < ka ∧ a ≠ st) (hm : 1 ≤ many)
    (hg : SD (plc kvs) kvs) (ht : topL kvs = true) (hQ : ∀ x S' (s : Nat), GTop S' x s → (s : Int) ≤ many → St S' st → DI.Fr [st, lf, ka] S S' → Q x S') :
    WS (dSs P0 (calls P0 fs (d + 14)) t_law_drawn_tree_5 (slT st a lf ka many x5 x6) S) { nx := fun _ S => Q .non S, rt := Q } := by
  unfold t_law_drawn_tree_5
  have hlt := h.lt
  have hlf := lt_of hl
  have hkl := lt_of hk
  refine z_set (w_pick rfl (w_strs (xs := ["block", "root"]) ⟨h, by show 0 < 2; omega, by show 2 ≤ 1000; omega, fun k S1 hk1 h1 f1 => ?_⟩))
  try simp only [List.set_cons_succ, List.set_cons_zero]
  obtain ⟨k, rfl, hb, hly⟩ : ∃ k' : Str, k = .str k' ∧ blk k' = true ∧ PyData.canLay0 (.str k') = true := by
    simp only [List.map_cons, List.map_nil, List.mem_cons, List.not_mem_nil, or_false] at hk1
    rcases hk1 with rfl | rfl <;> exact ⟨_, rfl, by decide +kernel, by decide +kernel⟩
  refine z_for ?_
  with_reducible refine w_rng1 ?_
  refine w_bin (w_int (w_dig (base := 6) rfl h1 V_int (by omega) fun x S2 hx hx2 h2 f2 => w_add ⟨_, rfl, rng_ok (by omega), ?_⟩))
  have f02 := f1.trans f2
  have sub1 : ∀ {S S' : Sto}, DI.Fr [st] S S' → DI.Fr [st, lf, ka] S S' := fun f => f.sub fun k hk _ => by simp at hk ⊢; exact .inl hk
  have sub2 : ∀ {S S' : Sto}, DI.Fr [st, lf] S S' → DI.Fr [st, lf, ka] S S' := fun f => f.sub fun k hk _ => by simp at hk ⊢; rcases hk with hk | hk <;> simp [hk]
  refine WS_for (n := (1 + x).toNat) (fun i σ S1 => ∃ ks s y6, σ = slT st a lf ka many (some (.str k)) y6 ∧ St S1 st ∧ DI.Fr [st, lf, ka] S S1 ∧ S1[lf]? = some (.lst [.int (many - 1 - (s : Nat))]) ∧ S1[ka]? = some (.lst ks) ∧ S1[a]? = some (.dk kvs) ∧ GTs S1 k 10 ks s ∧ ks.length ≤ i ∧ (s : Int) ≤ many - 1)
    ⟨[], 0, _, rfl, h2, sub1 f02, by rw [f02.get hl (by simp; omega)]; simp, f02.get hk (by simp; omega), f02.get ha (by simpa using hn.2.2), .nil, Nat.le_refl _, by omega⟩ ?_ ?_ ?_
  · rintro σ' S' _
    exact go_end
  · rintro i σ S1 hi ⟨ks, s, y6, rfl, g1, g2, g3, g4, g9, g5, g6, g7⟩
    refine ⟨_, _, go_rng hi, rfl, ?_⟩
    try simp only [List.set_cons_succ, List.set_cons_zero]
    unfold t_law_drawn_tree_3
    have t1 : T P0 (calls P0 fs (d + 14)) (.cmp .Gt (.ix (.var 3) (.cst (.int 0))) (.cst (.int 0))) (slT st a lf ka many (some (.str k)) (some (.int (i : Nat)))) S1 (decide (0 < many - 1 - s)) :=
      T_cmp (V_ix (z := .int (many - 1 - s)) (V_var rfl) V_int (by simp only [itemSem, g3]; rfl)) V_int rfl
    refine z_iteT t1 (fun z => ?_) fun z => ?_
    · have z := of_decide_eq_true z
      unfold t_law_drawn_tree_2
      refine z_exp (w_bm (V_use (V_var rfl) ⟨_, _, rfl, g4, w_cons (w_cal (w_cons (V_use (V_var rfl) (w_cons (V_use (V_var rfl) (w_cons (w_pick rfl ?_)))))))⟩))
      refine w_cons (w_int (w_cons (w_int (w_cons (w_int (w_nil ⟨g1, by show 0 < 3; omega, by show 3 ≤ 1000; omega, fun y S2 hy h2 f2 => w_cons (V_use (V_var rfl) (w_nil ?_))⟩))))))
      have hy' : ∃ m : Nat, y = .int (m : Nat) ∧ m ≤ 9 := by
        simp only [List.mem_cons, List.not_mem_nil, or_false] at hy
        rcases hy with rfl | rfl | rfl
        · exact ⟨2, rfl, by omega⟩
        · exact ⟨4, rfl, by omega⟩
        · exact ⟨9, rfl, by omega⟩
      obtain ⟨m, rfl, hm9⟩ := hy'
      have e3 := f2.get g3 (by simp; omega)
      have e4 := f2.get g4 (by simp; omega)
      have e9 := f2.get g9 (by simpa using hn.2.2)
      have dn : ∀ {Q : D → Sto → Prop}, NodeQ S2 st lf (many - 1 - s) k m Q → W (calls P0 fs (d + 14) 30 [.loc st, .loc lf, .int (m : Nat), .str k] S2) Q := fun hq => by
        have := drawn_node m (d := d + 9 - m) (lf := lf) h2 e3 (by omega) (by omega) hly hq
        rwa [show d + 9 - m + m + 5 = d + 14 by omega] at this
      refine dn fun y S3 s' q1 q2 q3 q4 q5 q6 => ?_
      · have e5 := q6.get e4 (by simp; omega)
        refine w_nil ⟨.non, _, bm_app e5 (by omega), ?_⟩
        have fw : DI.Fr [ka] S3 (S3.set ka (Cell.lst (ks ++ [y]))) := DI.Fr.setr DI.Fr.refl (.inl (by simp))
        have kd : ∀ (a : Nat) (kvs : List (Key × D)), S3[a]? = some (.dk kvs) → (S3.set ka (Cell.lst (ks ++ [y])))[a]? = some (.dk kvs) := fun a kvs e => fw.get e (by simp; rintro rfl; rw [e5] at e; cases e)
        ((try dsimp only); refine z_nil ?_)
        ((try dsimp only); refine z_nil ?_)
        refine ⟨ks ++ [y], s + s', _, rfl, q5.fr fw (by simp; omega), ((g2.trans (sub1 f2)).trans (sub2 q6)).setr (.inl (by simp)), ?_, get_set (lt_of e5), kd _ _ (keep2 h2 e3 q6 _ _ e9), GTs.app ((q1.lift hm9).mono kd) (((g5.mono (keep1 g1 f2)).mono (keep2 h2 e3 q6)).mono kd), by simp; omega, by omega⟩
        rw [fw.get q2 (by simp; omega)]
        congr 4
        omega
    · ((try dsimp only); refine z_nil ?_)
      ((try dsimp only); refine z_nil ?_)
      exact ⟨ks, s, _, rfl, g1, g2, g3, g4, g9, g5, by omega, g7⟩
  · rintro σ S1 ⟨ks, s, y6, rfl, g1, g2, g3, g4, g9, g5, g6, g7⟩
    unfold t_law_drawn_tree_4
    refine z_ret (w_tup (w_cons (V_use (V_var rfl) (w_cons (V_use (V_var rfl) (w_cons (V_use (V_bi1 (V_var rfl) (bi_tup g4)) (w_nil ⟨sz (by show 3 ≤ 1000000; omega), ?_⟩))))))))
    exact hQ _ S1 (s + 1) ⟨⟨k, a, kvs, ks, s, rfl, rfl, hb, g9, hg, ht, by omega, g5⟩⟩ (by omega) g1 g2
theorem drawn_tree {d st : Nat} {S : Sto} {many : Int} {Q : D → Sto → Prop} (h : St S st) (hm : 1 ≤ many) (hQ : ∀ x S' (s : Nat), GTop S' x s → (s : Int) ≤ many → St S' st → DI.Fr [st] S S' → Q x S') :
    W (calls P0 fs (d + 15) 31 [.loc st, .int many] S) Q := by
  refine W_call (f := d_law_drawn_tree) rfl rfl ?_
  show WS (dSs P0 _ t_law_drawn_tree [some (.loc st), some (.int many), none, none, none, none, none] S) _
  unfold t_law_drawn_tree
  have hlt := h.lt
  refine z_par3 (w_cal (w_cons (V_use (V_var rfl) (w_cons (w_int (w_nil (drawn_style (d := d + 10) h (by omega) fun a kvs S1 ds na g1 f1 => ?_)))))))
  refine w_lst (w_cons (V_use (V_bin (z := .int (many - 1)) (V_var rfl) V_int rfl) (w_nil ⟨sz (by show 1 ≤ 1000000; omega), w_lst (w_nil ⟨sz (by show 0 ≤ 1000000; omega), ?_⟩)⟩)))
  try simp only [List.set_cons_succ, List.set_cons_zero]
  have hal := lt_of ds.at_
  have hg1 := f1.1
  generalize hS2 : (S1 ++ [Cell.lst [D.int (many - 1)]]) ++ [Cell.lst []] = S2
  have f2 : DI.Fr [] S1 S2 := by rw [← hS2]; exact DI.Fr.push.trans DI.Fr.push
  have el : S2[S1.length]? = some (.lst [.int (many - 1)]) := by rw [← hS2]; exact get_pushl get_push
  have ek : S2[(S1 ++ [Cell.lst [D.int (many - 1)]]).length]? = some (.lst []) := by rw [← hS2]; exact get_push
  have nk : S1.length < (S1 ++ [Cell.lst [D.int (many - 1)]]).length := by simp
  generalize (S1 ++ [Cell.lst [D.int (many - 1)]]).length = ka at ek nk ⊢
  generalize hlf : S1.length = lf at el nk ⊢
  have d2 := f2.all _ _ ds.at_
  have g2 := g1.fr f2 (by simp)
  have f02 : DI.Fr [st] S S2 := f1.trans (fup f2)
  have fin : ∀ (S4 : Sto) (kvs : List (Key × D)), St S4 st → S4[lf]? = some (.lst [.int (many - 1)]) → S4[ka]? = some (.lst []) → S4[a]? = some (.dk kvs) → SD (plc kvs) kvs → topL kvs = true → DI.Fr [st] S S4 → WS (dSs P0 (calls P0 fs (d + 14)) t_law_drawn_tree_5 (slT st a lf ka many none none) S4) { nx := fun _ S => Q .non S, rt := Q } := by
    intro S4 kvs g4 l4 k4 d4 sd4 t4 f4
    refine tree_kids g4 l4 k4 d4 ⟨by omega, nk, by omega⟩ hm sd4 t4 fun x S' s q1 q2 q3 q4 => hQ x S' s q1 q2 q3 (fjoin f4 q4 fun k hk hkl => ?_)
    simp only [List.mem_cons, List.not_mem_nil, or_false] at hk ⊢
    rcases hk with rfl | rfl | rfl
    · rfl
    · omega
    · omega
  have hast : a ≠ st := by omega
  have half : a ≠ lf := by omega
  have haka : a ≠ ka := by omega
  refine z_exp (w_pop rfl d2 fun S3 d3 f3 => ?_)
  have g3 := g2.fr f3 (by simpa using Ne.symm hast)
  refine z_ite (w_cmp (w_pop rfl d3 fun S4 d4 f4 => w_str ?_))
  have g4 := g3.fr f4 (by simpa using Ne.symm hast)
  have f24 : DI.Fr [a] S2 S4 := f3.trans f4
  have f04 : DI.Fr [st] S S4 := fjoin f02 f24 fun k hk hkl => by simp at hk; omega
  have epl : (lookK (dropD kvs (.inr "float")) (.inr "place")).getD .non = (lookK kvs (.inr "place")).getD .non := by rw [lookK_drop, if_neg (by decide)]
  refine ⟨plc kvs, ?_, _, rfl, fun hp => ?_, fun hp => ?_⟩
  · rw [epl, cmp_str]
    exact eq_str (by decide +kernel) (word_sh ds.sd (by decide +kernel) _)
  · unfold t_law_drawn_tree_1
    refine z_exp (w_pop rfl d4 fun S5 d5 f5 => ?_)
    ((try dsimp only); refine z_nil ?_)
    obtain ⟨t1, t2⟩ := drop_top2 ds.sd hp
    have f25 := f24.trans f5
    exact fin S5 _ (g4.fr f5 (by simpa using Ne.symm hast)) (f25.get el (by simpa using Ne.symm half)) (f25.get ek (by simpa using Ne.symm haka)) d5 t1 t2 (fjoin f04 f5 fun k hk hkl => by simp at hk; omega)
  · ((try dsimp only); refine z_nil ?_)
    obtain ⟨t1, t2⟩ := drop_top ds.sd hp
    exact fin S4 _ g4 (f24.get el (by simpa using Ne.symm half)) (f24.get ek (by simpa using Ne.symm haka)) d4 t1 t2 f04

end K85

set_option Elab.async false
set_option linter.all false
set_option maxRecDepth 100000
set_option maxHeartbeats 4000000
namespace K85
open L2 DI PySem PySem.Spec PyProof.Rows
/-! ### the program's rows -/
def gTx (kvs : List (Key × D)) (w : Str) : Option Str := (lookK kvs (.inr w)).map fun v => wordTx w v
theorem item_dk {S : Sto} {a : Nat} {kvs : List (Key × D)} {w : Str} {v : D} (h : S[a]? = some (.dk kvs)) (hv : lookK kvs (.inr w) = some v) : itemSem (.loc a) (.str w) S = some v := by
  simp only [itemSem, h, dictAt, hv]; rfl
theorem take_fm {kvs : List (Key × D)} {i : Nat} (hi : i < NL.length) : (NL.take (i + 1)).filterMap (gTx kvs) = (NL.take i).filterMap (gTx kvs) ++ (gTx kvs NL[i]).toList := by
  rw [List.take_succ, List.getElem?_eq_getElem hi, List.filterMap_append]
  cases e : gTx kvs NL[i] <;> simp [e]
theorem row_words {d a : Nat} {S : Sto} {x0 x1 x3 : Option D} {pl : Bool} {kvs : List (Key × D)} {Q : D → Sto → Prop} (ha : S[a]? = some (.dk kvs)) (g : SD pl kvs)
    (hQ : ∀ b S', DI.Fr [] S S' → S'[b]? = some (.lst ((styTx kvs).map D.str)) → Q (.loc b) S') :
    W (de P0 (calls P0 fs (d + 2)) (.lc [(("word" : Str), 3)] (.nm 3) (.ex (.glo ("FIRST" : Str))) (.cons (.cmp .In (.var 3) (.var 2)) .nil) (.bin .Add (.bin .Add (.var 3) (.cst (.str ("=" : Str)))) (.cal 17 (.cons (.ix (.var 2) (.var 3)) .nil)))) false [x0, x1, some (.loc a), x3] S) Q := by
  refine lc_ifG (w_iex (w_glo glo_F ⟨.vs (NL.map D.str), by rw [← fd_nl]; rfl, ?_⟩))
  refine ⟨NL.length, fun i acc S' => DI.Fr [] S S' ∧ acc = ((NL.take i).filterMap (gTx kvs)).map D.str, by simp [wlen], by decide, ⟨DI.Fr.push, rfl⟩, ?_, ?_⟩
  · rintro i acc S' hi hla ⟨f1, rfl⟩ e1
    have ha' := f1.all _ _ ha
    have hn : NL[i] ∈ NL := List.getElem_mem hi
    refine ⟨.str NL[i], _, by simp only [wgo, List.getElem?_map, List.getElem?_eq_getElem hi]; rfl, rfl, ?_⟩
    refine T_use (T_cmp (V_var rfl) (V_var rfl) (in_tb ha')) ⟨_, rfl, e1, fun ht => ?_, fun ht => ?_⟩
    · obtain ⟨v, hv⟩ := Option.isSome_iff_exists.mp ht
      have hl := of_decide_eq_true (List.all_eq_true.mp nl_len _ hn)
      have hfv := sd_fv g hv
      have e : (("=" : Str)).length = 1 := by decide +kernel
      refine w_bin (V_use (V_addS (V_var rfl) V_str (by omega)) (w_cal (w_cons (V_use (V_ix (V_var rfl) (V_var rfl) (item_dk ha' hv)) (w_nil (W_mono (c_vtext hfv) ?_))))))
      rintro r S2 ⟨f2, rfl⟩
      have hl2 := txV_len hfv
      refine w_addS (by rw [strLen_append]; omega) ⟨f2.all _ _ e1, (f1.trans f2).setr (.inr (Nat.le_refl _)), ?_⟩
      have eg : gTx kvs NL[i] = some (wordTx NL[i] v) := by unfold gTx; rw [hv]; rfl
      rw [take_fm hi, eg, List.map_append]
      rfl
    · have eg : gTx kvs NL[i] = none := by
        unfold gTx
        cases hv : lookK kvs (.inr NL[i]) with
        | none => rfl
        | some v => rw [hv] at ht; cases ht
      refine ⟨f1, ?_⟩
      rw [take_fm hi, eg]
      simp
  · rintro acc S' ⟨f1, rfl⟩ e1
    rw [List.take_length] at e1
    exact ⟨by simp [wgo], hQ _ S' f1 e1⟩
theorem w_addLs {S : Sto} {a b : Nat} {xs ys : List Str} {Q : D → Sto → Prop} (h1 : S[a]? = some (.lst (xs.map D.str))) (h2 : S[b]? = some (.lst (ys.map D.str))) (hl : xs.length + ys.length ≤ 1000000) (k : ∀ S', DI.Fr [] S S' → S'[S.length]? = some (.lst ((xs ++ ys).map D.str)) → Q (.loc S.length) S') : W (.of (opSem .Add (.loc a) (.loc b) S)) Q := by
  refine w_addL h1 h2 (sz (by rw [List.length_map, List.length_map]; exact hl)) (k _ DI.Fr.push ?_)
  rw [get_push, List.map_append]
theorem row_end {d : Nat} {S : Sto} {x : D} {k : Str} {r : List D} {b : Nat} {ws : List Str} {pl : Bool} (hn : NOk S (.tup (.str k :: r))) (hr : restB S k r = true) (hb : S[b]? = some (.lst (ws.map D.str))) (g : SD pl (sf S k r)) (hw : ws.length ≤ 3) (hwl : ∀ w ∈ ws, w.length ≤ 70) {x2 x3 : Option D} :
    WS (dSs P0 (calls P0 fs (d + 2)) t_node_row_3 [some (.tup (.str k :: r)), some (.loc b), x2, x3] S) { nx := fun _ _ => False, rt := AnsS S (Txt.join " " (ws ++ styTx (sf S k r))) } := by
  unfold t_node_row_3
  refine z_set (w_cal (w_cons (V_use (V_var rfl) (w_nil (W_mono (c_styleOf (n := d + 1) hn hr) ?_)))))
  rintro q S1 ⟨f1, a, rfl, ha⟩
  try simp only [List.set_cons_succ, List.set_cons_zero]
  refine z_ret (w_join (w_str ⟨_, rfl, w_bin (V_use (V_var rfl) ?_)⟩))
  refine row_words ha g fun c S2 f2 e2 => ?_
  have hb2 := (f1.trans f2).all _ _ hb
  obtain ⟨g1, g2⟩ := sty_len g
  refine w_addLs hb2 e2 (by omega) fun S3 f3 e3 => ⟨_, join_strs e3, ?_, (f1.trans f2).trans f3, rfl⟩
  refine Nat.le_trans (words_len (by rw [List.length_append]; omega) fun x hx => ?_).2 (by omega)
  rcases List.mem_append.mp hx with hx | hx
  · exact hwl x hx
  · exact g2 x hx
theorem c_row {d n s : Nat} {ab : Str} {S : Sto} {x : D} (g : GT S ab n x s) : W (calls P0 fs (d + 3) 18 [x] S) (AnsS S (rowS S x)) := by
  refine W_call (f := d_node_row) rfl rfl ?_
  cases g with
  | brk =>
    show WS (dSs P0 (calls P0 fs (d + 2)) t_node_row [some (.tup [.str "break"]), none, none, none] S) _
    unfold t_node_row
    refine z_iteT (p := false) (T_cast (t_eqS (sh_str (by decide +kernel)) (V_ix (z := .str "break") (V_var rfl) V_int item0)) rfl) (fun z => nomatch z) fun _ => ?_
    ((try dsimp only); refine z_nil ?_)
    unfold t_node_row_4
    refine z_set (w_lst (w_cons (V_use (V_ix (z := .str "break") (V_var rfl) V_int item0) (w_nil ⟨sz (by show 1 ≤ 1000000; omega), ?_⟩))))
    try simp only [List.set_cons_succ, List.set_cons_zero]
    refine z_iteT (p := false) (T_cast (t_eqS (sh_str (by decide +kernel)) (V_ix (z := .str "break") (V_var rfl) V_int item0)) rfl) (fun z => nomatch z) fun _ => ?_
    ((try dsimp only); refine z_nil ?_)
    have b := brk_ok (S := S ++ [Cell.lst [D.str "break"]])
    have esf : sf (S ++ [Cell.lst [D.str "break"]]) "break" [] = [] := by
      unfold sf
      rw [if_neg (by decide +kernel)]
    refine WS_mono (row_end (d := d) (x := .non) (ws := [("break" : Str)]) (pl := false) b.1 b.2.1 get_push (by rw [esf]; exact SD.nil) (by simp) (by simp; decide +kernel)) (fun _ _ h => h.elim) ?_ (fun _ _ h => h.elim) (fun _ _ h => h.elim) (fun _ _ _ h => h.elim)
    rintro r S' ⟨f, rfl⟩
    refine ⟨DI.Fr.push.trans f, ?_⟩
    rw [esf]
    show D.str (Txt.join " " ([("break" : Str)] ++ [])) = D.str "break"
    rw [List.append_nil, join_one]
  | @txt _ _ x a b =>
    show WS (dSs P0 (calls P0 fs (d + 2)) t_node_row [some (.tup [.str "text", .str x]), none, none, none] S) _
    unfold t_node_row
    refine z_iteT (p := true) (T_cast (t_eqS (sh_str (by decide +kernel)) (V_ix (z := .str "text") (V_var rfl) V_int item0)) rfl) (fun _ => ?_) fun z => nomatch z
    unfold t_node_row_1
    have hb : (decide (x.length ≤ 400) && x.cps.toList.all (fun c => decide (32 ≤ c) && decide (c ≤ 126))) = true := b
    rw [Bool.and_eq_true] at hb
    have := of_decide_eq_true hb.1
    have e : (("text:" : Str)).length = 5 := by decide +kernel
    exact z_ret (V_use (V_addS V_str (V_ix (z := .str x) (V_var rfl) V_int rfl) (by omega)) ⟨DI.Fr.refl, rfl⟩)
  | @img _ _ a kvs w h e1 e2 e3 =>
    show WS (dSs P0 (calls P0 fs (d + 2)) t_node_row [some (.tup [.str "image", .loc a, .int w, .int h]), none, none, none] S) _
    unfold t_node_row
    refine z_iteT (p := false) (T_cast (t_eqS (sh_str (by decide +kernel)) (V_ix (z := .str "image") (V_var rfl) V_int item0)) rfl) (fun z => nomatch z) fun _ => ?_
    ((try dsimp only); refine z_nil ?_)
    unfold t_node_row_4
    refine z_set (w_lst (w_cons (V_use (V_ix (z := .str "image") (V_var rfl) V_int item0) (w_nil ⟨sz (by show 1 ≤ 1000000; omega), ?_⟩))))
    try simp only [List.set_cons_succ, List.set_cons_zero]
    refine z_iteT (p := true) (T_cast (t_eqS (sh_str (by decide +kernel)) (V_ix (z := .str "image") (V_var rfl) V_int item0)) rfl) (fun _ => ?_) fun z => nomatch z
    unfold t_node_row_2
    have e3' := e3
    rw [Bool.and_eq_true] at e3'
    have h1 := wh_abs (Bool.and_eq_true_iff.mp e3'.1).1
    have h2 := wh_abs (Bool.and_eq_true_iff.mp e3'.2).1
    refine z_set (w_bin (V_use (V_var rfl) (w_lst (w_cons (V_use (w_strI (V_ix (z := .int w) (V_var rfl) V_int rfl) h1) (w_cons (V_use (w_strI (V_ix (z := .int h) (V_var rfl) V_int rfl) h2) (w_nil ⟨sz (by show 2 ≤ 1000000; omega), ?_⟩))))))))
    refine w_addLs (xs := [("image" : Str)]) (ys := [intS w, intS h]) (get_pushl get_push) get_push (by show 1 + 2 ≤ 1000000; omega) fun S3 f3 e4 => ?_
    try simp only [List.set_cons_succ, List.set_cons_zero]
    ((try dsimp only); refine z_nil ?_)
    have f03 : DI.Fr [] S S3 := (DI.Fr.push.trans DI.Fr.push).trans f3
    have e1' := f03.all _ _ e1
    have gi := img_gs (e2.gs e1') e3
    have esf : sf S3 "image" [.loc a, .int w, .int h] = kvs := sf_eq (by decide +kernel) e1'
    refine WS_mono (row_end (d := d) (x := .non) (ws := [("image" : Str)] ++ [intS w, intS h]) (pl := plc kvs) gi.1 gi.2.1 e4 (by rw [esf]; exact e2) (by simp) (fun x hx => ?_)) (fun _ _ h => h.elim) ?_ (fun _ _ h => h.elim) (fun _ _ h => h.elim) (fun _ _ _ h => h.elim)
    · simp only [List.cons_append, List.nil_append, List.mem_cons, List.not_mem_nil, or_false] at hx
      rcases hx with rfl | rfl | rfl
      · decide +kernel
      · have := int_len h1; omega
      · have := int_len h2; omega
    · rintro r S' ⟨f, rfl⟩
      refine ⟨f03.trans f, ?_⟩
      rw [esf]
      show _ = D.str (Txt.join " " ([("image" : Str), intS w, intS h] ++ styTx (kvsAt S a)))
      rw [kvs_at e1]
      rfl
  | @kind _ k _ a m kvs ks e1 e2 e3 e4 e5 e6 =>
    have hly := memK_lay e1
    have hk : (k == ("text" : Str)) = false ∧ (k == ("image" : Str)) = false := by
      have e1 := e1
      unfold memK memS at e1
      simp only [List.any_cons, List.any_nil, Bool.or_false, Bool.or_eq_true, beq_iff_eq] at e1
      rcases e1 with rfl | rfl | rfl | rfl <;> decide +kernel
    show WS (dSs P0 (calls P0 fs (d + 2)) t_node_row [some (.tup [.str k, .loc a, .tup ks]), none, none, none] S) _
    unfold t_node_row
    refine z_iteT (p := false) (T_cast (t_eqS (sh_str hly) (V_ix (z := .str k) (V_var rfl) V_int item0)) hk.1) (fun z => nomatch z) fun _ => ?_
    ((try dsimp only); refine z_nil ?_)
    unfold t_node_row_4
    refine z_set (w_lst (w_cons (V_use (V_ix (z := .str k) (V_var rfl) V_int item0) (w_nil ⟨sz (by show 1 ≤ 1000000; omega), ?_⟩))))
    try simp only [List.set_cons_succ, List.set_cons_zero]
    refine z_iteT (p := false) (T_cast (t_eqS (sh_str hly) (V_ix (z := .str k) (V_var rfl) V_int item0)) hk.2) (fun z => nomatch z) fun _ => ?_
    ((try dsimp only); refine z_nil ?_)
    have f1 : DI.Fr [] S (S ++ [Cell.lst [D.str k]]) := DI.Fr.push
    have e2' := f1.all _ _ e2
    have gi := kind_gs (ks := ks) e1 (e3.gs e2')
    have esf : sf (S ++ [Cell.lst [D.str k]]) k [.loc a, .tup ks] = kvs := sf_eq (by unfold hasSt; rw [e1]; rfl) e2'
    refine WS_mono (row_end (d := d) (x := .non) (ws := [k]) (pl := plc kvs) gi.1 gi.2.1 get_push (by rw [esf]; exact e3) (by simp) (fun x hx => by rw [List.mem_singleton.mp hx]; have := memK_len e1; omega)) (fun _ _ h => h.elim) ?_ (fun _ _ h => h.elim) (fun _ _ h => h.elim) (fun _ _ _ h => h.elim)
    rintro r S' ⟨f, rfl⟩
    refine ⟨f1.trans f, ?_⟩
    rw [esf]
    show _ = D.str (Txt.join " " ([k] ++ styTx (kvsAt S a)))
    rw [kvs_at e2]

end K85

set_option Elab.async false
set_option linter.all false
set_option maxRecDepth 100000
set_option maxHeartbeats 4000000
namespace K85
open L2 DI PySem PySem.Spec PyProof.Rows
theorem row_fr {S S' : Sto} {ab : Str} {n : Nat} {x : D} {s : Nat} (hs : ∀ (a : Nat) (kvs : List (Key × D)), S[a]? = some (.dk kvs) → S'[a]? = some (.dk kvs)) (g : GT S ab n x s) : rowS S' x = rowS S x := by
  cases g with
  | brk => rfl
  | txt a b => rfl
  | @img _ _ a kvs w h e1 e2 e3 =>
    show Txt.join " " ([("image" : Str), intS w, intS h] ++ styTx (kvsAt S' a)) = Txt.join " " ([("image" : Str), intS w, intS h] ++ styTx (kvsAt S a))
    rw [kvs_at e1, kvs_at (hs _ _ e1)]
  | @kind _ k _ a m kvs ks e1 e2 e3 e4 e5 e6 =>
    show Txt.join " " ([k] ++ styTx (kvsAt S' a)) = Txt.join " " ([k] ++ styTx (kvsAt S a))
    rw [kvs_at e2, kvs_at (hs _ _ e2)]
mutual
theorem GT.rows_fr {S S' : Sto} (hs : ∀ (a : Nat) (kvs : List (Key × D)), S[a]? = some (.dk kvs) → S'[a]? = some (.dk kvs)) : ∀ {ab : Str} {n : Nat} {x : D} {s : Nat}, GT S ab n x s → ∀ {lv : Nat}, rowsS S' (n + 1) lv x = rowsS S (n + 1) lv x
  | _, n, _, _, .brk, lv => rfl
  | _, n, _, _, .txt a b, lv => rfl
  | ab, n, _, _, .img a b c, lv => by
    have g : GT S ab n _ _ := .img a b c
    show (repS "  " lv ++ rowS S' _) :: _ = (repS "  " lv ++ rowS S _) :: _
    rw [row_fr hs g]
    rfl
  | ab, n, _, _, .kind a b c d e f, lv => by
    have g : GT S ab n _ _ := .kind a b c d e f
    have h := GTs.rows_fr hs f (lv := lv + 1)
    show (repS "  " lv ++ rowS S' _) :: (_ : List (List Str)).flatten = (repS "  " lv ++ rowS S _) :: (_ : List (List Str)).flatten
    rw [row_fr hs g]
    exact congrArg (fun z => (repS "  " lv ++ rowS S _) :: List.flatten z) h
theorem GTs.rows_fr {S S' : Sto} (hs : ∀ (a : Nat) (kvs : List (Key × D)), S[a]? = some (.dk kvs) → S'[a]? = some (.dk kvs)) : ∀ {k : Str} {n : Nat} {ks : List D} {m : Nat}, GTs S k n ks m → ∀ {lv : Nat}, ks.map (rowsS S' n lv) = ks.map (rowsS S n lv)
  | _, _, _, _, .nil, lv => rfl
  | _, _, _, _, .cons a b, lv => by
    rw [List.map_cons, List.map_cons, GT.rows_fr hs a, GTs.rows_fr hs b]
end
theorem w_ind {S : Sto} {lv : Nat} {Q : D → Sto → Prop} (h : lv ≤ 100) (k : Q (.str (repS "  " lv)) S) : W (.of (opSem .Mult (.str "  ") (.int (lv : Nat)) S)) Q := by
  have e : (("  " : Str)).length = 2 := by decide +kernel
  have e2 : opSem .Mult (.str "  ") (.int (lv : Nat)) S = some (.str (repS "  " lv), S) := by
    show (if (0 : Int) ≤ (lv : Nat) ∧ ((lv : Nat) : Int) ≤ 1000 ∧ 1 ≤ (("  " : Str)).length ∧ (("  " : Str)).length ≤ 1000 then some (D.str (repS "  " ((lv : Nat) : Int).toNat), S) else none) = _
    rw [if_pos ⟨by omega, by omega, by omega, by omega⟩, Int.toNat_natCast]
  rw [e2]; exact k
/-- rows as an answer -/
abbrev AnsR (S : Sto) (rs : List Str) : D → Sto → Prop := fun r S' => DI.Fr [] S S' ∧ ∃ b, r = .loc b ∧ S'[b]? = some (.lst (rs.map D.str))
theorem flat_take {α : Type} (f : α → List Str) (ks : List α) (i : Nat) : ((ks.take i).map f).flatten.length ≤ ((ks.map f).flatten).length := by
  have : ks.map f = (ks.take i).map f ++ (ks.drop i).map f := by rw [← List.map_append, List.take_append_drop]
  rw [this, List.flatten_append, List.length_append]
  omega
theorem take_flat {α : Type} (f : α → List Str) (ks : List α) (i : Nat) (h : i < ks.length) : ((ks.take (i + 1)).map f).flatten = ((ks.take i).map f).flatten ++ f ks[i] := by
  rw [List.take_succ, List.getElem?_eq_getElem h, List.map_append, List.flatten_append]
  simp
theorem mem_sum : ∀ {l : List Nat} {x : Nat}, x ∈ l → x ≤ l.sum
  | [], _, h => nomatch h
  | y :: r, x, h => by
    rw [List.sum_cons]
    rcases List.mem_cons.mp h with rfl | h
    · omega
    · have := mem_sum h; omega
theorem kids_loop {d n m lv fa : Nat} {S : Sto} {k : Str} {st : D} {ks : List D} {hd : Str} {x3 : Option D} {Q : Po} {rest : Sms} (g : GTs S k n ks m) (hl : lv + n ≤ 20) (hm : m ≤ 100000) (hk : memK k = true) (hf : S[fa]? = some (.lst [.str hd]))
    (rec : ∀ n', n = n' + 1 → ∀ {x : D} {s : Nat} {S : Sto}, GT S k n' x s → s ≤ 100000 → W (calls P0 fs d 19 [x, .int ((lv + 1 : Nat) : Int)] S) (AnsR S (rowsS S n (lv + 1) x)))
    (hQ : ∀ S' y3, DI.Fr [fa] S S' → S'[fa]? = some (.lst ((hd :: (ks.map (rowsS S n (lv + 1))).flatten).map D.str)) → WS (dSs P0 (calls P0 fs d) rest [some (.tup [.str k, st, .tup ks]), some (.int (lv : Nat)), some (.loc fa), y3] S') Q) :
    WS (dSs P0 (calls P0 fs d) (.cons (.for_ (.nm 3) (.ex (.ite (.cmp .In (.ix (.var 0) (.cst (.int 0))) (.glo ("KINDS" : Str))) (.ix (.var 0) (.cst (.int 2))) (.tup .nil))) t_node_rows_1) rest) [some (.tup [.str k, st, .tup ks]), some (.int (lv : Nat)), some (.loc fa), x3] S) Q := by
  obtain ⟨szs, z1, z2, z3⟩ := g.list
  have hrl := (g.rlen (lv := lv + 1) (by omega)).1
  refine z_for (w_iex (w_iteT (p := true) (T_cast (t_inK (V_ix (z := .str k) (V_var rfl) V_int rfl)) hk) (fun _ => V_use (V_ix (z := .tup ks) (V_var rfl) V_int rfl) ⟨_, rfl, ?_⟩) fun z => nomatch z))
  refine WS_for (n := ks.length) (fun i σ S1 => ∃ x3, σ = [some (.tup [.str k, st, .tup ks]), some (.int (lv : Nat)), some (.loc fa), x3] ∧ DI.Fr [fa] S S1 ∧ S1[fa]? = some (.lst ((hd :: ((ks.take i).map (rowsS S n (lv + 1))).flatten).map D.str)))
    ⟨_, rfl, DI.Fr.refl, hf⟩ ?_ ?_ ?_
  · rintro σ S' _
    simp [wgo]
  · rintro i σ S1 hi ⟨y3, rfl, f1, e1⟩
    have hki : ks[i]? = some ks[i] := List.getElem?_eq_getElem hi
    obtain ⟨s, n', hs, hn, gk⟩ := z3 i _ hki
    refine ⟨ks[i], _, by simp only [wgo, hki], rfl, ?_⟩
    try simp only [List.set_cons_succ, List.set_cons_zero]
    have dk1 : ∀ (a : Nat) (kvs : List (Key × D)), S[a]? = some (.dk kvs) → S1[a]? = some (.dk kvs) := fun a kvs e => f1.get e (by simp; rintro rfl; rw [hf] at e; cases e)
    unfold t_node_rows_1
    refine z_exp (w_bm (V_use (V_var rfl) ⟨fa, _, rfl, e1, w_cons (w_cal (w_cons (V_use (V_var rfl) (w_cons (V_use (V_bin (z := .int ((lv + 1 : Nat) : Int)) (V_var rfl) V_int (by simp only [opSem]; rfl)) (w_nil (W_mono (rec n' hn (gk.mono dk1) (by have := mem_sum (List.mem_of_getElem? hs); omega)) ?_)))))))⟩))
    rintro r S2 ⟨f2, b, rfl, e2⟩
    have eq2 : rowsS S1 n (lv + 1) ks[i] = rowsS S n (lv + 1) ks[i] := by rw [hn]; exact gk.rows_fr dk1
    rw [eq2] at e2
    have h1 := flat_take (rowsS S n (lv + 1)) ks i
    have h2 := flat_take (rowsS S n (lv + 1)) ks (i + 1)
    rw [take_flat _ _ _ hi, List.length_append] at h2
    refine w_nil ⟨_, _, bm_ext (f2.all _ _ e1) e2 (sz (by simp only [List.length_map, List.length_cons]; omega)), ?_⟩
    have e1' := f2.all _ _ e1
    ((try dsimp only); refine z_nil ?_)
    refine ⟨_, rfl, ((f1.trans (fup f2)).setr (.inl (by simp))), ?_⟩
    rw [get_set (lt_of e1'), take_flat _ _ _ hi, ← List.map_append]
    rfl
  · rintro σ S1 ⟨y3, rfl, f1, e1⟩
    rw [List.take_length] at e1
    exact hQ S1 _ f1 e1
theorem leaf_loop {d lv fa : Nat} {S : Sto} {k : Str} {r : List D} {x3 : Option D} {Q : Po} {rest : Sms} (hk : memK k = false)
    (hQ : WS (dSs P0 (calls P0 fs d) rest [some (.tup (.str k :: r)), some (.int (lv : Nat)), some (.loc fa), x3] S) Q) :
    WS (dSs P0 (calls P0 fs d) (.cons (.for_ (.nm 3) (.ex (.ite (.cmp .In (.ix (.var 0) (.cst (.int 0))) (.glo ("KINDS" : Str))) (.ix (.var 0) (.cst (.int 2))) (.tup .nil))) t_node_rows_1) rest) [some (.tup (.str k :: r)), some (.int (lv : Nat)), some (.loc fa), x3] S) Q := by
  refine z_for (w_iex (w_iteT (p := false) (T_cast (t_inK (V_ix (z := .str k) (V_var rfl) V_int item0)) hk) (fun z => nomatch z) fun _ => w_tup (w_nil ⟨sz (by show 0 ≤ 1000000; omega), _, rfl, ?_⟩)))
  refine WS_for (n := 0) (fun i σ S1 => σ = [some (.tup (.str k :: r)), some (.int (lv : Nat)), some (.loc fa), x3] ∧ S1 = S) ⟨rfl, rfl⟩ (fun σ S' _ => by simp [wgo]) (fun i σ S' hi => absurd hi (by omega)) ?_
  rintro σ S1 ⟨rfl, rfl⟩
  exact hQ
theorem leaf_rows {d n lv s : Nat} {ab k : Str} {S : Sto} {r : List D} (g : GT S ab n (.tup (.str k :: r)) s) (hk : memK k = false) (hr : kidsOf (.tup (.str k :: r)) = []) (hl : lv ≤ 20) : W (calls P0 fs (d + 4) 19 [.tup (.str k :: r), .int (lv : Nat)] S) (AnsR S (rowsS S (n + 1) lv (.tup (.str k :: r)))) := by
  refine W_call (f := d_node_rows) rfl rfl ?_
  show WS (dSs P0 (calls P0 fs (d + 3)) t_node_rows [some (.tup (.str k :: r)), some (.int (lv : Nat)), none, none] S) _
  unfold t_node_rows
  have hrl := row_len g
  have hil := ind_len lv
  refine z_set (w_lst (w_cons (w_bin (w_bin (w_str (V_use (V_var rfl) (w_ind (by omega) (w_cal (w_cons (V_use (V_var rfl) (w_nil (W_mono (c_row g) ?_)))))))))))) 
  rintro r' S1 ⟨f1, rfl⟩
  refine w_addS (by omega) (w_nil ⟨sz (by show 1 ≤ 1000000; omega), ?_⟩)
  try simp only [List.set_cons_succ, List.set_cons_zero]
  refine leaf_loop hk ?_
  unfold t_node_rows_2
  refine z_ret (V_use (V_var rfl) ⟨f1.trans DI.Fr.push, _, rfl, ?_⟩)
  rw [get_push]
  show _ = some (Cell.lst ((_ :: ((kidsOf (.tup (.str k :: r))).map _).flatten : List Str).map D.str))
  rw [hr]
  rfl
theorem kind_rows {d n lv m : Nat} {ab k : Str} {S : Sto} {st : D} {ks : List D} {s : Nat} (g : GT S ab n (.tup [.str k, st, .tup ks]) s) (hk : memK k = true) (gs : GTs S k n ks m) (hm : m ≤ 100000) (hl : lv + n ≤ 19)
    (rec : ∀ n', n = n' + 1 → ∀ {x : D} {s : Nat} {S : Sto}, GT S k n' x s → s ≤ 100000 → W (calls P0 fs (d + 3) 19 [x, .int ((lv + 1 : Nat) : Int)] S) (AnsR S (rowsS S n (lv + 1) x))) :
    W (calls P0 fs (d + 4) 19 [.tup [.str k, st, .tup ks], .int (lv : Nat)] S) (AnsR S (rowsS S (n + 1) lv (.tup [.str k, st, .tup ks]))) := by
  refine W_call (f := d_node_rows) rfl rfl ?_
  show WS (dSs P0 (calls P0 fs (d + 3)) t_node_rows [some (.tup [.str k, st, .tup ks]), some (.int (lv : Nat)), none, none] S) _
  unfold t_node_rows
  have hrl := row_len g
  have hil := ind_len lv
  refine z_set (w_lst (w_cons (w_bin (w_bin (w_str (V_use (V_var rfl) (w_ind (by omega) (w_cal (w_cons (V_use (V_var rfl) (w_nil (W_mono (c_row g) ?_)))))))))))) 
  rintro r' S1 ⟨f1, rfl⟩
  refine w_addS (by omega) (w_nil ⟨sz (by show 1 ≤ 1000000; omega), ?_⟩)
  try simp only [List.set_cons_succ, List.set_cons_zero]
  have f2 : DI.Fr [] S (S1 ++ [Cell.lst [D.str (repS "  " lv ++ rowS S (.tup [.str k, st, .tup ks]))]]) := f1.trans DI.Fr.push
  have dk : ∀ (a : Nat) (kvs : List (Key × D)), S[a]? = some (.dk kvs) → (S1 ++ [Cell.lst [D.str (repS "  " lv ++ rowS S (.tup [.str k, st, .tup ks]))]])[a]? = some (.dk kvs) := fun a kvs e => f2.all _ _ e
  have gs2 := gs.mono dk
  refine kids_loop (hd := repS "  " lv ++ rowS S (.tup [.str k, st, .tup ks])) gs2 (by omega) hm hk get_push rec fun S3 y3 f3 e3 => ?_
  · unfold t_node_rows_2
    refine z_ret (V_use (V_var rfl) ⟨fjoin f2 f3 (fun k hk hkl => by simp at hk; have := f1.1; omega), _, rfl, ?_⟩)
    rw [e3, gs.rows_fr dk]
    rfl
theorem c_rows : ∀ (n : Nat) {d lv s : Nat} {ab : Str} {S : Sto} {x : D}, GT S ab n x s → s ≤ 100000 → lv + n ≤ 19 → W (calls P0 fs (d + n + 4) 19 [x, .int (lv : Nat)] S) (AnsR S (rowsS S (n + 1) lv x))
  | n, d, lv, _, ab, S, _, .brk, _, hl => leaf_rows (d := d + n) (ab := ab) (.brk (n := n)) (by decide +kernel) rfl (by omega)
  | n, d, lv, _, ab, S, _, .txt a b, _, hl => leaf_rows (d := d + n) (ab := ab) (.txt (n := n) a b) (by decide +kernel) rfl (by omega)
  | n, d, lv, _, ab, S, _, .img a b c, _, hl => leaf_rows (d := d + n) (ab := ab) (.img (n := n) a b c) (by decide +kernel) rfl (by omega)
  | n, d, lv, _, ab, S, _, .kind a b c e f g, hs, hl => kind_rows (d := d + n) (.kind (ab := ab) a b c e f g) a g (by omega) hl fun n' hn x s S gk hs' => by
    subst hn
    have := c_rows n' (d := d) (lv := lv + 1) gk hs' (by omega)
    rwa [show d + n' + 4 = d + (n' + 1) + 3 by omega] at this
theorem rows_top {S S' : Sto} {x : D} {s : Nat} (h : GTop S x s) (f : DI.Fr [] S S') : rowsS S' 11 0 x = rowsS S 11 0 x := by
  obtain ⟨k, a, kvs, ks, m, rfl, rfl, e3, e4, e5, e6, e7, e8⟩ := h.ex
  have g : GT S "" 10 (.tup [.str k, .loc a, .tup ks]) (m + 1) := .kind (blk_memK e3) e4 e5 (fun z => absurd z (by decide)) e7 e8
  exact g.rows_fr fun a kvs e => f.all _ _ e
theorem W_ofE {α : Type} {o : Out α} {Q Q' : α → Sto → Prop} {R : Nat → Option (List (Str × D)) → Sto → Prop} (h : DI.WE o Q R) (hr : ∀ c l S, ¬ R c l S) (k : ∀ a S, Q a S → Q' a S) : W o Q' := by
  cases o with
  | ok a S => exact k a S h
  | err c l S => exact absurd h (hr c l S)
  | bad => exact h
/-- the rows of a whole tree -/
theorem top_rows {d s : Nat} {S : Sto} {x : D} (h : GTop S x s) (hs : s ≤ 120) : W (calls P0 fs (d + 14) 19 [x, .int 0] S) (AnsR S (rowsS S 11 0 x)) ∧ (rowsS S 11 0 x).length ≤ 120 ∧ RowsB 2400 (rowsS S 11 0 x) := by
  obtain ⟨k, a, kvs, ks, m, rfl, rfl, e3, e4, e5, e6, e7, e8⟩ := h.ex
  have g : GT S "" 10 (.tup [.str k, .loc a, .tup ks]) (m + 1) := .kind (blk_memK e3) e4 e5 (fun z => absurd z (by decide)) e7 e8
  obtain ⟨l1, l2⟩ := g.rlen (lv := 0) (by omega)
  exact ⟨c_rows 10 (d := d) (lv := 0) g (by omega) (by omega), Nat.le_trans l1 hs, l2⟩
theorem rows_join {rs : List Str} (h1 : rs.length ≤ 120) (h2 : RowsB 2400 rs) : (rs.map (·.length)).sum + rs.length * (("\n" : Str)).length ≤ 16777216 := by
  have h3 := sum_le h2
  have e : (("\n" : Str)).length = 1 := by decide +kernel
  have h5 : rs.length * 2400 ≤ 120 * 2400 := Nat.mul_le_mul_right _ h1
  rw [e]
  omega
theorem c_ttext {d s : Nat} {S : Sto} {x : D} (h : GTop S x s) (hs : s ≤ 120) : W (calls P0 fs (d + 15) 20 [x] S) (AnsS S (Txt.join "\n" (rowsS S 11 0 x))) := by
  refine W_call (f := d_tree_text) rfl rfl ?_
  show WS (dSs P0 (calls P0 fs (d + 14)) t_tree_text [some x] S) _
  unfold t_tree_text
  refine z_exp (w_cal (w_cons (V_use (V_var rfl) (w_nil (W_ofE (c_check (n := d + 5) h.tr (h.gone hs)) (fun c l S ⟨_, _, p, e, _⟩ => nomatch e) ?_)))))
  rintro r S1 ⟨rfl, f1, _⟩
  have h1 := h.mono fun a kvs e => f1.all _ _ e
  obtain ⟨w1, w2, w3⟩ := top_rows (d := d) h1 hs
  refine z_ret (w_join (w_str ⟨_, rfl, w_cal (w_cons (V_use (V_var rfl) (w_cons (w_int (w_nil (W_mono w1 ?_))))))⟩))
  rintro r S2 ⟨f2, b, rfl, e2⟩
  refine ⟨_, join_strs e2, rows_join w2 w3, f1.trans f2, ?_⟩
  rw [rows_top h f1]

end K85

set_option Elab.async false
set_option linter.all false
set_option maxRecDepth 100000
set_option maxHeartbeats 4000000
namespace K85
open L2 DI PySem PySem.Spec PyProof.Rows
/-! ### the law's rows -/
abbrev slR (x : D) (lv : Nat) (x2 x3 x4 x5 : Option D) : Sl := [some x, some (.int (lv : Nat)), x2, x3, x4, x5]
theorem law_words {d a wa lv : Nat} {S : Sto} {k : Str} {r : List D} {x3 x4 x5 : Option D} {pl : Bool} {kvs : List (Key × D)} {ws : List Str} {Q : Po} {rest : Sms} (ha : S[a]? = some (.dk kvs)) (g : SD pl kvs) (hw : S[wa]? = some (.lst (ws.map D.str))) (hl : ws.length ≤ 10)
    (hQ : ∀ S' y3, DI.Fr [wa] S S' → S'[wa]? = some (.lst ((ws ++ styTx kvs).map D.str)) → WS (dSs P0 (calls P0 fs (d + 2)) rest (slR (.tup (.str k :: .loc a :: r)) lv (some (.loc wa)) y3 x4 x5) S') Q) :
    WS (dSs P0 (calls P0 fs (d + 2)) (.cons (.for_ (.nm 3) (.ex (.cal 24 .nil)) t_law_rows_4) rest) (slR (.tup (.str k :: .loc a :: r)) lv (some (.loc wa)) x3 x4 x5) S) Q := by
  have hwl := lt_of hw
  refine z_for (w_iex (w_cal (w_nil (names fun S1 na e1 hna f1 => ⟨_, walk_lst e1, ?_⟩))))
  have hlen : wlen (.li na) S1 = NL.length := by simp only [wlen, e1, List.length_map]
  rw [hlen]
  refine WS_for (n := NL.length) (fun i σ S2 => ∃ y3, σ = slR (.tup (.str k :: .loc a :: r)) lv (some (.loc wa)) y3 x4 x5 ∧ DI.Fr [wa] S S2 ∧ S2[wa]? = some (.lst ((ws ++ (NL.take i).filterMap (gTx kvs)).map D.str)) ∧ S2[na]? = some (.lst (NL.map D.str)))
    ⟨_, rfl, fup f1, by rw [f1.all _ _ hw]; simp, e1⟩ ?_ ?_ ?_
  · rintro σ S2 ⟨y3, rfl, f2, e2, e3⟩
    simp only [wgo, e3]
    simp
  · rintro i σ S2 hi ⟨y3, rfl, f2, e2, e3⟩
    have ha2 := f2.get ha (by simp; rintro rfl; rw [hw] at ha; cases ha)
    have hn : NL[i] ∈ NL := List.getElem_mem hi
    refine ⟨.str NL[i], _, by simp only [wgo, e3, List.getElem?_map, List.getElem?_eq_getElem hi]; rfl, rfl, ?_⟩
    try simp only [List.set_cons_succ, List.set_cons_zero]
    unfold t_law_rows_4
    have vsty : ∀ {σ : Sl} {S : Sto}, σ[0]? = some (some (.tup (.str k :: .loc a :: r))) → V P0 (calls P0 fs (d + 2)) (.ix (.var 0) (.cst (.int 1))) σ S (.loc a) := fun h => V_ix (V_var h) V_int (DI.atI_nat (k := 1) rfl)
    refine z_iteT (T_cmp (V_var rfl) (vsty rfl) (in_tb ha2)) (fun ht => ?_) fun ht => ?_
    · obtain ⟨v, hv⟩ := Option.isSome_iff_exists.mp ht
      have hl2 := of_decide_eq_true (List.all_eq_true.mp nl_len _ hn)
      have hfv := sd_fv g hv
      have e : (("=" : Str)).length = 1 := by decide +kernel
      unfold t_law_rows_3
      refine z_exp (w_bm (V_use (V_var rfl) ⟨wa, _, rfl, e2, w_cons ?_⟩))
      refine w_bin (V_use (V_addS (V_var rfl) V_str (by omega)) (w_cal (w_cons (V_use (V_ix (vsty rfl) (V_var rfl) (item_dk ha2 hv)) (w_nil (W_mono (l_vtext hfv) ?_))))))
      rintro r' S3 ⟨f3, rfl⟩
      have hl3 := txV_len hfv
      have e2' := f3.all _ _ e2
      have hlf : ((NL.take i).filterMap (gTx kvs)).length ≤ 22 := Nat.le_trans (List.length_filterMap_le _ _) (by rw [List.length_take]; exact Nat.le_trans (Nat.min_le_right _ _) (by decide))
      refine w_addS (by rw [strLen_append]; omega) (w_nil ⟨_, _, bm_app e2' (by rw [List.length_map, List.length_append]; omega), ?_⟩)
      ((try dsimp only); refine z_nil ?_)
      ((try dsimp only); refine z_nil ?_)
      have eg : gTx kvs NL[i] = some (wordTx NL[i] v) := by unfold gTx; rw [hv]; rfl
      have hne : wa ≠ na := by omega
      refine ⟨_, rfl, (f2.trans (fup f3)).setr (.inl (by simp)), ?_, ?_⟩
      · rw [get_set (lt_of e2'), take_fm hi, eg]
        simp [wordTx]
      · rw [get_setn hne]; exact f3.all _ _ e3
    · have eg : gTx kvs NL[i] = none := by
        unfold gTx
        cases hv : lookK kvs (.inr NL[i]) with
        | none => rfl
        | some v => rw [hv] at ht; cases ht
      ((try dsimp only); refine z_nil ?_)
      ((try dsimp only); refine z_nil ?_)
      refine ⟨_, rfl, f2, ?_, e3⟩
      rw [take_fm hi, eg]
      simpa using e2
  · rintro σ S2 ⟨y3, rfl, f2, e2, e3⟩
    rw [List.take_length] at e2
    exact hQ S2 _ f2 e2
theorem lkids_loop {d n m lv fa : Nat} {S : Sto} {k : Str} {st : D} {ks : List D} {hd : Str} {x2 x3 x5 : Option D} {Q : Po} {rest : Sms} (g : GTs S k n ks m) (hl : lv + n ≤ 20) (hm : m ≤ 100000) (hk : memK k = true) (hf : S[fa]? = some (.lst [.str hd]))
    (rec : ∀ n', n = n' + 1 → ∀ {x : D} {s : Nat} {S : Sto}, GT S k n' x s → s ≤ 100000 → W (calls P0 fs d 33 [x, .int ((lv + 1 : Nat) : Int)] S) (AnsR S (rowsS S n (lv + 1) x)))
    (hQ : ∀ S' y4 y5, DI.Fr [] S S' → (∃ b, y4 = some (.loc b) ∧ S'[b]? = some (.lst ((hd :: (ks.map (rowsS S n (lv + 1))).flatten).map D.str))) → WS (dSs P0 (calls P0 fs d) rest (slR (.tup [.str k, st, .tup ks]) lv x2 x3 y4 y5) S') Q) :
    WS (dSs P0 (calls P0 fs d) (.cons (.for_ (.nm 5) (.ex (.ite (.cmp .NotEq (.ix (.var 0) (.cst (.int 0))) (.cst (.str ("image" : Str)))) (.ix (.var 0) (.cst (.int 2))) (.tup .nil))) t_law_rows_5) rest) (slR (.tup [.str k, st, .tup ks]) lv x2 x3 (some (.loc fa)) x5) S) Q := by
  obtain ⟨szs, z1, z2, z3⟩ := g.list
  have hrl := (g.rlen (lv := lv + 1) (by omega)).1
  have hki : (k == ("image" : Str)) = false := by
    have e1 := hk
    unfold memK memS at e1
    simp only [List.any_cons, List.any_nil, Bool.or_false, Bool.or_eq_true, beq_iff_eq] at e1
    rcases e1 with rfl | rfl | rfl | rfl <;> decide +kernel
  refine z_for (w_iex (w_iteT (p := true) (T_cast (T_cmp (V_ix (z := .str k) (V_var rfl) V_int rfl) V_str (NE_of (eq_str (by decide +kernel) (sh_str (memK_lay hk))))) (by show (!(k == ("image" : Str))) = true; rw [hki]; rfl)) (fun _ => V_use (V_ix (z := .tup ks) (V_var rfl) V_int rfl) ⟨_, rfl, ?_⟩) fun z => nomatch z))
  refine WS_for (n := ks.length) (fun i σ S1 => ∃ b x5, σ = slR (.tup [.str k, st, .tup ks]) lv x2 x3 (some (.loc b)) x5 ∧ DI.Fr [] S S1 ∧ S1[b]? = some (.lst ((hd :: ((ks.take i).map (rowsS S n (lv + 1))).flatten).map D.str)))
    ⟨_, _, rfl, DI.Fr.refl, hf⟩ ?_ ?_ ?_
  · rintro σ S' _
    simp [wgo]
  · rintro i σ S1 hi ⟨b, y5, rfl, f1, e1⟩
    have hki : ks[i]? = some ks[i] := List.getElem?_eq_getElem hi
    obtain ⟨s, n', hs, hn, gk⟩ := z3 i _ hki
    refine ⟨ks[i], _, by simp only [wgo, hki], rfl, ?_⟩
    try simp only [List.set_cons_succ, List.set_cons_zero]
    have dk1 : ∀ (a : Nat) (kvs : List (Key × D)), S[a]? = some (.dk kvs) → S1[a]? = some (.dk kvs) := fun a kvs e => f1.all _ _ e
    unfold t_law_rows_5
    refine z_set (w_bin (V_use (V_var rfl) (w_cal (w_cons (V_use (V_var rfl) (w_cons (V_use (V_bin (z := .int ((lv + 1 : Nat) : Int)) (V_var rfl) V_int (by simp only [opSem]; rfl)) (w_nil (W_mono (rec n' hn (gk.mono dk1) (by have := mem_sum (List.mem_of_getElem? hs); omega)) ?_)))))))))
    rintro r S2 ⟨f2, c, rfl, e2⟩
    have eq2 : rowsS S1 n (lv + 1) ks[i] = rowsS S n (lv + 1) ks[i] := by rw [hn]; exact gk.rows_fr dk1
    rw [eq2] at e2
    have h2 := flat_take (rowsS S n (lv + 1)) ks (i + 1)
    rw [take_flat _ _ _ hi, List.length_append] at h2
    refine w_addLs (f2.all _ _ e1) e2 (by rw [List.length_cons]; omega) fun S3 f3 e3 => ?_
    try simp only [List.set_cons_succ, List.set_cons_zero]
    ((try dsimp only); refine z_nil ?_)
    refine ⟨_, _, rfl, (f1.trans f2).trans f3, ?_⟩
    rw [e3, take_flat _ _ _ hi]
    rfl
  · rintro σ S1 ⟨b, y5, rfl, f1, e1⟩
    rw [List.take_length] at e1
    exact hQ S1 _ _ f1 ⟨b, rfl, e1⟩
theorem lr_head {d lv : Nat} {S : Sto} {k : Str} {r : List D} (hly : PyData.canLay0 (.str k) = true) (h1 : (k == ("text" : Str)) = false) (h2 : (k == ("break" : Str)) = false) {Q : D → Sto → Prop} (h : WS (dSs P0 (calls P0 fs d) t_law_rows_8 (slR (.tup (.str k :: r)) lv none none none none) S) { nx := fun _ S => Q .non S, rt := Q }) :
    W (calls P0 fs (d + 1) 33 [.tup (.str k :: r), .int (lv : Nat)] S) Q := by
  refine W_call (f := d_law_rows) rfl rfl ?_
  show WS (dSs P0 (calls P0 fs d) t_law_rows (slR (.tup (.str k :: r)) lv none none none none) S) _
  unfold t_law_rows
  refine z_iteT (p := false) (T_cast (t_eqS (sh_str hly) (V_ix (z := .str k) (V_var rfl) V_int item0)) h1) (fun z => nomatch z) fun _ => ?_
  ((try dsimp only); refine z_nil ?_)
  unfold t_law_rows_9
  refine z_iteT (p := false) (T_cast (t_eqS (sh_str hly) (V_ix (z := .str k) (V_var rfl) V_int item0)) h2) (fun z => nomatch z) fun _ => ?_
  ((try dsimp only); refine z_nil ?_)
  exact h
theorem lr_brk {d n lv : Nat} {S : Sto} (hl : lv ≤ 20) : W (calls P0 fs (d + 1) 33 [.tup [.str "break"], .int (lv : Nat)] S) (AnsR S (rowsS S (n + 1) lv (.tup [.str "break"]))) := by
  refine W_call (f := d_law_rows) rfl rfl ?_
  show WS (dSs P0 (calls P0 fs d) t_law_rows (slR (.tup [.str "break"]) lv none none none none) S) _
  unfold t_law_rows
  have hil := ind_len lv
  refine z_iteT (p := false) (T_cast (t_eqS (sh_str (by decide +kernel)) (V_ix (z := .str "break") (V_var rfl) V_int item0)) rfl) (fun z => nomatch z) fun _ => ?_
  ((try dsimp only); refine z_nil ?_)
  unfold t_law_rows_9
  refine z_iteT (p := true) (T_cast (t_eqS (sh_str (by decide +kernel)) (V_ix (z := .str "break") (V_var rfl) V_int item0)) rfl) (fun _ => ?_) fun z => nomatch z
  unfold t_law_rows_2
  have e : (("break" : Str)).length = 5 := by decide +kernel
  refine z_ret (w_lst (w_cons (w_bin (w_bin (w_str (V_use (V_var rfl) (w_ind (by omega) (w_str (w_addS (by omega) (w_nil ⟨sz (by show 1 ≤ 1000000; omega), DI.Fr.push, _, rfl, ?_⟩))))))))))
  rw [get_push]; rfl
theorem lr_txt {d n lv : Nat} {S : Sto} {x : Str} (hx : x.length ≤ 400) (hl : lv ≤ 20) : W (calls P0 fs (d + 1) 33 [.tup [.str "text", .str x], .int (lv : Nat)] S) (AnsR S (rowsS S (n + 1) lv (.tup [.str "text", .str x]))) := by
  refine W_call (f := d_law_rows) rfl rfl ?_
  show WS (dSs P0 (calls P0 fs d) t_law_rows (slR (.tup [.str "text", .str x]) lv none none none none) S) _
  unfold t_law_rows
  have hil := ind_len lv
  refine z_iteT (p := true) (T_cast (t_eqS (sh_str (by decide +kernel)) (V_ix (z := .str "text") (V_var rfl) V_int item0)) rfl) (fun _ => ?_) fun z => nomatch z
  unfold t_law_rows_1
  have e : (("text:" : Str)).length = 5 := by decide +kernel
  refine z_ret (w_lst (w_cons (w_bin (w_bin (w_bin (w_str (V_use (V_var rfl) (w_ind (by omega) (w_str (w_addS (by omega) (V_use (V_ix (z := .str x) (V_var rfl) V_int rfl) (w_addS (by rw [strLen_append]; omega) (w_nil ⟨sz (by show 1 ≤ 1000000; omega), DI.Fr.push, _, rfl, ?_⟩)))))))))))))
  rw [get_push, str_assoc]; rfl

end K85

set_option Elab.async false
set_option linter.all false
set_option maxRecDepth 100000
set_option maxHeartbeats 4000000
namespace K85
open L2 DI PySem PySem.Spec PyProof.Rows
theorem row_two {ws : List Str} {lv : Nat} {x : Str} (h : x.length ≤ 2300) (hl : lv ≤ 20) {S : Sto} {Q : D → Sto → Prop} (k : Q (.str (repS "  " lv ++ x)) S) : W (.of (opSem .Add (.str (repS "  " lv)) (.str x) S)) Q := by
  have hil := ind_len lv
  exact w_addS (by omega) k
theorem lr_img {d n lv a : Nat} {S : Sto} {kvs : List (Key × D)} {w h : Int} (e1 : S[a]? = some (.dk kvs)) (e2 : SD (plc kvs) kvs) (e3 : (isSz (.int w) && isSz (.int h)) = true) (hl : lv ≤ 20) :
    W (calls P0 fs (d + 3) 33 [.tup [.str "image", .loc a, .int w, .int h], .int (lv : Nat)] S) (AnsR S (rowsS S (n + 1) lv (.tup [.str "image", .loc a, .int w, .int h]))) := by
  refine lr_head (d := d + 2) (by decide +kernel) (by decide +kernel) (by decide +kernel) ?_
  unfold t_law_rows_8
  have e3' := e3
  rw [Bool.and_eq_true] at e3'
  have h1 := wh_abs (Bool.and_eq_true_iff.mp e3'.1).1
  have h2 := wh_abs (Bool.and_eq_true_iff.mp e3'.2).1
  refine z_set (w_bin (w_lst (w_cons (V_use (V_ix (z := .str "image") (V_var rfl) V_int rfl) (w_nil ⟨sz (by show 1 ≤ 1000000; omega), ?_⟩)))))
  refine w_iteT (p := true) (T_cast (t_eqS (sh_str (by decide +kernel)) (V_ix (z := .str "image") (V_var rfl) V_int rfl)) rfl) (fun _ => ?_) fun z => nomatch z
  refine w_lst (w_cons (V_use (w_strI (V_ix (z := .int w) (V_var rfl) V_int rfl) h1) (w_cons (V_use (w_strI (V_ix (z := .int h) (V_var rfl) V_int rfl) h2) (w_nil ⟨sz (by show 2 ≤ 1000000; omega), ?_⟩)))))
  refine w_addLs (xs := [("image" : Str)]) (ys := [intS w, intS h]) (get_pushl get_push) get_push (by show 1 + 2 ≤ 1000000; omega) fun S1 f1 e4 => ?_
  try simp only [List.set_cons_succ, List.set_cons_zero]
  have f01 : DI.Fr [] S S1 := (DI.Fr.push.trans DI.Fr.push).trans f1
  have e5 := f01.all _ _ e1
  obtain ⟨g1, g2⟩ := sty_len e2
  refine law_words (k := "image") (r := [.int w, .int h]) (ws := [("image" : Str), intS w, intS h]) e5 e2 e4 (by simp) fun S2 y3 f2 e6 => ?_
  unfold t_law_rows_7
  have hwl : ([("image" : Str), intS w, intS h] ++ styTx kvs).length ≤ 30 ∧ ∀ x ∈ [("image" : Str), intS w, intS h] ++ styTx kvs, x.length ≤ 70 := by
    refine ⟨by simp; omega, fun x hx => ?_⟩
    rcases List.mem_append.mp hx with hx | hx
    · simp only [List.mem_cons, List.not_mem_nil, or_false] at hx
      rcases hx with rfl | rfl | rfl
      · decide +kernel
      · have := int_len h1; omega
      · have := int_len h2; omega
    · exact g2 x hx
  obtain ⟨j1, j2⟩ := words_len hwl.1 hwl.2
  refine z_set (w_lst (w_cons (w_bin (w_bin (w_str (V_use (V_var rfl) (w_ind (by omega) (w_join (w_str ⟨_, rfl, V_use (V_var rfl) ⟨_, join_strs e6, Nat.le_trans j2 (by omega), row_two (ws := []) (by omega) hl (w_nil ⟨sz (by show 1 ≤ 1000000; omega), ?_⟩)⟩⟩)))))))))
  try simp only [List.set_cons_succ, List.set_cons_zero]
  refine z_for (w_iex (w_iteT (p := false) (T_cast (T_cmp (V_ix (z := .str "image") (V_var rfl) V_int rfl) V_str (NE_of (eq_str (by decide +kernel) (sh_str (by decide +kernel))))) rfl) (fun z => nomatch z) fun _ => w_tup (w_nil ⟨sz (by show 0 ≤ 1000000; omega), _, rfl, ?_⟩)))
  refine WS_for (n := 0) (fun i σ S1 => σ = slR (.tup [.str "image", .loc a, .int w, .int h]) lv (some (.loc _)) y3 (some (.loc S2.length)) none ∧ S1 = S2 ++ [Cell.lst [D.str (repS "  " lv ++ Txt.join " " ([("image" : Str), intS w, intS h] ++ styTx kvs))]]) ⟨rfl, rfl⟩ (fun σ S' _ => by simp [wgo]) (fun i σ S' hi => absurd hi (by omega)) ?_
  rintro σ S3 ⟨rfl, rfl⟩
  try dsimp only
  unfold t_law_rows_6
  refine z_ret (V_use (V_var rfl) ⟨(fjoin f01 f2 fun k hk hkl => ?_).trans DI.Fr.push, _, rfl, ?_⟩)
  · simp at hk
    omega
  · rw [get_push]
    show _ = some (Cell.lst ([repS "  " lv ++ Txt.join " " ([("image" : Str), intS w, intS h] ++ styTx (kvsAt S a))].map D.str))
    rw [kvs_at e1]
    rfl
theorem lr_kind {d n lv a m s : Nat} {S : Sto} {ab k : Str} {kvs : List (Key × D)} {ks : List D} (hk : memK k = true) (e1 : S[a]? = some (.dk kvs)) (e2 : SD (plc kvs) kvs) (gs : GTs S k n ks m) (hm : m ≤ 100000) (hl : lv + n ≤ 19)
    (rec : ∀ n', n = n' + 1 → ∀ {x : D} {s : Nat} {S : Sto}, GT S k n' x s → s ≤ 100000 → W (calls P0 fs (d + 2) 33 [x, .int ((lv + 1 : Nat) : Int)] S) (AnsR S (rowsS S n (lv + 1) x))) :
    W (calls P0 fs (d + 3) 33 [.tup [.str k, .loc a, .tup ks], .int (lv : Nat)] S) (AnsR S (rowsS S (n + 1) lv (.tup [.str k, .loc a, .tup ks]))) := by
  have hly := memK_lay hk
  have hkk : (k == ("text" : Str)) = false ∧ (k == ("break" : Str)) = false ∧ (k == ("image" : Str)) = false := by
    have e1 := hk
    unfold memK memS at e1
    simp only [List.any_cons, List.any_nil, Bool.or_false, Bool.or_eq_true, beq_iff_eq] at e1
    rcases e1 with rfl | rfl | rfl | rfl <;> decide +kernel
  refine lr_head (d := d + 2) hly hkk.1 hkk.2.1 ?_
  unfold t_law_rows_8
  refine z_set (w_bin (w_lst (w_cons (V_use (V_ix (z := .str k) (V_var rfl) V_int rfl) (w_nil ⟨sz (by show 1 ≤ 1000000; omega), ?_⟩)))))
  refine w_iteT (p := false) (T_cast (t_eqS (sh_str hly) (V_ix (z := .str k) (V_var rfl) V_int rfl)) hkk.2.2) (fun z => nomatch z) fun _ => ?_
  refine w_lst (w_nil ⟨sz (by show 0 ≤ 1000000; omega), ?_⟩)
  refine w_addLs (xs := [k]) (ys := []) (get_pushl get_push) get_push (by show 1 + 0 ≤ 1000000; omega) fun S1 f1 e4 => ?_
  try simp only [List.set_cons_succ, List.set_cons_zero]
  have f01 : DI.Fr [] S S1 := (DI.Fr.push.trans DI.Fr.push).trans f1
  have e5 := f01.all _ _ e1
  obtain ⟨g1, g2⟩ := sty_len e2
  refine law_words (k := k) (r := [.tup ks]) (ws := [k]) e5 e2 (by simpa using e4) (by simp) fun S2 y3 f2 e6 => ?_
  unfold t_law_rows_7
  have hwl : ([k] ++ styTx kvs).length ≤ 30 ∧ ∀ x ∈ [k] ++ styTx kvs, x.length ≤ 70 := by
    refine ⟨by simp; omega, fun x hx => ?_⟩
    rcases List.mem_append.mp hx with hx | hx
    · rw [List.mem_singleton.mp hx]
      have := memK_len hk
      omega
    · exact g2 x hx
  obtain ⟨j1, j2⟩ := words_len hwl.1 hwl.2
  refine z_set (w_lst (w_cons (w_bin (w_bin (w_str (V_use (V_var rfl) (w_ind (by omega) (w_join (w_str ⟨_, rfl, V_use (V_var rfl) ⟨_, join_strs e6, Nat.le_trans j2 (by omega), row_two (ws := []) (by omega) (by omega) (w_nil ⟨sz (by show 1 ≤ 1000000; omega), ?_⟩)⟩⟩)))))))))
  try simp only [List.set_cons_succ, List.set_cons_zero]
  have f02 : DI.Fr [] S S2 := fjoin f01 f2 fun k hk hkl => by
    simp at hk
    omega
  have f03 : DI.Fr [] S (S2 ++ [Cell.lst [D.str (repS "  " lv ++ Txt.join " " ([k] ++ styTx kvs))]]) := f02.trans DI.Fr.push
  have dk : ∀ (a : Nat) (kvs' : List (Key × D)), S[a]? = some (.dk kvs') → (S2 ++ [Cell.lst [D.str (repS "  " lv ++ Txt.join " " ([k] ++ styTx kvs))]])[a]? = some (.dk kvs') := fun a kvs e => f03.all _ _ e
  refine lkids_loop (hd := repS "  " lv ++ Txt.join " " ([k] ++ styTx kvs)) (gs.mono dk) (by omega) hm hk get_push rec fun S3 y4 y5 f3 ⟨b, hb, e7⟩ => ?_
  subst hb
  unfold t_law_rows_6
  refine z_ret (V_use (V_var rfl) ⟨f03.trans f3, b, rfl, ?_⟩)
  rw [e7, gs.rows_fr dk]
  show _ = some (Cell.lst (((repS "  " lv ++ Txt.join " " ([k] ++ styTx (kvsAt S a))) :: (ks.map (rowsS S n (lv + 1))).flatten).map D.str))
  rw [kvs_at e1]
theorem l_rows : ∀ (n : Nat) {d lv s : Nat} {ab : Str} {S : Sto} {x : D}, GT S ab n x s → s ≤ 100000 → lv + n ≤ 19 → W (calls P0 fs (d + n + 3) 33 [x, .int (lv : Nat)] S) (AnsR S (rowsS S (n + 1) lv x))
  | n, d, lv, _, ab, S, _, .brk, _, hl => lr_brk (d := d + n + 2) (by omega)
  | n, d, lv, _, ab, S, _, .txt a b, _, hl => lr_txt (d := d + n + 2) (by
      have b : (decide (_ ≤ 400) && _) = true := b
      exact of_decide_eq_true (Bool.and_eq_true_iff.mp b).1) (by omega)
  | n, d, lv, _, ab, S, _, .img a b c, _, hl => lr_img (d := d + n) a b c (by omega)
  | n, d, lv, _, ab, S, _, .kind a b c e f g, hs, hl => lr_kind (d := d + n) (ab := ab) (s := 0) a b c g (by omega) hl fun n' hn x s S gk hs' => by
    subst hn
    have := l_rows n' (d := d) (lv := lv + 1) gk hs' (by omega)
    rwa [show d + n' + 3 = d + (n' + 1) + 2 by omega] at this
theorem ltop_rows {d s : Nat} {S : Sto} {x : D} (h : GTop S x s) (hs : s ≤ 120) : W (calls P0 fs (d + 13) 33 [x, .int 0] S) (AnsR S (rowsS S 11 0 x)) := by
  obtain ⟨k, a, kvs, ks, m, rfl, rfl, e3, e4, e5, e6, e7, e8⟩ := h.ex
  have g : GT S "" 10 (.tup [.str k, .loc a, .tup ks]) (m + 1) := .kind (blk_memK e3) e4 e5 (fun z => absurd z (by decide)) e7 e8
  exact l_rows 10 (d := d) (lv := 0) g (by omega) (by omega)

end K85

set_option Elab.async false
set_option linter.all false
set_option maxRecDepth 100000
set_option maxHeartbeats 4000000
namespace K85
open L2 DI PySem PySem.Spec PyProof.Rows
/-! ### the law's loop over its numbers -/
def SlN (x0 : Option D) (L : Nat) (σ : Sl) : Prop := ∃ r, σ = x0 :: r ∧ r.length = L
theorem cut_sub {xs : List D} {lo hi : Option Int} : (∀ y ∈ cutL xs lo hi, y ∈ xs) ∧ (cutL xs lo hi).length ≤ xs.length := by
  unfold cutL
  refine ⟨fun y hy => List.mem_of_mem_drop (List.mem_of_mem_take hy), ?_⟩
  rw [List.length_take, List.length_drop]
  omega
theorem vs_for {xs : List D} {tg : Tg} {b : Sl → Sto → OutS} {Q : Po} {σ : Sl} {S : Sto} (I : Sl → Sto → Prop) (h0 : I σ S)
    (hgo : ∀ d σ S, d ∈ xs → I σ S → ∃ σ', setTg tg d σ = some σ' ∧ WS (b σ' S) { nx := I, rt := Q.rt, bk := Q.nx, ct := I, er := Q.er })
    (hq : ∀ σ S, I σ S → Q.nx σ S) : WS (forN (.vs xs) tg b xs.length 0 σ S) Q := by
  refine WS_for (n := xs.length) (fun _ => I) h0 ?_ ?_ hq
  · intro σ S _
    simp [wgo]
  · intro i σ S hi h
    obtain ⟨σ', e1, e2⟩ := hgo xs[i] σ S (List.getElem_mem hi) h
    exact ⟨xs[i], σ', by simp only [wgo, List.getElem?_eq_getElem hi], e1, e2⟩
theorem cells {d L : Nat} {ns : List Int} (hn : ns.length ≤ 63) {hi : Int} {body rest : Sms} {r : Sl} {Q : Po} (hr : r.length = L + 1)
    (hbody : ∀ (z : Int) (e : Nat) (xs : List D) (r : Sl) (S : Sto), r.length = L → S[e]? = some (.lst xs) → WS (dSs P0 (calls P0 fs (d + 1)) body (some (.rl (ns.map D.int)) :: some (.int z) :: r) S)
      { nx := fun σ S => SlN (some (.rl (ns.map D.int))) (L + 1) σ ∧ S[e]? = some (.lst xs), rt := Q.rt, ct := fun σ S => SlN (some (.rl (ns.map D.int))) (L + 1) σ ∧ S[e]? = some (.lst xs), er := Q.er })
    (hfin : ∀ r S, r.length = L + 1 → WS (dSs P0 (calls P0 fs (d + 1)) rest (some (.rl (ns.map D.int)) :: r) S) Q) :
    WS (dSs P0 (calls P0 fs (d + 1)) (.cons (.for_ (.nm 1) (.ex (.bin .Add (.lst (.cons (.cal 21 (.cons (.var 0) (.cons (.cst (.int 0)) .nil))) .nil)) (.sl (.var 0) (.so (.cst (.int 1))) (.so (.cst (.int hi)))))) body) rest) (some (.rl (ns.map D.int)) :: r) []) Q := by
  refine z_for (w_iex (w_bin (w_lst (w_cons (w_cal (w_cons (V_use (V_var rfl) (w_cons (w_int (w_nil (cell_at (k := 0) (d := d) fun z => w_nil ⟨sz (by show 1 ≤ 1000000; omega), ?_⟩)))))))))))
  refine w_sl (V_use (V_var rfl) (w_so (w_int ⟨1, rfl, w_so (w_int ⟨hi, rfl, _, _, rfl, ?_⟩)⟩)))
  have hcut : (cutL (ns.map D.int) (some 1) (some hi)).length ≤ 63 := by
    have := (cut_sub (xs := ns.map D.int) (lo := some 1) (hi := some hi)).2
    rw [List.length_map] at this
    omega
  have hint : ∀ y ∈ cutL (ns.map D.int) (some 1) (some hi), ∃ k : Int, y = .int k := by
    intro y hy
    obtain ⟨k, _, rfl⟩ := List.mem_map.mp ((cut_sub (xs := ns.map D.int)).1 y hy)
    exact ⟨k, rfl⟩
  generalize cutL (ns.map D.int) (some 1) (some hi) = more at hcut hint ⊢
  refine w_addL (get_pushl get_push) get_push (sz (by show 1 + more.length ≤ 1000000; omega)) ?_
  have hall : ∀ y ∈ [D.int z] ++ more, ∃ k : Int, y = .int k := by
    intro y hy
    rcases List.mem_append.mp hy with h | h
    · rw [List.mem_singleton] at h; exact ⟨z, h⟩
    · exact hint y h
  generalize hxs : [D.int z] ++ more = xs at hall ⊢
  generalize hS : (([] : Sto) ++ [Cell.lst [D.int z]]) ++ [Cell.lst more] = S0
  refine ⟨_, walk_lst get_push, ?_⟩
  have hw : wlen (.li S0.length) (S0 ++ [Cell.lst xs]) = xs.length := by simp only [wlen, get_push]
  rw [hw]
  refine WS_for (n := xs.length) (fun i σ S1 => SlN (some (.rl (ns.map D.int))) (L + 1) σ ∧ S1[S0.length]? = some (.lst xs)) ⟨⟨r, rfl, hr⟩, get_push⟩ ?_ ?_ ?_
  · rintro σ S1 ⟨_, h1⟩
    simp only [wgo, h1]
    simp
  · rintro i σ S1 hi ⟨⟨r, rfl, hr⟩, h1⟩
    obtain ⟨k, hk⟩ := hall xs[i] (List.getElem_mem hi)
    cases r with
    | nil => simp at hr
    | cons y r =>
      refine ⟨.int k, some (.rl (ns.map D.int)) :: some (.int k) :: r, by simp only [wgo, h1, List.getElem?_eq_getElem hi, hk], rfl, ?_⟩
      refine WS_mono (hbody k S0.length xs r S1 (by simpa using hr) h1) ?_ ?_ ?_ ?_ ?_
      · exact fun _ _ h => h
      · exact fun _ _ h => h
      · exact fun _ _ h => h.elim
      · exact fun _ _ h => h
      · exact fun _ _ _ h => h
  · rintro σ S1 ⟨⟨r, rfl, hr⟩, _⟩
    exact hfin r S1 hr

/-! ### closed data -/
def plB : Nat → D → Bool
  | 0, _ => false
  | _ + 1, .non => true
  | _ + 1, .bl _ => true
  | _ + 1, .int _ => true
  | _ + 1, .str x => PyData.canLay0 (.str x)
  | n + 1, .tup xs => xs.all (plB n)
  | _ + 1, _ => false
theorem plB_list {n : Nat} (ih : ∀ d, plB n d = true → ∃ p, (∀ S m, n ≤ m → toP S m d = some p) ∧ PyData.canLay0 p = true ∧ PyData.depth p ≤ n) : ∀ {xs : List D}, xs.all (plB n) = true → ∃ ps, (∀ S m, n ≤ m → xs.mapM (toP S m) = some ps) ∧ PyData.canLayAll0 ps = true ∧ PyData.depthAll ps ≤ n
  | [], _ => ⟨[], fun _ _ _ => rfl, rfl, Nat.zero_le _⟩
  | x :: xs, h => by
    rw [List.all_cons, Bool.and_eq_true] at h
    obtain ⟨p, a1, a2, a3⟩ := ih x h.1
    obtain ⟨ps, b1, b2, b3⟩ := plB_list ih h.2
    refine ⟨p :: ps, fun S m hm => ?_, ?_, ?_⟩
    · rw [List.mapM_cons, a1 S m hm, b1 S m hm]; rfl
    · show (PyData.canLay0 p && PyData.canLayAll0 ps) = true
      rw [a2, b2]; rfl
    · show max p.depth (PyData.depthAll ps) ≤ n
      omega
theorem plB_toP : ∀ n d, plB n d = true → ∃ p, (∀ S m, n ≤ m → toP S m d = some p) ∧ PyData.canLay0 p = true ∧ PyData.depth p ≤ n
  | 0, _, h => nomatch h
  | n + 1, .non, _ => ⟨.none, fun S m hm => by obtain ⟨m, rfl⟩ : ∃ m', m = m' + 1 := ⟨m - 1, by omega⟩; rfl, rfl, Nat.zero_le _⟩
  | n + 1, .bl b, _ => ⟨.bool b, fun S m hm => by obtain ⟨m, rfl⟩ : ∃ m', m = m' + 1 := ⟨m - 1, by omega⟩; rfl, rfl, Nat.zero_le _⟩
  | n + 1, .int b, _ => ⟨.int b, fun S m hm => by obtain ⟨m, rfl⟩ : ∃ m', m = m' + 1 := ⟨m - 1, by omega⟩; rfl, rfl, Nat.zero_le _⟩
  | n + 1, .str b, h => ⟨.str b, fun S m hm => by obtain ⟨m, rfl⟩ : ∃ m', m = m' + 1 := ⟨m - 1, by omega⟩; rfl, h, Nat.zero_le _⟩
  | n + 1, .tup xs, h => by
    have h' : xs.all (plB n) = true := h
    obtain ⟨ps, a1, a2, a3⟩ := plB_list (plB_toP n) h'
    refine ⟨.tuple ps, fun S m hm => ?_, a2, ?_⟩
    · obtain ⟨m, rfl⟩ : ∃ m', m = m' + 1 := ⟨m - 1, by omega⟩
      show (xs.mapM (toP S m)).map PyData.tuple = _
      rw [a1 S m (by omega)]; rfl
    · show PyData.depthAll ps + 1 ≤ n + 1
      omega
  | _ + 1, .ty _, h => nomatch h
  | _ + 1, .rl _, h => nomatch h
  | _ + 1, .loc _, h => nomatch h
  | _ + 1, .fn _, h => nomatch h
  | _ + 1, .cl _, h => nomatch h
  | _ + 1, .rd _, h => nomatch h
theorem plB_sh {n : Nat} {d : D} (h : plB n d = true) (hn : n ≤ 32) (S : Sto) : Sh S d := by
  obtain ⟨p, a1, a2, a3⟩ := plB_toP n d h
  refine ⟨p, a1 S 32 hn, ?_⟩
  unfold SeqAt.shaped
  rw [a2, Bool.true_and]
  exact decide_eq_true (by omega)
theorem plB_vok (S : Sto) : ∀ n d, plB n d = true → n ≤ 32 → VOk S d
  | 0, _, h, _ => nomatch h
  | n + 1, .non, _, _ => .non
  | n + 1, .bl b, _, _ => .bl b
  | n + 1, .int b, _, _ => .int b
  | n + 1, .str b, h, _ => .str h
  | n + 1, .tup xs, h, hn => by
    have h' : xs.all (plB n) = true := h
    rw [List.all_eq_true] at h'
    exact .tup (fun x hx => plB_vok S n x (h' x hx) (by omega)) fun x hx => plB_sh (h' x hx) (by omega) S
  | _ + 1, .ty _, h, _ => nomatch h
  | _ + 1, .rl _, h, _ => nomatch h
  | _ + 1, .loc _, h, _ => nomatch h
  | _ + 1, .fn _, h, _ => nomatch h
  | _ + 1, .cl _, h, _ => nomatch h
  | _ + 1, .rd _, h, _ => nomatch h
def shortB : D → Bool | .tup xs => decide (xs.length ≤ 1000) | _ => true
def sdB (pl : Bool) (kv : Key × D) : Bool := match kv.1 with | .inr w => (FD.lookup w).isSome && (styleV w kv.2 pl && (plB 8 kv.2 && shortB kv.2)) | _ => false
theorem SD.closed {pl : Bool} {kvs : List (Key × D)} (h : (decide (kvs.map (·.1)).Nodup && kvs.all (sdB pl)) = true) : SD pl kvs := by
  rw [Bool.and_eq_true] at h
  refine ⟨of_decide_eq_true h.1, fun kv hk => ?_⟩
  have := List.all_eq_true.mp h.2 kv hk
  unfold sdB at this
  split at this
  · rename_i w e
    simp only [Bool.and_eq_true] at this
    refine ⟨w, e, this.1, this.2.1, fun S => plB_vok S 8 _ this.2.2.1 (by omega), fun xs e2 => ?_⟩
    have h3 := this.2.2.2
    rw [e2] at h3
    exact Nat.le_trans (of_decide_eq_true h3) (by omega)
  · cases this

abbrev sl9 (x0 x1 : Option D) (st : Nat) (x3 x4 x5 x6 x7 x8 : Option D) : Sl := [x0, x1, some (.loc st), x3, x4, x5, x6, x7, x8]
theorem many_turn {d st e : Nat} {S : Sto} {x0 x1 x4 x5 x6 x7 x8 : Option D} {xs : List D} {m : Int} {Q : Po} (h : St S st) (he : S[e]? = some (.lst xs)) (hes : e ≠ st) (hm : 1 ≤ m ∧ m ≤ 120)
    (hQ : ∀ S' y4 y5, St S' st → S'[e]? = some (.lst xs) → Q.nx (sl9 x0 x1 st (some (.int m)) y4 y5 x6 x7 x8) S') : WS (dSs P0 (calls P0 fs (d + 15)) t_law_2 (sl9 x0 x1 st (some (.int m)) x4 x5 x6 x7 x8) S) Q := by
  unfold t_law_2
  refine z_set (w_cal (w_cons (V_use (V_var rfl) (w_cons (V_use (V_var rfl) (w_nil (drawn_tree h hm.1 fun wh S1 s g1 hs h1 f1 => ?_)))))))
  try simp only [List.set_cons_succ, List.set_cons_zero]
  obtain ⟨q, q1, q2⟩ := g1.repr (by omega)
  refine z_set (V_use (V_bi1 (V_var rfl) q2) ?_)
  try simp only [List.set_cons_succ, List.set_cons_zero]
  refine z_ite (w_or (w_cmp (w_cal (w_cons (V_use (V_var rfl) (w_nil (W_mono (c_ttext (d := d) g1 (by omega)) ?_)))))))
  rintro r S2 ⟨f2, rfl⟩
  have g2 := g1.mono fun a kvs e => f2.all _ _ e
  obtain ⟨w1, w2, w3⟩ := top_rows (d := d) g2 (by omega)
  refine w_join (w_str ⟨_, rfl, w_cal (w_cons (V_use (V_var rfl) (w_cons (w_int (w_nil (W_mono (ltop_rows (d := d + 2) g2 (by omega)) ?_))))))⟩)
  rintro r S3 ⟨f3, b, rfl, e3⟩
  refine ⟨_, join_strs e3, rows_join w2 w3, ?_⟩
  rw [rows_top g1 f2]
  refine ⟨false, ne_strs, _, rfl, fun z => (nomatch z), fun _ => ?_⟩
  obtain ⟨q', q3, q4⟩ := (g2.mono fun a kvs e => f3.all _ _ e).repr (by omega)
  rw [toR_mono (f2.trans f3) _ _ _ q1] at q3
  cases q3
  refine T_use (T_cmp (V_bi1 (V_var rfl) q4) (V_var rfl) ne_strs) ⟨_, rfl, fun z => (nomatch z), fun _ => ?_⟩
  ((try dsimp only); refine z_nil ?_)
  ((try dsimp only); refine z_nil ?_)
  exact hQ S3 _ _ (h1.fr (f2.trans f3) (by simp)) ((f2.trans f3).all _ _ (f1.get he (by simpa using hes)))
theorem state_turn {d e : Nat} {S : Sto} {x0 x2 x3 x4 x5 x6 x7 x8 : Option D} {xs : List D} {z : Int} {Q : Po} (he : S[e]? = some (.lst xs))
    (hQ : ∀ σ S, SlN x0 8 σ → S[e]? = some (.lst xs) → Q.nx σ S) : WS (dSs P0 (calls P0 fs (d + 15)) t_law_3 [x0, some (.int z), x2, x3, x4, x5, x6, x7, x8] S) Q := by
  unfold t_law_3
  have hel := lt_of he
  refine z_set (w_lst (w_cons (V_use (V_var rfl) (w_nil ⟨sz (by show 1 ≤ 1000000; omega), ?_⟩))))
  try simp only [List.set_cons_succ, List.set_cons_zero]
  have h1 : St (S ++ [Cell.lst [D.int z]]) S.length := ⟨_, get_push, .inl ⟨_, rfl⟩⟩
  have e1 : (S ++ [Cell.lst [D.int z]])[e]? = some (.lst xs) := get_pushl he
  have hne : e ≠ S.length := by omega
  generalize S ++ [Cell.lst [D.int z]] = S1 at h1 e1 ⊢
  generalize S.length = st at h1 hne ⊢
  refine z_for (w_iex (V_use (V_t4 V_int V_int V_int V_int) ⟨_, rfl, ?_⟩))
  show WS (forN (.vs [.int 1, .int 6, .int 40, .int 120]) _ _ 4 0 _ _) _
  refine vs_for (xs := [.int 1, .int 6, .int 40, .int 120]) (fun σ S => (∃ y3 y4 y5 y6 y7 y8, σ = sl9 x0 (some (.int z)) st y3 y4 y5 y6 y7 y8) ∧ St S st ∧ S[e]? = some (.lst xs)) ⟨⟨_, _, _, _, _, _, rfl⟩, h1, e1⟩ ?_ ?_
  · rintro t σ S2 ht ⟨⟨y3, y4, y5, y6, y7, y8, rfl⟩, h2, e2⟩
    refine ⟨_, rfl, ?_⟩
    try simp only [List.set_cons_succ, List.set_cons_zero]
    have : ∃ m : Int, t = .int m ∧ 1 ≤ m ∧ m ≤ 120 := by
      simp only [List.mem_cons, List.not_mem_nil, or_false] at ht
      rcases ht with rfl | rfl | rfl | rfl <;> exact ⟨_, rfl, by omega, by omega⟩
    obtain ⟨m, rfl, hm⟩ := this
    exact many_turn h2 e2 hne hm fun S3 y4 y5 h3 e3 => ⟨⟨_, _, _, _, _, _, rfl⟩, h3, e3⟩
  · rintro σ S2 ⟨⟨y3, y4, y5, y6, y7, y8, rfl⟩, h2, e2⟩
    try dsimp only
    refine z_nil ?_
    exact hQ _ S2 ⟨_, rfl, rfl⟩ e2
def kvE : List (Key × D) := [(.inr "clip", .bl true), (.inr "margin", .tup [.int 0, .tup [.str "percent", .int 5], .str "auto", .int (-3)]), (.inr "float", .non), (.inr "width", .tup [.str "percent", .int 0])]
def kvR : List (Key × D) := [(.inr "raise", .int (-2))]
theorem kvE_sd : SD (plc kvE) kvE := SD.closed (by decide +kernel)
theorem kvR_sd : SD (plc kvR) kvR := SD.closed (by decide +kernel)
theorem kvE_top : topL kvE = true := by decide +kernel
theorem fin_len : (([("block float=none width=0pc margin=0,5pc,auto,-3 clip=yes" : Str), "  text: a ", "  image 3 0 raise=-2"] ++ [("  inline" : Str), "    break"]).map (·.length)).sum + ([("block float=none width=0pc margin=0,5pc,auto,-3 clip=yes" : Str), "  text: a ", "  image 3 0 raise=-2"] ++ [("  inline" : Str), "    break"]).length * (("\n" : Str)).length ≤ 16777216 := by decide +kernel
theorem fin_rows : ((repS "  " 0 ++ Txt.join " " ([("block" : Str)] ++ styTx kvE)) :: (repS "  " 1 ++ (("text:" : Str) ++ (" a " : Str))) :: (repS "  " 1 ++ Txt.join " " ([("image" : Str), intS 3, intS 0] ++ styTx kvR)) :: (repS "  " 1 ++ Txt.join " " ([("inline" : Str)] ++ styTx [])) :: (repS "  " 2 ++ ("break" : Str)) :: [] : List Str) = [("block float=none width=0pc margin=0,5pc,auto,-3 clip=yes" : Str), "  text: a ", "  image 3 0 raise=-2"] ++ [("  inline" : Str), "    break"] := by decide +kernel
/-- the tree by hand -/
theorem hand {d : Nat} {S : Sto} {x0 x1 x2 x3 x4 x5 x6 x7 x8 : Option D} : WS (dSs P0 (calls P0 fs (d + 15)) t_law_4 [x0, x1, x2, x3, x4, x5, x6, x7, x8] S) { nx := fun _ _ => False, rt := fun v _ => v = .bl true } := by
  unfold t_law_4
  refine z_set (w_dctK (w_cons (w_blc (w_cons (V_use (V_t4 V_int (V_t2 V_str V_int) V_str (V_neg V_int)) (w_cons (w_non (w_cons (V_use (V_t2 V_str V_int) (w_nil ⟨get_push, ⟨rfl, by decide⟩, ?_⟩))))))))))
  rw [show mergeD [] (([("clip" : Str), ("margin" : Str), ("float" : Str), ("width" : Str)].map Sum.inr).zip [D.bl true, D.tup [.int 0, .tup [.str "percent", .int 5], .str "auto", .int (-3)], .non, .tup [.str "percent", .int 0]]) = kvE from rfl, set_last]
  try simp only [List.set_cons_succ, List.set_cons_zero]
  have e1 : (S ++ [Cell.dk kvE])[S.length]? = some (.dk kvE) := get_push
  generalize hS1 : S ++ [Cell.dk kvE] = S1 at e1 ⊢
  generalize S.length = a at e1 ⊢
  clear hS1
  refine z_set (w_tup (w_cons (w_str (w_cons (V_use (V_var rfl) (w_cons (w_tup (w_cons (V_use (V_t2 V_str V_str) (w_cons (w_tup (w_cons (w_str (w_cons (w_dctK (w_cons (V_use (V_neg V_int) (w_nil ⟨get_push, ⟨rfl, by decide⟩, ?_⟩))))))))))))))))))
  rw [show mergeD [] (([("raise" : Str)].map Sum.inr).zip [D.int (-2)]) = kvR from rfl, set_last]
  refine w_cons (w_int (w_cons (w_int (w_nil ⟨sz (by show 4 ≤ 1000000; omega), w_cons (w_blk (w_tup (w_cons (V_use (V_t1 V_str) (w_nil ⟨sz (by show 1 ≤ 1000000; omega), w_nil ⟨sz (by show 3 ≤ 1000000; omega), w_nil ⟨sz (by show 3 ≤ 1000000; omega), ?_⟩⟩⟩)))))⟩))))
  try simp only [List.set_cons_succ, List.set_cons_zero]
  generalize hb : S1.length = b
  generalize hc : (S1 ++ [Cell.dk kvR]).length = c
  generalize hS2 : (S1 ++ [Cell.dk kvR]) ++ [Cell.dk []] = S2
  have f2 : DI.Fr [] S1 S2 := by rw [← hS2]; exact DI.Fr.push.trans DI.Fr.push
  have ea : S2[a]? = some (.dk kvE) := f2.all _ _ e1
  have eb : S2[b]? = some (.dk kvR) := by rw [← hS2, ← hb]; exact get_pushl get_push
  have ec : S2[c]? = some (.dk []) := by rw [← hS2, ← hc]; exact get_push
  clear hS2
  have gks : GTs S2 "block" 10 [.tup [.str "text", .str " a "], .tup [.str "image", .loc b, .int 3, .int 0], .tup [.str "inline", .loc c, .tup [.tup [.str "break"]]]] (1 + (1 + ((1 + 0 + 1) + 0))) :=
    .cons (.txt (by decide +kernel) (by decide +kernel)) (.cons (.img eb kvR_sd (by decide +kernel)) (.cons (.kind (by decide +kernel) ec SD.nil (fun _ h => absurd h (by decide +kernel)) (by simp) (.cons .brk .nil)) .nil))
  have g : GTop S2 (.tup [.str "block", .loc a, .tup [.tup [.str "text", .str " a "], .tup [.str "image", .loc b, .int 3, .int 0], .tup [.str "inline", .loc c, .tup [.tup [.str "break"]]]]]) 5 :=
    ⟨⟨"block", a, kvE, _, _, rfl, rfl, by decide +kernel, ea, kvE_sd, kvE_top, by simp, gks⟩⟩
  refine z_set (w_lst (w_strs (xs := ["block float=none width=0pc margin=0,5pc,auto,-3 clip=yes", "  text: a ", "  image 3 0 raise=-2"]) ⟨sz (by show 3 ≤ 1000000; omega), ?_⟩))
  try simp only [List.set_cons_succ, List.set_cons_zero]
  have f3 : DI.Fr [] S2 (S2 ++ [Cell.lst ([("block float=none width=0pc margin=0,5pc,auto,-3 clip=yes" : Str), "  text: a ", "  image 3 0 raise=-2"].map D.str)]) := DI.Fr.push
  have e3 : (S2 ++ [Cell.lst ([("block float=none width=0pc margin=0,5pc,auto,-3 clip=yes" : Str), "  text: a ", "  image 3 0 raise=-2"].map D.str)])[S2.length]? = some (.lst ([("block float=none width=0pc margin=0,5pc,auto,-3 clip=yes" : Str), "  text: a ", "  image 3 0 raise=-2"].map D.str)) := get_push
  generalize S2 ++ [Cell.lst ([("block float=none width=0pc margin=0,5pc,auto,-3 clip=yes" : Str), "  text: a ", "  image 3 0 raise=-2"].map D.str)] = S3 at f3 e3 ⊢
  have g3 := g.mono fun a kvs e => f3.all _ _ e
  refine z_ret (w_cmp (w_cal (w_cons (V_use (V_var rfl) (w_nil (W_mono (c_ttext (d := d) g3 (by omega)) ?_))))))
  rintro r S4 ⟨f4, rfl⟩
  refine w_join (w_str ⟨_, rfl, w_bin (V_use (V_var rfl) (w_lst (w_strs (xs := ["  inline", "    break"]) ⟨sz (by show 2 ≤ 1000000; omega), ?_⟩)))⟩)
  refine w_addLs (get_pushl (f4.all _ _ e3)) get_push (by show 3 + 2 ≤ 1000000; omega) fun S5 f5 e5 => ⟨_, join_strs e5, ?_, true, ?_, rfl⟩
  · exact fin_len
  · rw [cmp_str, eq_strs]
    refine congrArg some (beq_iff_eq.mpr (congrArg (Txt.join "\n") ?_))
    rw [rows_top g f3]
    show (repS "  " 0 ++ Txt.join " " ([("block" : Str)] ++ styTx (kvsAt S2 a))) :: (repS "  " 1 ++ ("text:" ++ " a ")) :: (repS "  " 1 ++ Txt.join " " ([("image" : Str), intS 3, intS 0] ++ styTx (kvsAt S2 b))) :: (repS "  " 1 ++ Txt.join " " ([("inline" : Str)] ++ styTx (kvsAt S2 c))) :: (repS "  " 2 ++ "break") :: [] = _
    rw [kvs_at ea, kvs_at eb, kvs_at ec]
    exact fin_rows
theorem lawful : ∀ ns : List Int, ns.length ≤ 63 → ∃ S', calls P0 fs (dep + 1) 34 [.rl (ns.map D.int)] [] = .ok (.bl true) S' := by
  intro ns hn
  have : W (calls P0 fs (dep + 1) 34 [.rl (ns.map D.int)] []) fun v _ => v = .bl true := by
    refine W_call (f := d_law) rfl rfl ?_
    show WS (dSs P0 (calls P0 fs (59 + 1)) t_law (some (.rl (ns.map D.int)) :: [none, none, none, none, none, none, none, none]) []) _
    unfold t_law
    refine cells (L := 7) hn rfl (fun z e xs r S hr he => ?_) fun r S hr => ?_
    · match r, hr with
      | [_, _, _, _, _, _, _], _ => exact state_turn (d := 45) he fun σ S h1 h2 => ⟨h1, h2⟩
    · match r, hr with
      | [x1, x2, x3, x4, x5, x6, x7, x8], _ => exact WS_mono (hand (d := 45)) (fun _ _ h => h.elim) (fun _ _ h => h) (fun _ _ h => h.elim) (fun _ _ h => h.elim) (fun _ _ _ h => h.elim)
  obtain ⟨a, S', e, rfl⟩ := W_ex this
  exact ⟨S', e⟩
end K85

set_option Elab.async false
set_option linter.all false
set_option maxRecDepth 100000
set_option maxHeartbeats 0
open PySem PySem.W PySem.Calls PyProof.Rows
theorem PySem.Challenge.cw_flowboxes_k85_texts_of_trees_holds : PySem.Challenge.rw_flowboxes_k85_texts_of_trees.Holds := by
  w_on; o_law
  refine HandSHeadRun.head_any (r := OpenLaw.row PySem.Challenge.rw_flowboxes_k85_texts_of_trees) (q := view (OpenLaw.row PySem.Challenge.rw_flowboxes_k85_texts_of_trees).prog [47]) (H := K85.hk) (ob := K85.ob) (M := 30000) (loose := K85.loose) (d := HandSHeadRun.topDef (OpenLaw.row PySem.Challenge.rw_flowboxes_k85_texts_of_trees).prog 47) (kwd := []) K85.ob_eq
    (by kernel_rfl) (fun s => by kernel_rfl) K85.run (by kernel_rfl) (by kernel_rfl) (by kernel_rfl) (by rfl) (by first | assumption | decide +kernel) (by decide +kernel) ⟨rfl, rfl, rfl, rfl, rfl, by decide +kernel⟩ ?hw ?hc
  case hw => w_witness2
  case hc =>
    refine DI.walk_ofEw (l := PySem.Challenge.rw_flowboxes_k85_texts_of_trees) (n := 63) (k := 3 * K85.dep + 3) (x := "script") (CX := fun w => L2.CX (PySem.Challenge.rw_flowboxes_k85_texts_of_trees).prog w) rfl (by decide) (by kernel_rfl) ⟨rfl, by decide, by decide⟩ ?F (fun w H s e s' z => ?_)
    · intro w mg fa h Y G hmg0
      have hmg : mg ("law" : PySem.Str) = some (.ref fa) := by
        have e : (HandSHeadRun.topDef (OpenLaw.row PySem.Challenge.rw_flowboxes_k85_texts_of_trees).prog 47).name = ("law" : PySem.Str) := by kernel_rfl
        rw [← e]
        exact hmg0
      exact DI.law_F (P := K85.P0) (pn := K85.pn) (fs := K85.fs) (d := K85.dep) (j := 34) (f := K85.d_law) (gs := K85.gs) (xs := K85.xs) Y G hmg (by decide +kernel) rfl K85.o_all K85.x_all K85.kbs_ok rfl (by decide +kernel) rfl rfl K85.lawful
    · obtain ⟨_, _, _, _, _, _, _, _, _, _, _, _, e⟩ := z
      exact e
