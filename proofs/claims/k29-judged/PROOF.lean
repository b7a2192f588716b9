import PyProof.Rows.All
import Wide.All
import OpenK.AllK
import Wide.FinOn
import HandS.ForMost
import HandS.Flow
import HandS.Exc
import HandS.TryOnly
import HandS.ExcOwn
import HandS.WordsExc
import HandS.IsInst
import HandS.TupAny
import HandS.HeadWalk
import HandS.TupLe
import PyProof.StrOps2
import HandS.More
import HandS.TupMul
import HandS.Defaults
import KE.GoesMore
import HandS.Conv
import HandS.Style
import HandS.CallLocal
import HandS.ExcInit
import HandS.ExcField
import HandS.ClsMeth
import HandS.HeadEnd
import HandS.Head0
import HandS.Head1
import HandS.Head2
import HandS.HeadHook1
import HandS.HeadHook2
import HandS.HeadHook3
import HandS.HeadHook4
import Wide.Once
import PySem.Challenge.RW_flowboxes_k29_strips_judged
set_option Elab.async false
set_option linter.all false
set_option maxRecDepth 100000
set_option maxHeartbeats 4000000
/-! Data of a program by value, the store of its changing things, and how the layer's heap bears both. -/
namespace DI
open L2 PySem PySem.Spec PyProof.Rows

/-- values: tuples by value, changing things by their number in the store, defs and classes by their number in the program -/
inductive D where
  | non | bl (b : Bool) | int (i : Int) | str (x : Str) | ty (n : String)
  | tup (xs : List D) | rl (xs : List D) | loc (n : Nat) | fn (j : Nat) | cl (j : Nat)
  | rd (kvs : List (Str × D))
inductive Cell where
  | lst (xs : List D) | dk (kvs : List (Key × D)) | dt (kvs : List (List Key × D)) | ins (c : Nat) (fs : List (Str × D))
  | fk (kvs : List (Key × D))
abbrev Sto := List Cell
/-- where the program's defs and classes stand -/
structure Ad where
  K : PySem.W.Frag
  w : World
  fn : Nat → Addr
  cl : Nat → Addr

def RoL (K : PySem.W.Frag) (H : Hp) (a : Addr) (xs : List V) : Prop := (∃ o, H a = some (.frz o (.lst xs))) ∨ ∀ H' : Hp, SqL K H' a xs
theorem RoL.sq {K : PySem.W.Frag} {H : Hp} {a : Addr} {xs : List V} (h : RoL K H a xs) : SqL K H a xs := by
  rcases h with ⟨o, h⟩ | h
  · exact .inl (.inr ⟨o, h⟩)
  · exact h H
theorem RoL.of_only {K : PySem.W.Frag} {H : Hp} {a : Addr} {xs : List V} (o : Only H) (h : SqL K H a xs) : RoL K H a xs := by
  rcases h with (h | ⟨o', h⟩) | h
  · rcases o a with z | ⟨ob, ys, z⟩
    · rw [z] at h; cases h
    · rw [z] at h; cases h
  · exact .inl ⟨o', h⟩
  · exact .inr fun H' => .inr h

/-- the key of an entry, if it is a text -/
def keyS (e : DictEntry) : Option Str := match e.key with | .str x _ => some x | _ => none
mutual
inductive RepD (A : Ad) (m : List Addr) (H : Hp) : D → V → Prop
  | non : RepD A m H .non .non
  | bl (b : Bool) : RepD A m H (.bl b) (.bl b)
  | int (i : Int) : RepD A m H (.int i) (.int i)
  | str (x : Str) : RepD A m H (.str x) (.str x)
  | ty (n : String) : RepD A m H (.ty n) (.ty n)
  | tup {xs : List D} {a : Addr} {vs : List V} : SqT A.K H a vs → RepL A m H xs vs → RepD A m H (.tup xs) (.ref a)
  | rl {xs : List D} {a : Addr} {vs : List V} : RoL A.K H a vs → RepL A m H xs vs → RepD A m H (.rl xs) (.ref a)
  | loc {i : Nat} {a : Addr} : m[i]? = some a → RepD A m H (.loc i) (.ref a)
  | fn (j : Nat) : RepD A m H (.fn j) (.ref (A.fn j))
  | cl (j : Nat) : RepD A m H (.cl j) (.ref (A.cl j))
  | rd {kvs : List (Str × D)} {a : Addr} : (∃ es n, KDict A.K A.w a es n ∧ es.toList.map keyS = kvs.map fun p => some p.1) → (∀ x : Str, kvs.lookup x = none → PySem.W.nsIn A.K a x = some none) → RepR A m H a kvs → RepD A m H (.rd kvs) (.ref a)
inductive RepR (A : Ad) (m : List Addr) (H : Hp) : Addr → List (Str × D) → Prop
  | nil {a : Addr} : RepR A m H a []
  | cons {a : Addr} {k : Str} {d : D} {r : List (Str × D)} {v : V} {u : Value} : PySem.W.nsIn A.K a k = some (some u) → RelV v u → RepD A m H d v → RepR A m H a r → RepR A m H a ((k, d) :: r)
inductive RepL (A : Ad) (m : List Addr) (H : Hp) : List D → List V → Prop
  | nil : RepL A m H [] []
  | cons {d : D} {ds : List D} {v : V} {vs : List V} : RepD A m H d v → RepL A m H ds vs → RepL A m H (d :: ds) (v :: vs)
end
abbrev RepK {κ : Type} (A : Ad) (m : List Addr) (H : Hp) : List (κ × D) → List (κ × V) → Prop := Paired fun p q => p.1 = q.1 ∧ RepD A m H p.2 q.2

/-- what stays of a heap -/
structure Ext (A : Ad) (m : List Addr) (H : Hp) (m' : List Addr) (H' : Hp) : Prop where
  loc : ∀ (i : Nat) (a : Addr), m[i]? = some a → m'[i]? = some a
  tup : ∀ a xs, SqT A.K H a xs → SqT A.K H' a xs
  rol : ∀ a xs, RoL A.K H a xs → RoL A.K H' a xs
  frz : ∀ a od u, H a = some (.frz od u) → H' a = some (.frz od u)

inductive RepC (A : Ad) (m : List Addr) (H : Hp) (a : Addr) : Cell → Prop
  | lst {xs : List D} {vs : List V} : H a = some (.lst vs) → RepL A m H xs vs → RepC A m H a (.lst xs)
  | dk {kvs : List (Key × D)} {ws : List (Key × V)} : H a = some (.dK ws) → RepK A m H kvs ws → RepC A m H a (.dk kvs)
  | dt {kvs : List (List Key × D)} {ws : List (List Key × V)} : H a = some (.dT ws) → RepK A m H kvs ws → RepC A m H a (.dt kvs)
  | ins {c : Nat} {fs : List (Str × D)} {dx : Addr} {ws : List (Str × V)} : H a = some (.ins (A.cl c) dx ws) → RepK A m H fs ws → RepC A m H a (.ins c fs)
  | fk {kvs : List (Key × D)} {od : Obj} {ws : List (Key × V)} : H a = some (.frz od (.dK ws)) → RepK A m H kvs ws → RepC A m H a (.fk kvs)

structure Rep (A : Ad) (m : List Addr) (S : Sto) (H : Hp) : Prop where
  cell : ∀ (i : Nat) (c : Cell), S[i]? = some c → ∃ a, m[i]? = some a ∧ RepC A m H a c
  len : m.length = S.length
  nd : m.Nodup

section
variable {A : Ad} {m m' m'' : List Addr} {H H' H'' : Hp} {S S' : Sto} {d : D} {v : V} {ds ds' : List D} {vs vs' : List V}
theorem Ext.refl : Ext A m H m H := ⟨fun _ _ h => h, fun _ _ h => h, fun _ _ h => h, fun _ _ _ h => h⟩
theorem Ext.trans (a : Ext A m H m' H') (b : Ext A m' H' m'' H'') : Ext A m H m'' H'' := ⟨fun i x h => b.loc i x (a.loc i x h), fun x xs h => b.tup x xs (a.tup x xs h), fun x xs h => b.rol x xs (a.rol x xs h), fun x od u h => b.frz x od u (a.frz x od u h)⟩
mutual
theorem RepD.mono (e : Ext A m H m' H') : ∀ {d : D} {v : V}, RepD A m H d v → RepD A m' H' d v
  | _, _, .non => .non
  | _, _, .bl b => .bl b
  | _, _, .int i => .int i
  | _, _, .str x => .str x
  | _, _, .ty n => .ty n
  | _, _, .tup h l => .tup (e.tup _ _ h) (RepL.mono e l)
  | _, _, .rl h l => .rl (e.rol _ _ h) (RepL.mono e l)
  | _, _, .loc h => .loc (e.loc _ _ h)
  | _, _, .fn j => .fn j
  | _, _, .cl j => .cl j
  | _, _, .rd h g r => .rd h g (RepR.mono e r)
theorem RepR.mono (e : Ext A m H m' H') : ∀ {a : Addr} {kvs : List (Str × D)}, RepR A m H a kvs → RepR A m' H' a kvs
  | _, _, .nil => .nil
  | _, _, .cons h g r t => .cons h g (RepD.mono e r) (RepR.mono e t)
theorem RepL.mono (e : Ext A m H m' H') : ∀ {ds : List D} {vs : List V}, RepL A m H ds vs → RepL A m' H' ds vs
  | _, _, .nil => .nil
  | _, _, .cons a b => .cons (RepD.mono e a) (RepL.mono e b)
end
theorem RepK.mono {κ : Type} (e : Ext A m H m' H') : ∀ {kvs : List (κ × D)} {ws : List (κ × V)}, RepK A m H kvs ws → RepK A m' H' kvs ws
  | _, _, .nil => .nil
  | _, _, .cons a b => .cons ⟨a.1, a.2.mono e⟩ (RepK.mono e b)
theorem RepL.length : ∀ {ds : List D} {vs : List V}, RepL A m H ds vs → vs.length = ds.length
  | _, _, .nil => rfl
  | _, _, .cons _ b => by rw [List.length_cons, List.length_cons, RepL.length b]
theorem RepL.get : ∀ {ds : List D} {vs : List V} {i : Nat} {d : D}, RepL A m H ds vs → ds[i]? = some d → ∃ v, vs[i]? = some v ∧ RepD A m H d v
  | _, _, _, _, .nil, h => by simp at h
  | _, _, 0, _, .cons a _, h => by simp at h; subst h; exact ⟨_, rfl, a⟩
  | _, _, i + 1, d, .cons _ b, h => by
    obtain ⟨v, h1, h2⟩ := RepL.get (i := i) (d := d) b (by simpa using h)
    exact ⟨v, by simpa using h1, h2⟩
theorem RepL.app : ∀ {ds : List D} {vs : List V}, RepL A m H ds vs → RepL A m H ds' vs' → RepL A m H (ds ++ ds') (vs ++ vs')
  | _, _, .nil, r => r
  | _, _, .cons a b, r => .cons a (RepL.app b r)
theorem RepL.set (r : RepD A m H d v) : ∀ {ds : List D} {vs : List V} (i : Nat), RepL A m H ds vs → RepL A m H (ds.set i d) (vs.set i v)
  | _, _, _, .nil => .nil
  | _, _, 0, .cons _ b => .cons r b
  | _, _, i + 1, .cons a b => .cons a (RepL.set r i b)
theorem RepL.take : ∀ {ds : List D} {vs : List V} (n : Nat), RepL A m H ds vs → RepL A m H (ds.take n) (vs.take n)
  | _, _, 0, _ => .nil
  | _, _, _ + 1, .nil => .nil
  | _, _, n + 1, .cons a b => .cons a (RepL.take n b)
theorem RepL.drop : ∀ {ds : List D} {vs : List V} (n : Nat), RepL A m H ds vs → RepL A m H (ds.drop n) (vs.drop n)
  | _, _, 0, r => r
  | _, _, _ + 1, .nil => .nil
  | _, _, n + 1, .cons _ b => RepL.drop n b
theorem RepL.rev : ∀ {ds : List D} {vs : List V}, RepL A m H ds vs → RepL A m H ds.reverse vs.reverse
  | _, _, .nil => .nil
  | _, _, .cons a b => by rw [List.reverse_cons, List.reverse_cons]; exact (RepL.rev b).app (.cons a .nil)
theorem RepL.dropLast : ∀ {ds : List D} {vs : List V}, RepL A m H ds vs → RepL A m H ds.dropLast vs.dropLast
  | _, _, .nil => .nil
  | _, _, .cons _ .nil => .nil
  | _, _, .cons a (.cons b c) => .cons a (RepL.dropLast (.cons b c))
theorem RepL.ints : ∀ (ns : List Int), RepL A m H (ns.map D.int) (ns.map V.int)
  | [] => .nil
  | n :: ns => .cons (.int n) (RepL.ints ns)
theorem RepL.toInts : ∀ {ns : List Int} {vs : List V}, RepL A m H (ns.map D.int) vs → vs = ns.map V.int
  | [], _, .nil => rfl
  | _ :: _, _, .cons (.int _) b => by rw [List.map_cons, RepL.toInts b]

theorem RepC.there {a : Addr} {c : Cell} (r : RepC A m H a c) : ∃ o, H a = some o := by
  cases r <;> exact ⟨_, by assumption⟩
/-- an object's address as it was, and what stays -/
theorem RepC.mono {a : Addr} {c : Cell} (r : RepC A m H a c) (e : Ext A m H m' H') (h : H' a = H a) : RepC A m' H' a c := by
  cases r with
  | lst x l => exact .lst (h.trans x) (l.mono e)
  | dk x l => exact .dk (h.trans x) (RepK.mono e l)
  | dt x l => exact .dt (h.trans x) (RepK.mono e l)
  | ins x l => exact .ins (h.trans x) (RepK.mono e l)
  | fk x l => exact .fk (h.trans x) (RepK.mono e l)
theorem Rep.there (R : Rep A m S H) {a : Addr} (h : a ∈ m) : ∃ o, H a = some o := by
  obtain ⟨i, hi, rfl⟩ := List.getElem_of_mem h
  have : i < S.length := by rw [← R.len]; exact hi
  obtain ⟨a, h1, h2⟩ := R.cell i _ (List.getElem?_eq_getElem this)
  rw [List.getElem?_eq_getElem hi] at h1
  cases h1
  exact h2.there
theorem Rep.fresh (R : Rep A m S H) {p : Addr} (h : H p = none) : p ∉ m := fun hm => by
  obtain ⟨o, e⟩ := R.there hm
  rw [h] at e; cases e
theorem sqT_upd {K : PySem.W.Frag} {p a : Addr} {o : HO} {xs : List V} (hp : ∀ ys, H p ≠ some (.tup ys)) (hf : ∀ ob u, H p ≠ some (.frz ob u)) (h : SqT K H a xs) : SqT K (upd H p o) a xs := by
  rcases h with (h | ⟨ob, h⟩) | h
  · refine .inl (.inl ?_)
    rw [upd_ne (fun e => hp xs (by rw [← e]; exact h))]; exact h
  · refine .inl (.inr ⟨ob, ?_⟩)
    rw [upd_ne (fun e => hf ob _ (by rw [← e]; exact h))]; exact h
  · exact .inr h
theorem roL_upd {K : PySem.W.Frag} {p a : Addr} {o : HO} {xs : List V} (hf : ∀ ob u, H p ≠ some (.frz ob u)) (h : RoL K H a xs) : RoL K (upd H p o) a xs := by
  rcases h with ⟨ob, h⟩ | h
  · refine .inl ⟨ob, ?_⟩
    rw [upd_ne (fun e => hf ob _ (by rw [← e]; exact h))]; exact h
  · exact .inr h
/-- a new object, not in the store -/
theorem Ext.new {p : Addr} {o : HO} (h : H p = none) : Ext A m H m (upd H p o) :=
  ⟨fun _ _ h => h, fun _ _ => sqT_upd (fun _ e => nomatch h.symm.trans e) (fun _ _ e => nomatch h.symm.trans e), fun _ _ => roL_upd (fun _ _ e => nomatch h.symm.trans e), fun b od u q => by
    rw [upd_ne (fun e => by rw [e, h] at q; cases q)]; exact q⟩
theorem Ext.more {r : List Addr} (e : Ext A m H m' H') : Ext A m H (m' ++ r) H' :=
  ⟨fun i a h => by have := e.loc i a h; rw [List.getElem?_append_left (List.getElem?_eq_some_iff.mp this).1]; exact this, e.tup, e.rol, e.frz⟩
theorem Rep.new (R : Rep A m S H) {p : Addr} {o : HO} (h : H p = none) : Rep A m S (upd H p o) := by
  refine ⟨fun i c hc => ?_, R.len, R.nd⟩
  obtain ⟨a, h1, h2⟩ := R.cell i c hc
  refine ⟨a, h1, h2.mono (Ext.new h) (upd_ne fun e => ?_)⟩
  obtain ⟨u, hu⟩ := h2.there
  rw [e, h] at hu
  cases hu
/-- a new cell -/
theorem Rep.alloc (R : Rep A m S H) {p : Addr} {o : HO} {c : Cell} (h : H p = none) (new : RepC A (m ++ [p]) (upd H p o) p c) : Rep A (m ++ [p]) (S ++ [c]) (upd H p o) := by
  refine ⟨fun i c' hc => ?_, by rw [List.length_append, List.length_append, R.len] <;> rfl, ?_⟩
  · by_cases hi : i < S.length
    · rw [List.getElem?_append_left hi] at hc
      obtain ⟨a, h1, h2⟩ := R.cell i c' hc
      refine ⟨a, (Ext.refl (A := A) (H := H)).more.loc i a h1, h2.mono (Ext.new h).more (upd_ne fun e => ?_)⟩
      obtain ⟨u, hu⟩ := h2.there
      rw [e, h] at hu; cases hu
    · rw [List.getElem?_append_right (by omega)] at hc
      have e : i - S.length = 0 := by
        cases q : i - S.length with
        | zero => rfl
        | succ n => rw [q] at hc; simp at hc
      have ei : i = S.length := by omega
      subst ei
      rw [e] at hc
      cases hc
      exact ⟨p, by rw [← R.len, List.getElem?_append_right (Nat.le_refl _), Nat.sub_self] <;> rfl, new⟩
  · rw [List.nodup_append]
    refine ⟨R.nd, List.nodup_cons.mpr ⟨by simp, List.nodup_nil⟩, fun a ha b hb e => ?_⟩
    rw [List.mem_singleton] at hb
    subst hb; subst e
    exact R.fresh h ha
/-- a cell is written -/
theorem Ext.write {p : Addr} {o u : HO} (h : H p = some u) (nt : ∀ ys, u ≠ .tup ys) (nf : ∀ ob w, u ≠ .frz ob w) : Ext A m H m (upd H p o) :=
  ⟨fun _ _ h => h, fun _ _ => sqT_upd (fun ys e => nt ys (Option.some.inj (h.symm.trans e))) fun ob w e => nf ob w (Option.some.inj (h.symm.trans e)),
    fun _ _ => roL_upd fun ob w e => nf ob w (Option.some.inj (h.symm.trans e)), fun b od w q => by
      rw [upd_ne (fun e => by rw [e, h] at q; exact nf od w (Option.some.inj q))]; exact q⟩
theorem Rep.write (R : Rep A m S H) {i : Nat} {p : Addr} {o : HO} {c : Cell} (hi : m[i]? = some p) (e : Ext A m H m (upd H p o)) (new : RepC A m (upd H p o) p c) : Rep A m (S.set i c) (upd H p o) := by
  refine ⟨fun j c' hc => ?_, by rw [List.length_set]; exact R.len, R.nd⟩
  by_cases hj : i = j
  · subst hj
    have hl : i < S.length := by rw [← R.len]; exact (List.getElem?_eq_some_iff.mp hi).1
    rw [List.getElem?_set_self hl] at hc
    cases hc
    exact ⟨p, hi, new⟩
  · rw [List.getElem?_set_ne hj] at hc
    obtain ⟨a, h1, h2⟩ := R.cell j c' hc
    refine ⟨a, h1, h2.mono e (upd_ne fun z => hj ?_)⟩
    subst z
    have h3 := (List.getElem?_eq_some_iff.mp hi)
    have h4 := (List.getElem?_eq_some_iff.mp h1)
    exact nd_ix R.nd hi h1
end
end DI

set_option Elab.async false
set_option linter.all false
set_option maxRecDepth 100000
set_option maxHeartbeats 4000000
/-! A small language of programs, what its texts do to data and store, and when a text of the model is one of it. -/
namespace DI
open L2 PySem PySem.Spec PyProof.Rows

/-! ### values -/
def cutL {α : Type} (xs : List α) (lo hi : Option Int) : List α := (xs.drop (HT.sIx xs.length 0 lo)).take (HT.sIx xs.length xs.length hi - HT.sIx xs.length 0 lo)
/-- the pm-th of a list, in pm's order -/
def pmL {α : Type} (pm : List Nat) (xs : List α) : List α := pm.filterMap fun i => xs[i]?
/-- a text, k times -/
def repS (z : Str) (k : Nat) : Str := ⟨(List.replicate k z.cps).foldl (· ++ ·) #[]⟩
def opSem (o : Operator) (x y : D) (S : Sto) : Option (D × Sto) :=
  match o, x, y with
  | .Add, .int i, .int j => some (.int (i + j), S)
  | .Add, .str i, .str j => if i.length + j.length ≤ sizeLine then some (.str (i ++ j), S) else none
  | .Add, .tup xs, .tup ys => if xs.length + ys.length ≤ sizeLine then some (.tup (xs ++ ys), S) else none
  | .Add, .loc a, .loc b => match S[a]?, S[b]? with
    | some (.lst xs), some (.lst ys) => if xs.length + ys.length ≤ sizeLine then some (.loc S.length, S ++ [.lst (xs ++ ys)]) else none
    | _, _ => none
  | .Sub, .int i, .int j => some (.int (i - j), S)
  | .Mult, .int i, .int j => if (-(2 ^ 64) < i ∧ i < 2 ^ 64) ∨ (-(2 ^ 64) < j ∧ j < 2 ^ 64) then some (.int (i * j), S) else none
  | .Mult, .loc a, .int k => match S[a]? with
    | some (.lst xs) => if -(2 ^ 63) ≤ k ∧ k < 2 ^ 63 ∧ xs.length * k.toNat ≤ sizeLine then some (.loc S.length, S ++ [.lst (List.replicate k.toNat xs).flatten]) else none
    | _ => none
  | .Mult, .str z, .int k => if 0 ≤ k ∧ k ≤ 1000 ∧ 1 ≤ z.length ∧ z.length ≤ 1000 then some (.str (repS z k.toNat), S) else none
  | .Mult, .tup xs, .int k => if xs ≠ [] ∧ 2 ≤ k ∧ k ≤ 1000 ∧ xs.length ≤ 1000 then some (.tup (List.replicate k.toNat xs).flatten, S) else none
  | .FloorDiv, .int i, .int j => if 0 < j ∧ j < 1073741824 then some (.int (i / j), S) else none
  | .Mod, .int i, .int j => if 0 < j then some (.int (i % j), S) else none
  | .Pow, .int i, .int j => if 0 ≤ j ∧ j ≤ 1000000 ∧ i.natAbs < 2 ^ 64 then some (.int (i ^ j.toNat), S) else none
  | _, _, _ => none
/-- as data of the library, lists down to a depth -/
def toP (S : Sto) : Nat → D → Option PyData
  | 0, _ => none
  | _ + 1, .non => some .none
  | _ + 1, .bl b => some (.bool b)
  | _ + 1, .int i => some (.int i)
  | _ + 1, .str x => some (.str x)
  | n + 1, .tup xs => (xs.mapM (toP S n)).map PyData.tuple
  | n + 1, .rl xs => (xs.mapM (toP S n)).map PyData.list
  | n + 1, .loc a => match S[a]? with
    | some (.lst xs) => (xs.mapM (toP S n)).map PyData.list
    | _ => none
  | _ + 1, _ => none
def keyP : Key → PyData
  | .inl i => .int i
  | .inr x => .str x
/-- the same, dicts too -/
def toR (S : Sto) : Nat → D → Option PyData
  | 0, _ => none
  | _ + 1, .non => some .none
  | _ + 1, .bl b => some (.bool b)
  | _ + 1, .int i => some (.int i)
  | _ + 1, .str x => some (.str x)
  | n + 1, .tup xs => (xs.mapM (toR S n)).map PyData.tuple
  | n + 1, .rl xs => (xs.mapM (toR S n)).map PyData.list
  | n + 1, .loc a => match S[a]? with
    | some (.lst xs) => (xs.mapM (toR S n)).map PyData.list
    | some (.dk kvs) => ((kvs.map (·.2)).mapM (toR S n)).map fun ps => PyData.dict ((kvs.map fun w => keyP w.1).zip ps)
    | _ => none
  | _ + 1, _ => none
def eqSem (x y : D) (S : Sto) : Option Bool :=
  match toP S 32 x, toP S 32 y with
  | some p, some q => if SeqAt.shaped p = true ∧ SeqAt.shaped q = true then some (PyData.eqv p q) else (match x, y with | .str a, .str b => some (a == b) | _, _ => none)
  | _, _ => none
def flatD : D → Bool
  | .non => true | .bl _ => true | .int _ => true | .str _ => true | _ => false
def eqF : D → D → Bool
  | .non, .non => true
  | .bl a, .bl b => a == b
  | .bl a, .int b => (if a then 1 else 0) == b
  | .int a, .bl b => a == (if b then 1 else 0)
  | .int a, .int b => a == b
  | .str a, .str b => a == b
  | _, _ => false
def keyD : D → Option Key
  | .int i => some (.inl i)
  | .str x => some (.inr x)
  | _ => none
def keysD : List D → Option (List Key)
  | [] => some []
  | d :: r => match keyD d, keysD r with
    | some k, some ks => some (k :: ks)
    | _, _ => none
def lookK {κ : Type} [DecidableEq κ] (kvs : List (κ × D)) (k : κ) : Option D := (kvs.find? fun kv => decide (kv.1 = k)).map (·.2)
def putD {κ : Type} [DecidableEq κ] (kvs : List (κ × D)) (k : κ) (d : D) : List (κ × D) :=
  if (kvs.any fun kv => decide (kv.1 = k)) = true then kvs.map (fun kv => if kv.1 = k then (kv.1, d) else kv) else kvs ++ [(k, d)]
/-- what a dict holds under a key: none is «no key of it» -/
def dictAt (c : Cell) (k : D) : Option (Option D) :=
  match c, k with
  | .dk kvs, .int i => some (lookK kvs (.inl i))
  | .dk kvs, .str x => some (lookK kvs (.inr x))
  | .fk kvs, .int i => some (lookK kvs (.inl i))
  | .fk kvs, .str x => some (lookK kvs (.inr x))
  | _, _ => none
def isDk (c : Cell) : Bool := match c with | .dk _ => true | .fk _ => true | _ => false
def dropD {κ : Type} [DecidableEq κ] (kvs : List (κ × D)) (k : κ) : List (κ × D) := kvs.filter fun kv => decide (kv.1 ≠ k)
def mergeD (kvs more : List (Key × D)) : List (Key × D) := more.foldl (fun acc kv => putD acc kv.1 kv.2) kvs
/-- a text's signs -/
def charsD (z : Str) : List D := z.cps.toList.map fun c => D.str ⟨#[c]⟩
/-- x in y, of data of any depth -/
def inDeep (x y : D) (S : Sto) : Option Bool :=
  match toP S 32 x, toP S 32 y with
  | some d, some (.tuple ds) => if SeqAt.shaped d = true ∧ SeqAt.shaped (.tuple ds) = true ∧ PyData.depth d ≤ 60 then some (ds.any fun z => PyData.eqv z d) else none
  | some d, some (.list ds) => if SeqAt.shaped d = true ∧ SeqAt.shaped (.list ds) = true ∧ PyData.depth d ≤ 60 then some (ds.any fun z => PyData.eqv z d) else none
  | _, _ => none
def inSem (x y : D) (S : Sto) : Option Bool :=
  match y with
  | .tup xs => if flatD x = true ∧ xs.all flatD = true then some (xs.any fun z => eqF z x) else inDeep x (.tup xs) S
  | .rl xs => if flatD x = true ∧ xs.all flatD = true then some (xs.any fun z => eqF z x) else inDeep x (.rl xs) S
  | .loc a => match S[a]? with
    | some (.lst xs) => if flatD x = true ∧ xs.all flatD = true then some (xs.any fun z => eqF z x) else inDeep x (.loc a) S
    | some c => (dictAt c x).map (·.isSome)
    | none => none
  | .rd kvs => match x with
    | .str z => some (kvs.lookup z).isSome
    | _ => none
  | _ => none
/-- whole numbers -/
def intsD : List D → Option (List Int)
  | [] => some []
  | .int i :: r => (intsD r).map (i :: ·)
  | _ :: _ => none
/-- ns > ms by the first pair that differs -/
def gtI (ns ms : List Int) : Bool := Ob.lexAt (fun j => decide (ns.getD j 0 = ms.getD j 0)) (fun j => decide (ms.getD j 0 < ns.getD j 0)) (decide (ms.length < ns.length)) 0 (min ns.length ms.length)
def cmpSem (o : CmpOp) (x y : D) (S : Sto) : Option Bool :=
  match o with
  | .Eq => match x, y with
    | .tup xs, .tup [] => some xs.isEmpty
    | x, .loc i => (match eqSem x (.loc i) S with | some b => some b | none => (match S[i]? with
      | some (.dk _) => if flatD x = true then some false else none
      | some (.fk _) => if flatD x = true then some false else none
      | _ => none))
    | _, _ => eqSem x y S
  | .NotEq => (eqSem x y S).map (!·)
  | .Lt => match x, y with | .int i, .int j => some (decide (i < j)) | .str i, .str j => some (decide (i.cps.toList < j.cps.toList)) | _, _ => none
  | .LtE => match x, y with | .int i, .int j => some (decide (i ≤ j)) | .str i, .str j => some (!decide (j.cps.toList < i.cps.toList)) | _, _ => none
  | .Gt => match x, y with | .int i, .int j => some (decide (j < i)) | .str i, .str j => some (decide (j.cps.toList < i.cps.toList)) | .tup xs, .tup ys => (match intsD xs, intsD ys with | some ns, some ms => some (gtI ns ms) | _, _ => none) | _, _ => none
  | .GtE => match x, y with | .int i, .int j => some (decide (j ≤ i)) | .str i, .str j => some (!decide (i.cps.toList < j.cps.toList)) | _, _ => none
  | .Is => match y with | .non => some (match x with | .non => true | _ => false) | _ => none
  | .IsNot => match y with | .non => some (match x with | .non => false | _ => true) | _ => none
  | .In => inSem x y S
  | .NotIn => (inSem x y S).map (!·)
def truSem (x : D) (S : Sto) : Option Bool :=
  match x with
  | .non => some false
  | .bl b => some b
  | .int i => some (i != 0)
  | .str y => if y.length ≤ sizeLine then some ((y.length : Int) != 0) else none
  | .tup xs => some (!xs.isEmpty)
  | .rl xs => some (!xs.isEmpty)
  | .loc a => match S[a]? with
    | some (.lst xs) => some (!xs.isEmpty)
    | some (.dk kvs) => some (!kvs.isEmpty)
    | _ => none
  | _ => none
def itemSem (x y : D) (S : Sto) : Option D :=
  match x, y with
  | .tup xs, .int i => atI xs i
  | .rl xs, .int i => atI xs i
  | .rd kvs, .str z => kvs.lookup z
  | .str z, .int i => if z.length ≤ sizeLine then (atI z.cps.toList i).map fun c => .str ⟨#[c]⟩ else none
  | .loc a, y => match S[a]?, y with
    | some (.lst xs), .int i => atI xs i
    | some (.lst _), _ => none
    | some c, k => (dictAt c k).bind id
    | none, _ => none
  | _, _ => none
def sliceSem (x : D) (lo hi : Option Int) (S : Sto) : Option (D × Sto) :=
  match x with
  | .tup xs => some (.tup (cutL xs lo hi), S)
  | .rl xs => some (.loc S.length, S ++ [.lst (cutL xs lo hi)])
  | .loc a => match S[a]? with
    | some (.lst xs) => some (.loc S.length, S ++ [.lst (cutL xs lo hi)])
    | _ => none
  | _ => none
/-- a list's or tuple's items -/
def seqD (x : D) (S : Sto) : Option (List D) :=
  match x with
  | .tup xs => some xs
  | .rl xs => some xs
  | .loc a => match S[a]? with | some (.lst xs) => some xs | _ => none
  | _ => none
def listD (x : D) (S : Sto) : Option (List D) :=
  match x with
  | .rl xs => some xs
  | .loc a => match S[a]? with | some (.lst xs) => some xs | _ => none
  | _ => none
def strsD : List D → Option (List Str)
  | [] => some []
  | .str i :: r => (strsD r).map (i :: ·)
  | _ :: _ => none
def blsD : List D → Option (List Bool)
  | [] => some []
  | .bl i :: r => (blsD r).map (i :: ·)
  | _ :: _ => none
def maxL : List Int → Option Int
  | [] => none
  | i :: r => some (r.foldl max i)
def minL : List Int → Option Int
  | [] => none
  | i :: r => some (r.foldl min i)
def tyName (x : D) (S : Sto) : Option String :=
  match x with
  | .non => some "NoneType" | .bl _ => some "bool" | .int _ => some "int" | .str _ => some "str" | .tup _ => some "tuple" | .rl _ => some "list" | .rd _ => some "dict"
  | .loc a => match S[a]? with | some (.lst _) => some "list" | some (.dk _) => some "dict" | some (.dt _) => some "dict" | some (.fk _) => some "dict" | _ => none
  | _ => none
/-- built-ins, by their names -/
inductive BI where
  | len | int_ | str_ | abs_ | max1 | max2 | min1 | min2 | sum_ | all_ | any_ | list_ | tuple_ | isi | dict_ | ord_ | repr_
  deriving DecidableEq
def BI.name : BI → Str
  | .len => "len" | .int_ => "int" | .str_ => "str" | .abs_ => "abs" | .max1 => "max" | .max2 => "max" | .min1 => "min" | .min2 => "min" | .sum_ => "sum" | .all_ => "all" | .any_ => "any"
  | .list_ => "list" | .tuple_ => "tuple" | .isi => "isinstance" | .dict_ => "dict" | .ord_ => "ord" | .repr_ => "repr"
def biSem (b : BI) (ds : List D) (S : Sto) : Option (D × Sto) :=
  match b, ds with
  | .len, [.str x] => if x.length ≤ sizeLine then some (.int x.length, S) else none
  | .len, [.loc a] => match S[a]? with
    | some (.lst xs) => some (.int xs.length, S)
    | some (.dk kvs) => some (.int kvs.length, S)
    | _ => none
  | .len, [.tup xs] => some (.int xs.length, S)
  | .len, [.rl xs] => some (.int xs.length, S)
  | .int_, [.int i] => some (.int i, S)
  | .int_, [.bl b] => some (.int (if b then 1 else 0), S)
  | .str_, [.int i] => if i.natAbs.log2 < 1920 then some (.str (toString i), S) else none
  | .abs_, [.int i] => some (.int (if i < 0 then -i else i), S)
  | .max2, [.int i, .int j] => some (.int (max i j), S)
  | .min2, [.int i, .int j] => some (.int (min i j), S)
  | .max1, [x] => ((listD x S).bind fun xs => (intsD xs).bind maxL).map fun i => (.int i, S)
  | .min1, [x] => ((listD x S).bind fun xs => (intsD xs).bind minL).map fun i => (.int i, S)
  | .sum_, [x] => ((listD x S).bind intsD).map fun ns => (.int ns.sum, S)
  | .all_, [x] => ((listD x S).bind blsD).map fun bs => (.bl (bs.all id), S)
  | .any_, [x] => ((listD x S).bind blsD).map fun bs => (.bl (bs.any id), S)
  | .list_, [x] => (seqD x S).map fun xs => (.loc S.length, S ++ [.lst xs])
  | .tuple_, [x] => (seqD x S).map fun xs => (.tup xs, S)
  | .dict_, [.loc a] => match S[a]? with
    | some (.dk kvs) => some (.loc S.length, S ++ [.dk kvs])
    | some (.fk kvs) => some (.loc S.length, S ++ [.dk kvs])
    | _ => none
  | .ord_, [.str z] => if z.length = 1 then some (.int (z.cps.getD 0 0 : Nat), S) else none
  | .repr_, [x] => match x with
    | .tup _ | .rl _ | .loc _ => (toR S 32 x).bind fun d => if d.showable = true ∧ d.depth ≤ 60 ∧ d.shown.length ≤ sizeLine then some (.str d.shown, S) else none
    | _ => none
  | .isi, [x, .ty n] => (tyName x S).bind fun t => (kitB t n).map fun b => (.bl b, S)
  | _, _ => none
/-- methods of built-in types -/
inductive BM where
  | append | extend | pop | reverse
  deriving DecidableEq
def BM.name : BM → Str
  | .append => "append" | .extend => "extend" | .pop => "pop" | .reverse => "reverse"
def bmSem (b : BM) (x : D) (ds : List D) (S : Sto) : Option (D × Sto) :=
  match x with
  | .loc a => match S[a]? with
    | some (.lst xs) => match b, ds with
      | .append, [d] => if xs.length < sizeLine then some (.non, S.set a (.lst (xs ++ [d]))) else none
      | .extend, [.loc c] => match S[c]? with
        | some (.lst ys) => if xs.length + ys.length ≤ sizeLine then some (.non, S.set a (.lst (xs ++ ys))) else none
        | _ => none
      | .pop, [] => xs[xs.length - 1]?.map fun d => (d, S.set a (.lst xs.dropLast))
      | .reverse, [] => some (.non, S.set a (.lst xs.reverse))
      | _, _ => none
    | _ => none
  | _ => none
/-- o[i] = d -/
def setSem (x y d : D) (S : Sto) : Option Sto :=
  match x with
  | .loc a => match S[a]?, y with
    | some (.lst xs), .int i => (ixN xs.length i).map fun j => S.set a (.lst (xs.set j d))
    | some (.dk kvs), .int i => if kvs.length < sizeLine then some (S.set a (.dk (putD kvs (.inl i) d))) else none
    | some (.dk kvs), .str z => if kvs.length < sizeLine then some (S.set a (.dk (putD kvs (.inr z) d))) else none
    | _, _ => none
  | _ => none
def putA (f : Str) (d : D) : List (Str × D) → List (Str × D)
  | [] => [(f, d)]
  | (g, x) :: r => if g = f then (g, d) :: r else (g, x) :: putA f d r
/-- o.f -/
def fldSem (x : D) (c : Nat) (f : Str) (S : Sto) : Option D :=
  match x with
  | .loc a => match S[a]? with
    | some (.ins c' fs) => if c' = c then fs.lookup f else none
    | _ => none
  | _ => none
/-- o.f = d -/
def putSem (x : D) (c : Nat) (f : Str) (d : D) (S : Sto) : Option Sto :=
  match x with
  | .loc a => match S[a]? with
    | some (.ins c' fs) => if c' = c ∧ fs.length < 1000 then some (S.set a (.ins c (putA f d fs))) else none
    | _ => none
  | _ => none
/-! ### the language -/
inductive Lit where
  | non | bl (b : Bool) | int (i : Int) | str (x : Str)
  deriving DecidableEq
def Lit.d : Lit → D
  | .non => .non | .bl b => .bl b | .int i => .int i | .str x => .str x
inductive Tg where
  | nm (i : Nat) | tp (is : List Nat)
  deriving DecidableEq
mutual
inductive Ex where
  | cst (l : Lit) | var (i : Nat) | glo (x : Str) | bty (n : String)
  | bin (o : Operator) (a b : Ex) | neg (a : Ex) | cmp (o : CmpOp) (a b : Ex) | chn (o o' : CmpOp) (a b c : Ex)
  | and_ (a b : Ex) | or_ (a b : Ex) | not_ (a : Ex) | ite (c a b : Ex)
  | fld (c : Nat) (o : Ex) (f : Str) | ix (o i : Ex) | sl (o : Ex) (lo hi : Ox)
  | tup (es : Exs) | lst (es : Exs) | dct0 (t : Bool)
  | cal (j : Nat) (es : Exs) | mk (c j : Nat) (es : Exs) | mth (c j : Nat) (o : Ex) (m : Str) (es : Exs) | bi (b : BI) (es : Exs) | bm (b : BM) (o : Ex) (es : Exs)
  | lc (own : List (Str × Nat)) (tg : Tg) (it : Ir) (ifs : Exs) (elt : Ex)
  | lrg (a b : Ex)
  | dctK (ks : List Str) (es : Exs) | calV (js : List Nat) (i : Nat) (es : Exs) | dget1 (o k : Ex) | dget2 (o k d : Ex) | dpop2 (o k d : Ex) | rev (e : Ex) | join (o e : Ex)
  | calK (j n : Nat) (ks : List Str) (pm : List Nat) (es kes : Exs) | mthK (c j : Nat) (o : Ex) (m : Str) (n : Nat) (ks : List Str) (pm : List Nat) (es kes : Exs)
  | dct1 (k e : Ex)
inductive Exs where
  | nil | cons (e : Ex) (es : Exs)
inductive Ox where
  | no | so (e : Ex)
inductive Ir where
  | ex (e : Ex) | rng1 (e : Ex) | rng2 (a b : Ex) | enum (e : Ex)
end
mutual
inductive Sm where
  | set (i : Nat) (e : Ex) | setT (is : List Nat) (e : Ex) | par (i j : Nat) (a b : Ex)
  | fld (c : Nat) (o : Ex) (f : Str) (e : Ex) | sub (o i e : Ex) | aug (i : Nat) (o : Operator) (e : Ex)
  | exp (e : Ex) | ret (e : Ex) | retN | ite (c : Ex) (a b : Sms) | whl (c : Ex) (b : Sms) | for_ (tg : Tg) (it : Ir) (b : Sms) | pass | brk | cnt
  | rai (c : Nat) (x : Str)
  | raiF (c : Nat) (x f : Str) (e : Ex) | raiF0 (c : Nat) (x f : Str) | try1 (b : Sms) (c : Nat) (x : Str) (i : Nat) (f : Str) (lit : Str) | forK (i v : Nat) (b : Sms) | sub2 (o1 i1 o2 i2 a b : Ex) | par3 (i j l : Nat) (a b c : Ex) | sub3 (o1 i1 o2 i2 o3 i3 a b c : Ex)
inductive Sms where
  | nil | cons (s : Sm) (ss : Sms)
end
/-! ### what a text does -/
inductive Out (α : Type) where
  | ok (a : α) (S : Sto) | err (c : Nat) (fs : Option (List (Str × D))) (S : Sto) | bad
def Out.bind {α β : Type} (x : Out α) (f : α → Sto → Out β) : Out β := match x with | .ok a S => f a S | .err c fs S => .err c fs S | .bad => .bad
def Out.of {α : Type} : Option (α × Sto) → Out α | some (a, S) => .ok a S | none => .bad
def Out.at {α : Type} (S : Sto) : Option α → Out α | some a => .ok a S | none => .bad
abbrev Sl := List (Option D)
inductive Walk where
  | vs (xs : List D) | li (a : Nat) | rng (lo : Int) (n : Nat) | en (w : Walk)
def wgo : Walk → Nat → Sto → Option (Option D)
  | .vs xs, i, _ => some xs[i]?
  | .li a, i, S => match S[a]? with | some (.lst xs) => some xs[i]? | _ => none
  | .rng lo n, i, _ => some (if i < n then some (.int (lo + i)) else none)
  | .en w, i, S => (wgo w i S).map fun o => o.map fun d => .tup [.int i, d]
def wlen : Walk → Sto → Nat
  | .vs xs, _ => xs.length
  | .li a, S => match S[a]? with | some (.lst xs) => xs.length | _ => 0
  | .rng _ n, _ => n
  | .en w, S => wlen w S
def wipeD (σ : Sl) : List Nat → Sl
  | [] => σ
  | v :: vs => (wipeD σ vs).set v none
def setTs : List Nat → List D → Sl → Option Sl
  | [], [], σ => some σ
  | i :: is, d :: ds, σ => setTs is ds (σ.set i (some d))
  | _, _, _ => none
def setTg : Tg → D → Sl → Option Sl
  | .nm i, d, σ => some (σ.set i (some d))
  | .tp is, .tup ds, σ => setTs is ds σ
  | .tp _, _, _ => none
/-- a comprehension's loop: k turns at most from turn i on -/
def lcLoop (w : Walk) (tg : Tg) (σ : Sl) (n : Nat) (test : Sl → Sto → Out Bool) (elt : Sl → Sto → Out D) : Nat → Nat → Sto → Out Unit
  | 0, i, S => match wgo w i S with | some none => .ok () S | _ => .bad
  | k + 1, i, S => match wgo w i S with
    | some none => .ok () S
    | none => .bad
    | some (some d) => match setTg tg d σ with
      | none => .bad
      | some σ' => match test σ' S with
        | .ok false S1 => lcLoop w tg σ n test elt k (i + 1) S1
        | .ok true S1 => match elt σ' S1 with
          | .ok v S2 => match S2[n]? with
            | some (.lst acc) => if acc.length < sizeLine then lcLoop w tg σ n test elt k (i + 1) (S2.set n (.lst (acc ++ [v]))) else .bad
            | _ => .bad
          | _ => .bad
        | _ => .bad
structure Pg where
  glo : Str → Option D
section
variable (P : Pg) (C : Nat → List D → Sto → Out D)
def walkOf (x : D) (S : Sto) : Option Walk :=
  match x with
  | .tup xs => some (.vs xs)
  | .rl xs => some (.vs xs)
  | .str z => some (.vs (charsD z))
  | .rd kvs => some (.vs ((kvs.map (·.1)).map D.str))
  | .loc a => match S[a]? with | some (.lst _) => some (.li a) | _ => none
  | _ => none
def walkL (x : D) (S : Sto) : Option Walk :=
  match x with
  | .tup xs => some (.vs xs)
  | .rl xs => some (.vs xs)
  | .loc a => match S[a]? with | some (.lst _) => some (.li a) | _ => none
  | _ => none
def rngOk (lo hi : Int) : Bool := decide (-(2 ^ 62) ≤ lo ∧ lo < 2 ^ 62 ∧ -(2 ^ 62) ≤ hi ∧ hi < 2 ^ 62)
def lrgOk (lo hi : Int) : Bool := decide (-(2 ^ 62) ≤ lo ∧ lo < 2 ^ 62 ∧ -(2 ^ 62) ≤ hi ∧ hi < 2 ^ 62 ∧ (hi - lo).toNat ≤ 2 ^ 24)
/-- the ints lo .. hi - 1 -/
def lrgD (lo hi : Int) : List D := (List.range (hi - lo).toNat).map fun i => D.int (lo + (i : Nat))
def cutOf (o : D) (S : Sto) : Out (Option Int) := match o with | .int i => .ok (some i) S | _ => .bad
def fin (b : Bool) (o : Out D) : Out D := if b = true then o.bind fun d S => .at S ((truSem d S).map D.bl) else o
def tstO (o : Out D) : Out Bool := o.bind fun d S => match d with | .bl t => .ok t S | _ => .bad
mutual
/-- b: as a test (whose answer is a bl), or as a value -/
def de : Ex → Bool → Sl → Sto → Out D
  | .cst l, b, _, S => fin b (.ok l.d S)
  | .var i, b, σ, S => fin b (match σ[i]? with | some (some d) => .ok d S | _ => .bad)
  | .glo x, b, _, S => fin b (match P.glo x with | some d => .ok d S | none => .bad)
  | .bty n, b, _, S => fin b (.ok (.ty n) S)
  | .bin o a c, b, σ, S => fin b ((de a false σ S).bind fun x S => (de c false σ S).bind fun y S => .of (opSem o x y S))
  | .neg a, b, σ, S => fin b ((de a false σ S).bind fun x S => match x with | .int i => .ok (.int (-i)) S | _ => .bad)
  | .cmp o a c, _, σ, S => (de a false σ S).bind fun x S => (de c false σ S).bind fun y S => .at S ((cmpSem o x y S).map D.bl)
  | .chn o o' a c e, _, σ, S => (de a false σ S).bind fun x S => (de c false σ S).bind fun y S => match cmpSem o x y S with
    | some true => (de e false σ S).bind fun z S => .at S ((cmpSem o' y z S).map D.bl)
    | some false => .ok (.bl false) S
    | none => .bad
  | .and_ a c, b, σ, S => (de a b σ S).bind fun x S => match truSem x S with | some true => de c b σ S | some false => .ok x S | none => .bad
  | .or_ a c, b, σ, S => (de a b σ S).bind fun x S => match truSem x S with | some true => .ok x S | some false => de c b σ S | none => .bad
  | .not_ a, b, σ, S => (de a b σ S).bind fun x S => .at S ((truSem x S).map fun b => D.bl (!b))
  | .ite t a c, b, σ, S => (tstO (de t true σ S)).bind fun t S => if t = true then de a b σ S else de c b σ S
  | .fld c o f, b, σ, S => fin b ((de o false σ S).bind fun x S => .at S (fldSem x c f S))
  | .ix o i, b, σ, S => fin b ((de o false σ S).bind fun x S => (de i false σ S).bind fun y S => .at S (itemSem x y S))
  | .sl o lo hi, b, σ, S => fin b ((de o false σ S).bind fun x S => (deO lo σ S).bind fun l S => (deO hi σ S).bind fun h S => .of (sliceSem x l h S))
  | .tup es, b, σ, S => fin b ((des es σ S).bind fun ds S => if ds.length ≤ sizeLine then .ok (.tup ds) S else .bad)
  | .lst es, b, σ, S => fin b ((des es σ S).bind fun ds S => if ds.length ≤ sizeLine then .ok (.loc S.length) (S ++ [.lst ds]) else .bad)
  | .dct0 t, b, _, S => fin b (.ok (.loc S.length) (S ++ [if t = true then .dt [] else .dk []]))
  | .cal j es, b, σ, S => fin b ((des es σ S).bind fun ds S => C j ds S)
  | .mk c j es, b, σ, S => fin b ((des es σ S).bind fun ds S => (C j (.loc S.length :: ds) (S ++ [.ins c []])).bind fun r S' => match r with | .non => .ok (.loc S.length) S' | _ => .bad)
  | .mth c j o m es, b, σ, S => fin b ((de o false σ S).bind fun x S => match x with
    | .loc a => match S[a]? with
      | some (.ins c' fs) => if c' = c ∧ fs.lookup m = none then (des es σ S).bind fun ds S => C j (x :: ds) S else .bad
      | _ => .bad
    | _ => .bad)
  | .bi f es, b, σ, S => fin b ((des es σ S).bind fun ds S => .of (biSem f ds S))
  | .bm f o es, b, σ, S => fin b ((de o false σ S).bind fun x S => match x with
    | .loc a => match S[a]? with
      | some (.lst _) => (des es σ S).bind fun ds S => .of (bmSem f x ds S)
      | _ => .bad
    | _ => .bad)
  | .lc own tg it ifs elt, b, σ, S => fin b ((deI it σ S).bind fun w S =>
      (lcLoop w tg (wipeD σ (own.map (·.2))) S.length (fun σ S => deT ifs σ S) (fun σ S => de elt false σ S) (wlen w S) 0 (S ++ [.lst []])).bind fun _ S' => .ok (.loc S.length) S')
  | .lrg a c, b, σ, S => fin b ((de a false σ S).bind fun x S => (de c false σ S).bind fun y S => match x, y with
    | .int i, .int j => if lrgOk i j = true then .ok (.loc S.length) (S ++ [.lst (lrgD i j)]) else .bad
    | _, _ => .bad)
  | .dctK ks es, b, σ, S => fin b ((des es σ (S ++ [.dk []])).bind fun ds S2 => match S2[S.length]? with
    | some (.dk []) => if ds.length = ks.length ∧ ks.length ≤ 15 then .ok (.loc S.length) (S2.set S.length (.dk (mergeD [] ((ks.map Sum.inr).zip ds)))) else .bad
    | _ => .bad)
  | .calV js i es, b, σ, S => fin b (match σ[i]? with
    | some (some (.fn j)) => if j ∈ js then (des es σ S).bind fun ds S => C j ds S else .bad
    | _ => .bad)
  | .dget1 o k, b, σ, S => fin b ((de o false σ S).bind fun x S => match x with
    | .loc a => match S[a]? with
      | some c => if isDk c = true then (de k false σ S).bind fun y S => match S[a]? with
          | some c => .at S ((dictAt c y).map fun o => o.getD .non)
          | none => .bad
        else .bad
      | none => .bad
    | _ => .bad)
  | .dget2 o k d, b, σ, S => fin b ((de o false σ S).bind fun x S => match x with
    | .loc a => match S[a]? with
      | some c => if isDk c = true then (de k false σ S).bind fun y S => (de d false σ S).bind fun z S => match S[a]? with
          | some c => .at S ((dictAt c y).map fun o => o.getD z)
          | none => .bad
        else .bad
      | none => .bad
    | _ => .bad)
  | .dpop2 o k d, b, σ, S => fin b ((de o false σ S).bind fun x S => match x with
    | .loc a => match S[a]? with
      | some c => if isDk c = true then (de k false σ S).bind fun y S => (de d false σ S).bind fun z S => match S[a]?, keyD y with
          | some (.dk kvs), some key => match lookK kvs key with
            | some v => .ok v (S.set a (.dk (dropD kvs key)))
            | none => .ok z S
          | _, _ => .bad
        else .bad
      | none => .bad
    | _ => .bad)
  | .rev e, b, σ, S => fin b ((de e false σ S).bind fun x S => match listD x S with
    | some xs => .ok (.loc S.length) (S ++ [.lst xs.reverse])
    | none => .bad)
  | .join o e, b, σ, S => fin b ((de o false σ S).bind fun x S => match x with
    | .str z => (de e false σ S).bind fun y S => match (seqD y S).bind strsD with
      | some ys => if (ys.map (·.length)).sum + ys.length * z.length ≤ 16777216 then .ok (.str (Txt.join z ys)) S else .bad
      | none => .bad
    | _ => .bad)
  | .calK j n ks pm es kes, b, σ, S => fin b ((des es σ S).bind fun ds S => (des kes σ S).bind fun zs S => if ds.length = n ∧ zs.length = ks.length then C j (pmL pm (ds ++ zs)) S else .bad)
  | .mthK c j o m n ks pm es kes, b, σ, S => fin b ((de o false σ S).bind fun x S => match x with
    | .loc a => match S[a]? with
      | some (.ins c' fs) => if c' = c ∧ fs.lookup m = none then (des es σ S).bind fun ds S => (des kes σ S).bind fun zs S => if ds.length + 1 = n ∧ zs.length = ks.length then C j (pmL pm (x :: ds ++ zs)) S else .bad else .bad
      | _ => .bad
    | _ => .bad)
  | .dct1 k e, b, σ, S => fin b ((de k false σ (S ++ [.dk []])).bind fun x S1 => (de e false σ S1).bind fun y S2 => match S2[S.length]?, keyD x with
    | some (.dk []), some key => .ok (.loc S.length) (S2.set S.length (.dk [(key, y)]))
    | _, _ => .bad)
def des : Exs → Sl → Sto → Out (List D)
  | .nil, _, S => .ok [] S
  | .cons e es, σ, S => (de e false σ S).bind fun d S => (des es σ S).bind fun ds S => .ok (d :: ds) S
/-- the tests of a comprehension: none or one -/
def deT : Exs → Sl → Sto → Out Bool
  | .nil, _, S => .ok true S
  | .cons e .nil, σ, S => tstO (de e true σ S)
  | .cons _ (.cons _ _), _, _ => .bad
def deO : Ox → Sl → Sto → Out (Option Int)
  | .no, _, S => .ok none S
  | .so e, σ, S => (de e false σ S).bind fun d S => cutOf d S
def deI : Ir → Sl → Sto → Out Walk
  | .ex e, σ, S => (de e false σ S).bind fun x S => .at S (walkOf x S)
  | .rng1 e, σ, S => (de e false σ S).bind fun x S => match x with | .int j => if rngOk 0 j = true then .ok (.rng 0 j.toNat) S else .bad | _ => .bad
  | .rng2 a c, σ, S => (de a false σ S).bind fun x S => (de c false σ S).bind fun y S => match x, y with
    | .int i, .int j => if rngOk i j = true then .ok (.rng i (j - i).toNat) S else .bad
    | _, _ => .bad
  | .enum e, σ, S => (de e false σ S).bind fun x S => match walkL x S with | some w => .ok (.en w) S | none => .bad
end
/-! ### statements -/
inductive OutS where
  | nx (σ : Sl) (S : Sto) | rt (d : D) (S : Sto) | bk (σ : Sl) (S : Sto) | ct (σ : Sl) (S : Sto) | err (c : Nat) (fs : Option (List (Str × D))) (σ : Sl) (S : Sto) | bad
def Out.thn {α : Type} (x : Out α) (σ : Sl) (f : α → Sto → OutS) : OutS := match x with | .ok a S => f a S | .err c fs S => .err c fs σ S | .bad => .bad
def OutS.nxt (x : OutS) (f : Sl → Sto → OutS) : OutS := match x with | .nx σ S => f σ S | x => x
/-- a while, n tests at most -/
def whlN (t : Sl → Sto → Out Bool) (b : Sl → Sto → OutS) : Nat → Sl → Sto → OutS
  | 0, _, _ => .bad
  | n + 1, σ, S => (t σ S).thn σ fun k S1 => if k = true then match b σ S1 with
      | .nx σ' S' => whlN t b n σ' S'
      | .ct σ' S' => whlN t b n σ' S'
      | .bk σ' S' => .nx σ' S'
      | x => x
    else .nx σ S1
open Classical in
noncomputable def whl (t : Sl → Sto → Out Bool) (b : Sl → Sto → OutS) (σ : Sl) (S : Sto) : OutS :=
  if h : ∃ n, whlN t b n σ S ≠ .bad then whlN t b (choose h) σ S else .bad
def forN (w : Walk) (tg : Tg) (b : Sl → Sto → OutS) : Nat → Nat → Sl → Sto → OutS
  | 0, i, σ, S => match wgo w i S with | some none => .nx σ S | _ => .bad
  | k + 1, i, σ, S => match wgo w i S with
    | some none => .nx σ S
    | none => .bad
    | some (some d) => match setTg tg d σ with
      | none => .bad
      | some σ' => match b σ' S with
        | .nx σ' S' => forN w tg b k (i + 1) σ' S'
        | .ct σ' S' => forN w tg b k (i + 1) σ' S'
        | .bk σ' S' => .nx σ' S'
        | x => x
def keyD' : Key → D
  | .inl i => .int i
  | .inr x => .str x
/-- behind the walk over a dict -/
def unfk (a : Nat) (kvs : List (Key × D)) (o : OutS) : OutS :=
  match o with
  | .nx σ S => match S[a]? with | some (.fk _) => .nx σ (S.set a (.dk kvs)) | _ => .bad
  | .rt d S => match S[a]? with | some (.fk _) => .rt d (S.set a (.dk kvs)) | _ => .bad
  | _ => .bad
mutual
noncomputable def dS : Sm → Sl → Sto → OutS
  | .set i e, σ, S => (de P C e false σ S).thn σ fun d S => .nx (σ.set i (some d)) S
  | .setT is e, σ, S => (de P C e false σ S).thn σ fun d S => match setTg (.tp is) d σ with | some σ' => .nx σ' S | none => .bad
  | .par i j a b, σ, S => (de P C a false σ S).thn σ fun x S => (de P C b false σ S).thn σ fun y S => .nx ((σ.set i (some x)).set j (some y)) S
  | .fld c o f e, σ, S => (de P C e false σ S).thn σ fun d S => (de P C o false σ S).thn σ fun x S => match putSem x c f d S with | some S' => .nx σ S' | none => .bad
  | .sub o i e, σ, S => (de P C e false σ S).thn σ fun d S => (de P C o false σ S).thn σ fun x S => (de P C i false σ S).thn σ fun y S => match setSem x y d S with | some S' => .nx σ S' | none => .bad
  | .aug i o e, σ, S => match σ[i]? with
    | some (some x) => (de P C e false σ S).thn σ fun y S => match x, y, o with
      | .int a, .int b, .Add => .nx (σ.set i (some (.int (a + b)))) S
      | .int a, .int b, .Sub => .nx (σ.set i (some (.int (a - b)))) S
      | _, _, _ => .bad
    | _ => .bad
  | .exp e, σ, S => (de P C e false σ S).thn σ fun _ S => .nx σ S
  | .ret e, σ, S => (de P C e false σ S).thn σ fun d S => .rt d S
  | .retN, _, S => .rt .non S
  | .ite c a b, σ, S => (tstO (de P C c true σ S)).thn σ fun t S => if t = true then dSs a σ S else dSs b σ S
  | .whl c b, σ, S => whl (fun σ S => tstO (de P C c true σ S)) (fun σ S => dSs b σ S) σ S
  | .for_ tg it b, σ, S => (deI P C it σ S).thn σ fun w S => forN w tg (fun σ S => dSs b σ S) (wlen w S) 0 σ S
  | .pass, σ, S => .nx σ S
  | .brk, σ, S => .bk σ S
  | .cnt, σ, S => .ct σ S
  | .rai c _, σ, S => .err c none σ S
  | .raiF c _ f e, σ, S => (de P C e false σ S).thn σ fun d S => .err c (some [(f, d)]) σ S
  | .raiF0 c _ f, σ, S => .err c (some [(f, .non)]) σ S
  | .try1 b c _ _ f lit, σ, S => match dSs b σ S with
    | .err c' fs _ S' => if c' = c then (match fs with
      | some l => match l.lookup f with
        | some d => .rt (.tup [.str lit, d]) S'
        | none => .bad
      | none => .bad) else .bad
    | x => x
  | .forK i v b, σ, S => match σ[v]? with
    | some (some (.loc a)) => match S[a]? with
      | some (.dk kvs) => unfk a kvs (forN (.vs (kvs.map fun kv => keyD' kv.1)) (.nm i) (fun σ S => dSs b σ S) kvs.length 0 σ (S.set a (.fk kvs)))
      | _ => .bad
    | _ => .bad
  | .sub2 o1 i1 o2 i2 e1 e2, σ, S => (de P C e1 false σ S).thn σ fun d1 S => (de P C e2 false σ S).thn σ fun d2 S => (de P C o1 false σ S).thn σ fun x1 S => (de P C i1 false σ S).thn σ fun y1 S => match setSem x1 y1 d1 S with
    | some S => (de P C o2 false σ S).thn σ fun x2 S => (de P C i2 false σ S).thn σ fun y2 S => match setSem x2 y2 d2 S with | some S => .nx σ S | none => .bad
    | none => .bad
  | .par3 i j l a b c, σ, S => (de P C a false σ S).thn σ fun x S => (de P C b false σ S).thn σ fun y S => (de P C c false σ S).thn σ fun z S => .nx (((σ.set i (some x)).set j (some y)).set l (some z)) S
  | .sub3 o1 i1 o2 i2 o3 i3 e1 e2 e3, σ, S => (de P C e1 false σ S).thn σ fun d1 S => (de P C e2 false σ S).thn σ fun d2 S => (de P C e3 false σ S).thn σ fun d3 S => (de P C o1 false σ S).thn σ fun x1 S => (de P C i1 false σ S).thn σ fun y1 S => match setSem x1 y1 d1 S with
    | some S => (de P C o2 false σ S).thn σ fun x2 S => (de P C i2 false σ S).thn σ fun y2 S => match setSem x2 y2 d2 S with
      | some S => (de P C o3 false σ S).thn σ fun x3 S => (de P C i3 false σ S).thn σ fun y3 S => match setSem x3 y3 d3 S with | some S => .nx σ S | none => .bad
      | none => .bad
    | none => .bad
noncomputable def dSs : Sms → Sl → Sto → OutS
  | .nil, σ, S => .nx σ S
  | .cons s ss, σ, S => (dS s σ S).nxt fun σ S => dSs ss σ S
end
end
end DI

set_option Elab.async false
set_option linter.all false
set_option maxRecDepth 100000
set_option maxHeartbeats 4000000
/-! == of a plain value and a dict: never equal. -/
namespace DI
open PySem PySem.Calls PySem.SeqAt MeetsSeq
open AutoSeq1 (wpAny_loadPart')
/-- what a dict's own == says of a plain value -/
theorem dict_no {l : Addr} {x : Value} {cls : Value} {dd : Option Addr} {es : Array DictEntry} {ep : Nat} {sl : Array (Option Value)} (hx : x = .none ∨ (∃ b, x = .bool b) ∨ (∃ i t, x = .int i t) ∨ ∃ z t, x = .str z t) :
    Meets (Builtin.«dict.__eq__» ⟨[.ref l, x], []⟩) (fun _ R s => s.heap.get? l = some { cls := .type "dict", dict := dd, data := .dict es ep, slots := sl } ∧ R (.ok (.ret .notImplemented)) s) := by
  refine .of_wp fun prog w A R s h => ?_
  obtain ⟨hp, g, d, tk, os⟩ := s
  obtain ⟨hl, h⟩ := h
  have f1 := F.sub_NoneType_dict
  have f2 := F.sub_bool_dict
  have f3 := F.sub_int_dict
  have f4 := F.sub_str_dict
  rcases hx with rfl | ⟨b, rfl⟩ | ⟨i, t, rfl⟩ | ⟨z, t, rfl⟩
  · wp_walk using wpAny_loadPart' hl; exact ⟨_, rfl, h⟩
  · wp_walk using wpAny_loadPart' hl; exact ⟨_, rfl, h⟩
  · wp_walk using wpAny_loadPart' hl; exact ⟨_, rfl, h⟩
  · wp_walk using wpAny_loadPart' hl; exact ⟨_, rfl, h⟩
theorem int_no {l : Addr} {x : Value} {dd : Option Addr} {es : Array DictEntry} {ep : Nat} {sl : Array (Option Value)} (hx : (∃ b, x = .bool b) ∨ (∃ i t, x = .int i t)) :
    Meets (Builtin.«int.__eq__» ⟨[x, .ref l], []⟩) (fun _ R s => s.heap.get? l = some { cls := .type "dict", dict := dd, data := .dict es ep, slots := sl } ∧ R (.ok (.ret .notImplemented)) s) := by
  refine .of_wp fun prog w A R s h => ?_
  obtain ⟨hp, g, d, tk, os⟩ := s
  obtain ⟨hl, h⟩ := h
  rcases hx with ⟨b, rfl⟩ | ⟨i, t, rfl⟩
  · wp_walk using wpAny_loadPart' hl, wpAny_load hl; exact ⟨_, rfl, h⟩
  · wp_walk using wpAny_loadPart' hl, wpAny_load hl; exact ⟨_, rfl, h⟩
theorem str_no {l : Addr} {z : Str} {t : Tok} {dd : Option Addr} {es : Array DictEntry} {ep : Nat} {sl : Array (Option Value)} :
    Meets (Builtin.«str.__eq__» ⟨[.str z t, .ref l], []⟩) (fun _ R s => s.heap.get? l = some { cls := .type "dict", dict := dd, data := .dict es ep, slots := sl } ∧ R (.ok (.ret .notImplemented)) s) := by
  refine .of_wp fun prog w A R s h => ?_
  obtain ⟨hp, g, d, tk, os⟩ := s
  obtain ⟨hl, h⟩ := h
  wp_walk using wpAny_loadPart' hl, wpAny_load hl; exact ⟨_, rfl, h⟩
section
variable {A : Around} {s : Shared}
theorem rc_dict {l : Addr} {x : Value} {o : Obj} {es : Array DictEntry} {ep : Nat} (ho : s.heap.get? l = some o) (hc : o.cls = .type "dict") (hd : o.data = .dict es ep) (hu : A.units < cLine)
    (hx : x = .none ∨ (∃ b, x = .bool b) ∨ (∃ i t, x = .int i t) ∨ ∃ z t, x = .str z t) : RcAt A s x (.ref l) false := fun prog w E Q h => by
  obtain ⟨cls, dd, data, sl⟩ := o
  simp only at hc hd
  subst hc hd
  have hdn := dict_no (l := l) (x := x) (cls := .none) (dd := dd) (es := es) (ep := ep) (sl := sl) hx
  rcases hx with rfl | ⟨b, rfl⟩ | ⟨i, t, rfl⟩ | ⟨z, t, rfl⟩
  · exact rc_eq_decline_or (k := false) rfl ⟨_, ho, rfl⟩ (by decide) F.sub_dict_NoneType F.slot_NoneType_eq F.slot_dict_eq_refl
      (fun _ hq => call_gives F.slot_NoneType_eq rfl F.entry_NoneType_eq (F.args_NoneType_eq_2 _ _) (NoneType___eq___none_ref_0 l) hq)
      (fun _ hq => call_meets F.slot_dict_eq_refl ⟨_, ho, rfl⟩ F.entry_dict_eq (F.args_dict_eq_2 _ _) hdn ⟨ho, hq⟩)
      (fun _ hq => wpAny_of_eq (rfl : isSame .none (.ref l) = pure false) hq) (.inr hu) h
  · exact rc_eq_decline_or (k := false) rfl ⟨_, ho, rfl⟩ (by decide) F.sub_dict_bool F.slot_bool_eq F.slot_dict_eq_refl
      (fun _ hq => call_meets F.slot_bool_eq rfl F.entry_int_eq (F.args_int_eq_2 _ _) (int_no (l := l) (.inl ⟨b, rfl⟩)) ⟨ho, hq⟩)
      (fun _ hq => call_meets F.slot_dict_eq_refl ⟨_, ho, rfl⟩ F.entry_dict_eq (F.args_dict_eq_2 _ _) hdn ⟨ho, hq⟩)
      (fun _ hq => wpAny_of_eq (rfl : isSame (.bool b) (.ref l) = pure false) hq) (.inr hu) h
  · exact rc_eq_decline_or (k := false) (typeIs_int s i t) ⟨_, ho, rfl⟩ (by decide) F.sub_dict_int F.slot_int_eq F.slot_dict_eq_refl
      (fun _ hq => call_meets F.slot_int_eq (typeIs_int s i t) F.entry_int_eq (F.args_int_eq_2 _ _) (int_no (l := l) (.inr ⟨i, t, rfl⟩)) ⟨ho, hq⟩)
      (fun _ hq => call_meets F.slot_dict_eq_refl ⟨_, ho, rfl⟩ F.entry_dict_eq (F.args_dict_eq_2 _ _) hdn ⟨ho, hq⟩)
      (fun _ hq => wpAny_of_eq (rfl : isSame (.int i t) (.ref l) = pure false) hq) (.inr hu) h
  · exact rc_eq_decline_or (k := false) (typeIs_str s z t) ⟨_, ho, rfl⟩ (by decide) F.sub_dict_str F.slot_str_eq F.slot_dict_eq_refl
      (fun _ hq => call_meets F.slot_str_eq (typeIs_str s z t) F.entry_str_eq (F.args_str_eq_2 _ _) (str_no (l := l)) ⟨ho, hq⟩)
      (fun _ hq => call_meets F.slot_dict_eq_refl ⟨_, ho, rfl⟩ F.entry_dict_eq (F.args_dict_eq_2 _ _) hdn ⟨ho, hq⟩)
      (fun _ hq => wpAny_of_eq (rfl : isSame (.str z t) (.ref l) = pure false) hq) (.inr hu) h
end
open L2 PyProof.Rows
variable {X : Cx}
/-- a plain value == a dict -/
theorem op_eqFD (hu : X.A.units < cLine) : OpR X (compareOp .Eq) (fun x y H Q => flatV x = true ∧ (∃ a kvs, y = .ref a ∧ Rd H a (.dK kvs)) ∧ Q (.bl false) H) := by
  intro pins s σ H x y v u Q I rx ry h
  obtain ⟨hf, ⟨a, kvs, rfl, rd⟩, q⟩ := h
  obtain rfl : u = Value.ref a := ry
  have hx : v = .none ∨ (∃ b, v = .bool b) ∨ (∃ i t, v = .int i t) ∨ ∃ z t, v = .str z t := by
    cases x <;> first | cases hf | skip
    · cases rx; exact .inl rfl
    · cases rx; exact .inr (.inl ⟨_, rfl⟩)
    · obtain ⟨t, rfl⟩ := rx; exact .inr (.inr (.inl ⟨_, _, rfl⟩))
    · obtain ⟨t, rfl⟩ := rx; exact .inr (.inr (.inr ⟨_, _, rfl⟩))
  obtain ⟨_, _, vs, _, o, es, ep, ho, he, hd, _⟩ := dk_rd I.hok rd
  exact rc_dict ho he.1 hd hu hx X.prog X.w X.xe (EP X pins σ Q) ⟨.bl false, H, I, rfl, q⟩
end DI

set_option Elab.async false
set_option linter.all false
set_option maxRecDepth 100000
set_option maxHeartbeats 4000000
/-! Each operation of the model upon values that the heap bears: it gives what the language says. -/
namespace DI
open L2 PySem PySem.Spec PyProof.Rows

/-- what is wanted of a step that gives a value and a store -/
def PO (A : Ad) (m : List Addr) (H : Hp) (r : Option (D × Sto)) (Q : VK) : Prop :=
  match r with
  | some (d, S') => ∀ m' H' v, Ext A m H m' H' → Rep A m' S' H' → RepD A m' H' d v → Q v H'
  | none => False
def PB (r : Option Bool) (Q : Bool → Prop) : Prop := match r with | some b => Q b | none => False
def PD (A : Ad) (m : List Addr) (H : Hp) (r : Option D) (Q : VK) : Prop := match r with | some d => ∀ v, RepD A m H d v → Q v H | none => False
def rOp (A : Ad) (o : Operator) : R2 := fun x y H Q => ∃ m S dx dy, Rep A m S H ∧ RepD A m H dx x ∧ RepD A m H dy y ∧ PO A m H (opSem o dx dy S) Q
def rCmp (A : Ad) (o : CmpOp) : R2 := fun x y H Q => ∃ m S dx dy, Rep A m S H ∧ RepD A m H dx x ∧ RepD A m H dy y ∧ PB (cmpSem o dx dy S) fun b => Q (.bl b) H
def rItem (A : Ad) : R2 := fun x y H Q => ∃ m S dx dy, Rep A m S H ∧ RepD A m H dx x ∧ RepD A m H dy y ∧ PD A m H (itemSem dx dy S) Q
def rSlice (A : Ad) : V → Option Int → Option Int → Hp → VK → Prop := fun x lo hi H Q => ∃ m S dx, Rep A m S H ∧ RepD A m H dx x ∧ PO A m H (sliceSem dx lo hi S) Q
def rBi (A : Ad) (b : BI) : List V → Hp → VK → Prop := fun vs H Q => ∃ m S ds, Rep A m S H ∧ RepL A m H ds vs ∧ PO A m H (biSem b ds S) Q
def rBm (A : Ad) (b : BM) : V → List V → Hp → VK → Prop := fun x vs H Q => ∃ m S dx ds, Rep A m S H ∧ RepD A m H dx x ∧ RepL A m H ds vs ∧ PO A m H (bmSem b dx ds S) Q
def rSetI (A : Ad) : TSet := fun x y v H Q => ∃ m S dx dy d, Rep A m S H ∧ RepD A m H dx x ∧ RepD A m H dy y ∧ RepD A m H d v ∧
  match setSem dx dy d S with | some S' => ∀ m' H', Ext A m H m' H' → Rep A m' S' H' → Q H' | none => False

section
variable {X : Cx} {A : Ad} {m : List Addr} {S : Sto} {H : Hp} {p : Addr} {ds : List D} {vs : List V}
theorem newLst (R : Rep A m S H) (L : RepL A m H ds vs) (hp : H p = none) :
    Rep A (m ++ [p]) (S ++ [.lst ds]) (upd H p (.lst vs)) ∧ Ext A m H (m ++ [p]) (upd H p (.lst vs)) ∧ RepD A (m ++ [p]) (upd H p (.lst vs)) (.loc S.length) (.ref p) :=
  ⟨R.alloc hp (.lst upd_same (L.mono (Ext.new hp).more)), (Ext.new hp).more, .loc (by rw [← R.len, List.getElem?_append_right (Nat.le_refl _), Nat.sub_self] <;> rfl)⟩
theorem newDk {kvs : List (Key × D)} {ws : List (Key × V)} (R : Rep A m S H) (L : RepK A m H kvs ws) (hp : H p = none) :
    Rep A (m ++ [p]) (S ++ [.dk kvs]) (upd H p (.dK ws)) ∧ Ext A m H (m ++ [p]) (upd H p (.dK ws)) ∧ RepD A (m ++ [p]) (upd H p (.dK ws)) (.loc S.length) (.ref p) := by
  have e : Ext A m H (m ++ [p]) (upd H p (.dK ws)) := (Ext.new hp).more
  refine ⟨R.alloc hp (.dk upd_same (RepK.mono e L)), e, .loc ?_⟩
  rw [← R.len, List.getElem?_append_right (Nat.le_refl _), Nat.sub_self] <;> rfl
theorem newTup (R : Rep A m S H) (L : RepL A m H ds vs) (hp : H p = none) :
    Rep A m S (upd H p (.tup vs)) ∧ Ext A m H m (upd H p (.tup vs)) ∧ RepD A m (upd H p (.tup vs)) (.tup ds) (.ref p) :=
  ⟨R.new hp, Ext.new hp, .tup (SqT.of upd_same) (L.mono (Ext.new hp))⟩
theorem Rep.lst (R : Rep A m S H) {i : Nat} {xs : List D} (h : S[i]? = some (.lst xs)) : ∃ a vs, m[i]? = some a ∧ H a = some (.lst vs) ∧ RepL A m H xs vs := by
  obtain ⟨a, h1, h2⟩ := R.cell i _ h
  cases h2 with
  | lst e l => exact ⟨a, _, h1, e, l⟩
theorem Rep.fk (R : Rep A m S H) {i : Nat} {xs : List (Key × D)} (h : S[i]? = some (.fk xs)) : ∃ a od ws, m[i]? = some a ∧ H a = some (.frz od (.dK ws)) ∧ RepK A m H xs ws := by
  obtain ⟨a, h1, h2⟩ := R.cell i _ h
  cases h2 with
  | fk e l => exact ⟨a, _, _, h1, e, l⟩
theorem Rep.dk (R : Rep A m S H) {i : Nat} {xs : List (Key × D)} (h : S[i]? = some (.dk xs)) : ∃ a ws, m[i]? = some a ∧ H a = some (.dK ws) ∧ RepK A m H xs ws := by
  obtain ⟨a, h1, h2⟩ := R.cell i _ h
  cases h2 with
  | dk e l => exact ⟨a, _, h1, e, l⟩
theorem Rep.dt (R : Rep A m S H) {i : Nat} {xs : List (List Key × D)} (h : S[i]? = some (.dt xs)) : ∃ a ws, m[i]? = some a ∧ H a = some (.dT ws) ∧ RepK A m H xs ws := by
  obtain ⟨a, h1, h2⟩ := R.cell i _ h
  cases h2 with
  | dt e l => exact ⟨a, _, h1, e, l⟩
theorem Rep.ins (R : Rep A m S H) {i c : Nat} {fs : List (Str × D)} (h : S[i]? = some (.ins c fs)) : ∃ a dx ws, m[i]? = some a ∧ H a = some (.ins (A.cl c) dx ws) ∧ RepK A m H fs ws := by
  obtain ⟨a, h1, h2⟩ := R.cell i _ h
  cases h2 with
  | ins e l => exact ⟨a, _, _, h1, e, l⟩
/-- a list cell is written -/
theorem Rep.setLst (R : Rep A m S H) {i : Nat} {a : Addr} {ws : List V} (h1 : m[i]? = some a) (h2 : H a = some (.lst ws)) (L : RepL A m H ds vs) :
    Rep A m (S.set i (.lst ds)) (upd H a (.lst vs)) ∧ Ext A m H m (upd H a (.lst vs)) := by
  have e : Ext A m H m (upd H a (.lst vs)) := Ext.write h2 (fun _ z => by cases z) fun _ _ z => by cases z
  exact ⟨R.write h1 e (.lst upd_same (L.mono e)), e⟩
theorem RepK.length {κ : Type} : ∀ {kvs : List (κ × D)} {ws : List (κ × V)}, RepK A m H kvs ws → ws.length = kvs.length
  | _, _, .nil => rfl
  | _, _, .cons _ b => by rw [List.length_cons, List.length_cons, RepK.length b]
theorem RepL.cut (L : RepL A m H ds vs) (lo hi : Option Int) : RepL A m H (cutL ds lo hi) (cutV vs lo hi) := by
  unfold cutL cutV
  rw [L.length]
  exact (L.drop _).take _
theorem RepL.flat (L : RepL A m H ds vs) : ∀ k : Nat, RepL A m H (List.replicate k ds).flatten (List.replicate k vs).flatten
  | 0 => .nil
  | k + 1 => by rw [List.replicate_succ, List.replicate_succ, List.flatten_cons, List.flatten_cons]; exact L.app (RepL.flat L k)
theorem RepL.nil_iff (L : RepL A m H ds vs) : vs = [] ↔ ds = [] := by cases L <;> simp

theorem size_fold : ∀ (n : Nat) (b acc : Array Nat), ((List.replicate n b).foldl (· ++ ·) acc).size = acc.size + n * b.size
  | 0, b, acc => by simp
  | n + 1, b, acc => by
    rw [List.replicate_succ, List.foldl_cons, size_fold n b (acc ++ b), Array.size_append, Nat.succ_mul]
    omega
theorem rep_len (z : Str) (n : Nat) : (repS z n).length = n * z.length := by
  show ((List.replicate n z.cps).foldl (· ++ ·) #[]).size = _
  rw [size_fold]
  show 0 + n * z.cps.size = n * z.cps.size
  omega
/-- a text times a number -/
theorem op_mulS : OpR X (binaryOp .Mult) (fun x y H Q => ∃ z k, x = .str z ∧ y = .int k ∧ 0 ≤ k ∧ k ≤ 1000 ∧ 1 ≤ z.length ∧ z.length ≤ 1000 ∧ Q (.str (repS z k.toNat)) H) := by
  intro pz t τ HH x y v u Q J rx ry h
  obtain ⟨z, k, rfl, rfl, h1, h2, h3, h4, q⟩ := h
  obtain ⟨tv, rfl⟩ := rx
  obtain ⟨tu, rfl⟩ := ry
  have hlen : z.length * k.toNat ≤ 1000000 := by
    have : z.length * k.toNat ≤ 1000 * 1000 := Nat.mul_le_mul h4 (by omega)
    omega
  refine PySem.P.mul_str ?_ (fun c1 _ => ?_) (fun _ _ => ?_) ?_
  · rw [decide_eq_false (by omega), decide_eq_false (by omega)] <;> rfl
  · have g : (1000 : Int) ≤ (2 ^ 63 - 1) / k := by
      rw [Int.le_ediv_iff_mul_le (by omega)]
      omega
    omega
  · show decide (z.length * k.toNat > sizeLine) = false
    rw [sizeLine_eq]
    exact decide_eq_false (by omega)
  · by_cases c1 : k < 1
    · have hk : k = 0 := by omega
      subst hk
      rw [if_pos c1]
      exact ⟨by decide, .str (repS z 0), HH, J.tok _, ⟨_, rfl⟩, q⟩
    · rw [if_neg c1]
      by_cases c3 : k = 1
      · subst c3
        rw [if_pos (by simp)]
        have e : repS z (1 : Int).toNat = z := by
          show (⟨#[] ++ z.cps⟩ : Str) = z
          rw [Array.empty_append]
        rw [e] at q
        exact ⟨.str z, HH, J, ⟨_, rfl⟩, q⟩
      · have c2 : (k == 1 || z.length == 0) = false := by
          rw [Bool.or_eq_false_iff, beq_eq_false_iff_ne, beq_eq_false_iff_ne]
          omega
        rw [if_neg (by rw [c2]; decide)]
        refine ⟨?_, .str (repS z k.toNat), HH, J.tok _, ⟨_, rfl⟩, q⟩
        show (repS z k.toNat).length ≤ sizeLine
        rw [rep_len, sizeLine_eq, Nat.mul_comm]
        omega
theorem op_ok (hK : A.K = X.K) (o : Operator) : OpR X (binaryOp o) (rOp A o) := by
  intro pins s σ H x y v u Q I rx ry h
  obtain ⟨m, S, dx, dy, R, r1, r2, p⟩ := h
  cases o <;> (try exact (show False from p).elim) <;> cases dx <;> (try exact (show False from p).elim) <;> cases dy <;> (try exact (show False from p).elim)
  · cases r1; cases r2
    exact op_add pins s σ H _ _ v u Q I rx ry ⟨_, _, rfl, rfl, p m H _ Ext.refl R (.int _)⟩
  · cases r1; cases r2
    rename_i i j
    unfold opSem at p
    dsimp only at p
    split at p
    · exact op_add_str pins s σ H _ _ v u Q I rx ry ⟨_, _, rfl, rfl, by assumption, p m H _ Ext.refl R (.str _)⟩
    · exact p.elim
  · rename_i xs ys
    cases r1 with
    | tup t1 l1 =>
    cases r2 with
    | tup t2 l2 =>
    unfold opSem at p
    dsimp only at p
    split at p
    · refine op_catA pins s σ H _ _ v u Q I rx ry ⟨_, _, _, _, rfl, rfl, hK ▸ t1, hK ▸ t2, by rw [l1.length, l2.length]; assumption, fun e => ?_, fun _ e => ?_, fun _ _ q hq => ?_⟩
      · have e' := l1.nil_iff.mp e
        subst e'
        exact p m H _ Ext.refl R (.tup t2 l2)
      · have e' := l2.nil_iff.mp e
        subst e'
        refine p m H _ Ext.refl R ?_
        rw [List.append_nil]
        exact .tup t1 l1
      · obtain ⟨a, b, c⟩ := newTup R (l1.app l2) hq
        exact p m _ _ b a c
    · exact p.elim
  · rename_i a b
    cases r1 with
    | loc e1 =>
    cases r2 with
    | loc e2 =>
    unfold opSem at p
    dsimp only at p
    split at p
    · rename_i xs ys h1 h2
      split at p
      · obtain ⟨a1, v1, m1, g1, l1⟩ := R.lst h1
        obtain ⟨a2, v2, m2, g2, l2⟩ := R.lst h2
        rw [e1] at m1; cases m1
        rw [e2] at m2; cases m2
        refine op_cat pins s σ H _ _ v u Q I rx ry ⟨_, _, _, _, rfl, rfl, g1, g2, by rw [l1.length, l2.length]; assumption, fun q hq => ?_⟩
        obtain ⟨a, b, c⟩ := newLst R (l1.app l2) hq
        exact p _ _ _ b a c
      · exact p.elim
    · exact p.elim
  · cases r1; cases r2
    exact op_sub pins s σ H _ _ v u Q I rx ry ⟨_, _, rfl, rfl, p m H _ Ext.refl R (.int _)⟩
  · cases r1; cases r2
    unfold opSem at p
    dsimp only at p
    split at p
    · exact op_mul pins s σ H _ _ v u Q I rx ry ⟨_, _, rfl, rfl, by assumption, p m H _ Ext.refl R (.int _)⟩
    · exact p.elim
  · cases r1; cases r2
    rename_i z k
    unfold opSem at p
    dsimp only at p
    split at p
    · rename_i hz
      exact op_mulS pins s σ H _ _ v u Q I rx ry ⟨_, _, rfl, rfl, hz.1, hz.2.1, hz.2.2.1, hz.2.2.2, p m H _ Ext.refl R (.str _)⟩
    · exact p.elim
  · rename_i a k
    cases r1 with
    | tup t1 l1 =>
    cases r2
    unfold opSem at p
    dsimp only at p
    split at p
    · rename_i hz
      have hne : ∀ {vs : List V}, RepL A m H a vs → vs ≠ [] := by
        intro vs l e
        subst e
        cases l
        exact hz.1 rfl
      refine op_repT pins s σ H _ _ v u Q I rx ry ⟨_, _, _, rfl, rfl, hK ▸ t1, hne l1, hz.2.1, hz.2.2.1, by rw [l1.length]; exact hz.2.2.2, fun q hq => ?_⟩
      obtain ⟨a, b, c⟩ := newTup R (l1.flat k.toNat) hq
      exact p _ _ _ b a c
    · exact p.elim
  · rename_i a k
    cases r1 with
    | loc e1 =>
    cases r2
    unfold opSem at p
    dsimp only at p
    split at p
    · rename_i xs h1
      split at p
      · rename_i hz
        obtain ⟨a1, v1, m1, g1, l1⟩ := R.lst h1
        rw [e1] at m1; cases m1
        refine op_rep pins s σ H _ _ v u Q I rx ry ⟨_, _, _, rfl, rfl, g1, hz.1, hz.2.1, by rw [l1.length]; exact hz.2.2, fun q hq => ?_⟩
        obtain ⟨a, b, c⟩ := newLst R (l1.flat k.toNat) hq
        exact p _ _ _ b a c
      · exact p.elim
    · exact p.elim
  · cases r1; cases r2
    unfold opSem at p
    dsimp only at p
    split at p
    · exact op_mod pins s σ H _ _ v u Q I rx ry ⟨_, _, rfl, rfl, by assumption, p m H _ Ext.refl R (.int _)⟩
    · exact p.elim
  · cases r1; cases r2
    unfold opSem at p
    dsimp only at p
    split at p
    · exact op_pow pins s σ H _ _ v u Q I rx ry ⟨_, _, rfl, rfl, by assumption, p m H _ Ext.refl R (.int _)⟩
    · exact p.elim
  · cases r1; cases r2
    unfold opSem at p
    dsimp only at p
    split at p
    · exact op_fdiv pins s σ H _ _ v u Q I rx ry ⟨_, _, rfl, rfl, by assumption, p m H _ Ext.refl R (.int _)⟩
    · exact p.elim

/-! comparisons -/
mutual
theorem dp_of (R : Rep A m S H) : ∀ (n : Nat) (d : D) (v : V) (q : PyData), toP S n d = some q → RepD A m H d v → Dp A.K H v q
  | 0, d, v, q, h, r => by simp [toP] at h
  | n + 1, d, v, q, h, r => by
    cases r with
    | non => simp only [toP] at h; cases h; exact .non
    | bl b => simp only [toP] at h; cases h; exact .bl b
    | int b => simp only [toP] at h; cases h; exact .int b
    | str b => simp only [toP] at h; cases h; exact .str b
    | ty b => simp only [toP] at h; cases h
    | fn b => simp only [toP] at h; cases h
    | cl b => simp only [toP] at h; cases h
    | rd _ _ _ => simp only [toP] at h; cases h
    | tup t l =>
      simp only [toP, Option.map_eq_some_iff] at h
      obtain ⟨ps, h1, rfl⟩ := h
      exact .tup t (dpAll_of R n _ _ _ h1 l)
    | rl t l =>
      simp only [toP, Option.map_eq_some_iff] at h
      obtain ⟨ps, h1, rfl⟩ := h
      exact .lst t.sq (dpAll_of R n _ _ _ h1 l)
    | loc e =>
      simp only [toP] at h
      split at h
      · rename_i xs hx
        simp only [Option.map_eq_some_iff] at h
        obtain ⟨ps, h1, rfl⟩ := h
        obtain ⟨a1, v1, m1, g1, l1⟩ := R.lst hx
        rw [e] at m1; cases m1
        exact .lst (SqL.of g1) (dpAll_of R n _ _ _ h1 l1)
      · cases h
theorem dpAll_of (R : Rep A m S H) : ∀ (n : Nat) (ds : List D) (vs : List V) (qs : List PyData), ds.mapM (toP S n) = some qs → RepL A m H ds vs → DpAll A.K H vs qs
  | n, [], _, qs, h, .nil => by simp at h; subst h; exact .nil
  | n, d :: ds, _, qs, h, .cons a b => by
    rw [List.mapM_cons] at h
    cases h1 : toP S n d with
    | none => rw [h1] at h; simp at h
    | some q =>
      rw [h1] at h
      cases h2 : ds.mapM (toP S n) with
      | none => rw [h2] at h; simp at h
      | some qs' =>
        rw [h2] at h
        simp at h
        subst h
        exact .cons (dp_of R n d _ q h1 a) (dpAll_of R n ds _ qs' h2 b)
end
theorem flat_of {d : D} {v : V} (r : RepD A m H d v) (f : flatD d = true) : flatV v = true := by cases r <;> first | rfl | cases f
theorem eqF_of {d e : D} {v w : V} (r : RepD A m H d v) (r' : RepD A m H e w) (f : flatD d = true) (f' : flatD e = true) : eqV v w = eqF d e := by
  cases r <;> cases r' <;> first | rfl | exact nomatch f | exact nomatch f'
theorem flats_of : ∀ {ds : List D} {vs : List V}, RepL A m H ds vs → ds.all flatD = true → vs.all flatV = true
  | _, _, .nil, _ => rfl
  | _, _, .cons a b, f => by
    rw [List.all_cons, Bool.and_eq_true] at f
    rw [List.all_cons, flat_of a f.1, flats_of b f.2] <;> rfl
theorem inV_of {d : D} {v : V} (r : RepD A m H d v) (fd : flatD d = true) : ∀ {ds : List D} {vs : List V}, RepL A m H ds vs → ds.all flatD = true → inV v vs = ds.any fun z => eqF z d
  | _, _, .nil, _ => rfl
  | _, _, .cons a b, f => by
    rw [List.all_cons, Bool.and_eq_true] at f
    have ih := inV_of r fd b f.2
    unfold inV at ih ⊢
    rw [List.any_cons, List.any_cons, ih, eqF_of a r f.1 fd]
theorem PB.any {b : Bool} {r : Option Bool} {Q : Bool → Prop} (h : PB r Q) (e : r = some b) : Q b := by subst e; exact h
theorem kV_of {d : D} {k : Key} {v : V} (h : keyD d = some k) (r : RepD A m H d v) : v = kV k := by
  cases r <;> simp only [keyD] at h <;> cases h <;> rfl
theorem kVs_of : ∀ {ds : List D} {ks : List Key} {vs : List V}, keysD ds = some ks → RepL A m H ds vs → vs = ks.map kV
  | _, _, _, h, .nil => by simp only [keysD] at h; cases h; rfl
  | d :: ds, _, _, h, .cons a b => by
    simp only [keysD] at h
    split at h
    · rename_i k ks h1 h2
      cases h
      rw [List.map_cons, kV_of h1 a, kVs_of h2 b]
    · cases h
theorem RepK.look {κ : Type} [DecidableEq κ] : ∀ {kvs : List (κ × D)} {ws : List (κ × V)} {k : κ}, RepK A m H kvs ws → (∃ d v, lookK kvs k = some d ∧ valV ws k = some v ∧ RepD A m H d v) ∨ (lookK kvs k = none ∧ valV ws k = none)
  | _, _, _, .nil => .inr ⟨rfl, rfl⟩
  | p :: kvs, q :: ws, k, .cons a b => by
    by_cases e : p.1 = k
    · refine .inl ⟨p.2, q.2, ?_, valV_pos (a.1 ▸ e), a.2⟩
      unfold lookK
      rw [List.find?_cons_of_pos (by simpa using e)] <;> rfl
    · have e1 : lookK (p :: kvs) k = lookK kvs k := by
        unfold lookK
        rw [List.find?_cons_of_neg (by simpa using e)]
      rw [e1, valV_neg (fun z => e (a.1.trans z))]
      exact RepK.look b
theorem RepK.put {κ : Type} [DecidableEq κ] {kvs : List (κ × D)} {ws : List (κ × V)} {k : κ} {d : D} {v : V} (r : RepK A m H kvs ws) (rv : RepD A m H d v) : RepK A m H (putD kvs k d) (putK ws k v) := by
  have hany : ∀ {kvs : List (κ × D)} {ws : List (κ × V)}, RepK A m H kvs ws → (kvs.any fun kv => decide (kv.1 = k)) = ws.any fun kv => decide (kv.1 = k) := by
    intro kvs ws r
    induction r with
    | nil => rfl
    | cons a b ih => rw [List.any_cons, List.any_cons, ih, a.1]
  have hmap : ∀ {kvs : List (κ × D)} {ws : List (κ × V)}, RepK A m H kvs ws → RepK A m H (kvs.map fun kv => if kv.1 = k then (kv.1, d) else kv) (ws.map fun kv => if kv.1 = k then (kv.1, v) else kv) := by
    intro kvs ws r
    induction r with
    | nil => exact .nil
    | cons a b ih =>
      rename_i p q _ _
      refine .cons ?_ ih
      show (if p.1 = k then (p.1, d) else p).1 = (if q.1 = k then (q.1, v) else q).1 ∧ RepD A m H (if p.1 = k then (p.1, d) else p).2 (if q.1 = k then (q.1, v) else q).2
      by_cases e : p.1 = k
      · rw [if_pos e, if_pos (a.1 ▸ e)]; exact ⟨a.1, rv⟩
      · rw [if_neg e, if_neg (fun z => e (a.1.trans z))]; exact a
  have happ : ∀ {kvs : List (κ × D)} {ws : List (κ × V)}, RepK A m H kvs ws → RepK A m H (kvs ++ [(k, d)]) (ws ++ [(k, v)]) := by
    intro kvs ws r
    induction r with
    | nil => exact .cons ⟨rfl, rv⟩ .nil
    | cons a b ih => exact .cons a ih
  unfold putD putK
  rw [hany r]
  split
  · exact hmap r
  · exact happ r
/-- an object's attributes: by their first pair of the name -/
theorem RepK.lookup : ∀ {fs : List (Str × D)} {ws : List (Str × V)} {f : Str}, RepK A m H fs ws → (∃ d v, fs.lookup f = some d ∧ ws.lookup f = some v ∧ RepD A m H d v) ∨ (fs.lookup f = none ∧ ws.lookup f = none)
  | _, _, _, .nil => .inr ⟨rfl, rfl⟩
  | p :: fs, q :: ws, f, .cons a b => by
    obtain ⟨p1, p2⟩ := p
    obtain ⟨q1, q2⟩ := q
    obtain ⟨rfl, a2⟩ := a
    rw [List.lookup_cons, List.lookup_cons]
    cases e : (f == p1) with
    | true => exact .inl ⟨p2, q2, rfl, rfl, a2⟩
    | false => exact RepK.lookup b
theorem RepK.putA {f : Str} {d : D} {v : V} (rv : RepD A m H d v) : ∀ {fs : List (Str × D)} {ws : List (Str × V)}, RepK A m H fs ws → RepK A m H (putA f d fs) (putF f v ws)
  | _, _, .nil => .cons ⟨rfl, rv⟩ .nil
  | p :: fs, q :: ws, .cons a b => by
    obtain ⟨p1, p2⟩ := p
    obtain ⟨q1, q2⟩ := q
    obtain ⟨rfl, a2⟩ := a
    unfold DI.putA putF
    by_cases e : p1 = f
    · rw [if_pos e, if_pos e]; exact .cons ⟨rfl, rv⟩ b
    · rw [if_neg e, if_neg e]; exact .cons ⟨rfl, a2⟩ (RepK.putA rv b)
/-- a dict's look-up -/
theorem dget_of (R : Rep A m S H) {a : Nat} {c : Cell} {p : Addr} {k : D} {y : V} {o : Option D} (hc : S[a]? = some c) (hp : m[a]? = some p) (hk : dictAt c k = some o) (r : RepD A m H k y) :
    ∃ w, DGet H p y w ∧ ((∃ d v, o = some d ∧ w = some v ∧ RepD A m H d v) ∨ (o = none ∧ w = none)) := by
  cases c with
  | lst xs => cases k <;> cases hk
  | ins c fs => cases k <;> cases hk
  | dk kvs =>
    obtain ⟨a1, ws, m1, g1, l1⟩ := R.dk hc
    rw [hp] at m1; cases m1
    cases r with
    | int i =>
      simp only [dictAt] at hk; cases hk
      refine ⟨_, DGet.k (k := .inl i) g1, ?_⟩
      rcases l1.look (k := (Sum.inl i : Key)) with ⟨d, v, h1, h2, h3⟩ | ⟨h1, h2⟩
      · exact .inl ⟨d, v, h1, h2, h3⟩
      · exact .inr ⟨h1, h2⟩
    | str i =>
      simp only [dictAt] at hk; cases hk
      refine ⟨_, DGet.k (k := .inr i) g1, ?_⟩
      rcases l1.look (k := (Sum.inr i : Key)) with ⟨d, v, h1, h2, h3⟩ | ⟨h1, h2⟩
      · exact .inl ⟨d, v, h1, h2, h3⟩
      · exact .inr ⟨h1, h2⟩
    | _ => cases hk
  | dt kvs => cases k <;> cases hk
  | fk kvs =>
    obtain ⟨a1, m1, rc⟩ := R.cell _ _ hc
    rw [hp] at m1; cases m1
    cases rc with
    | @fk _ od ws g1 l1 =>
    cases r with
    | int i =>
      simp only [dictAt] at hk; cases hk
      refine ⟨_, .inl ⟨ws, .inl i, .inr ⟨od, g1⟩, rfl, rfl⟩, ?_⟩
      rcases l1.look (k := (Sum.inl i : Key)) with ⟨d, v, h1, h2, h3⟩ | ⟨h1, h2⟩
      · exact .inl ⟨d, v, h1, h2, h3⟩
      · exact .inr ⟨h1, h2⟩
    | str i =>
      simp only [dictAt] at hk; cases hk
      refine ⟨_, .inl ⟨ws, .inr i, .inr ⟨od, g1⟩, rfl, rfl⟩, ?_⟩
      rcases l1.look (k := (Sum.inr i : Key)) with ⟨d, v, h1, h2, h3⟩ | ⟨h1, h2⟩
      · exact .inl ⟨d, v, h1, h2, h3⟩
      · exact .inr ⟨h1, h2⟩
    | _ => cases hk
theorem RepR.get {a : Addr} : ∀ {kvs : List (Str × D)} {z : Str} {d : D}, RepR A m H a kvs → kvs.lookup z = some d → ∃ v u, PySem.W.nsIn A.K a z = some (some u) ∧ RelV v u ∧ RepD A m H d v
  | (k, d') :: r, z, d, .cons h g rd t, e => by
    rw [List.lookup_cons] at e
    cases c : (z == k) with
    | true =>
      rw [c] at e
      cases e
      have : z = k := by simpa using c
      subst this
      exact ⟨_, _, h, g, rd⟩
    | false =>
      rw [c] at e
      exact RepR.get t e
/-- a tuple against the empty one -/
theorem op_eq_t0 (hu : X.A.units < cLine) : OpR X (compareOp .Eq) (fun x y H Q => ∃ a b xs, x = .ref a ∧ y = .ref b ∧ SqT X.K H a xs ∧ SqT X.K H b [] ∧ Q (.bl xs.isEmpty) H) := by
  intro pins s σ H x y v u Q I rx ry h
  obtain ⟨a, b, xs, rfl, rfl, h1, h2, q⟩ := h
  obtain rfl : v = Value.ref a := rx
  obtain rfl : u = Value.ref b := ry
  obtain ⟨i1, r1, p1, _⟩ := I.tuple h1
  obtain ⟨i2, r2, p2, _⟩ := I.tuple h2
  cases r2
  have p1' : s.heap.IsTuple a i1.toArray := by obtain ⟨o, e1, e2, n, e3⟩ := p1; exact ⟨o, e1, e2, n, e3⟩
  have p2' : s.heap.IsTuple b #[] := by obtain ⟨o, e1, e2, n, e3⟩ := p2; exact ⟨o, e1, e2, n, e3⟩
  refine SeqAt.RcAt.tuples (e := fun _ => true) p1' p2' hu (fun j h1 h2 => absurd h2 (by simp)) X.prog X.w X.xe _ ⟨.bl xs.isEmpty, H, I, ?_, q⟩
  have e : ((List.range (min i1.toArray.size (#[] : Array Value).size)).all (fun _ => true) && i1.toArray.size == (#[] : Array Value).size) = xs.isEmpty := by
    cases r1 <;> simp
  rw [e]
  rfl
/-! the rules -/
theorem ints_vals : ∀ {ds : List D} {vs : List V} {ns : List Int}, intsD ds = some ns → RepL A m H ds vs → vs = ns.map V.int
  | _, _, _, h, .nil => by simp only [intsD] at h; cases h; rfl
  | d :: ds, _, _, h, .cons a b => by
    cases a <;> first | (cases h; done) | skip
    simp only [intsD, Option.map_eq_some_iff] at h
    obtain ⟨ns, h1, rfl⟩ := h
    rw [List.map_cons, ints_vals h1 b]
/-- > of tuples of whole numbers -/
theorem op_gtT2 (hu : X.A.units < cLine) : OpR X (compareOp .Gt) (fun x y H Q => ∃ (a b : Addr) (ns ms : List Int), x = .ref a ∧ y = .ref b ∧ SqT X.K H a (ns.map V.int) ∧ SqT X.K H b (ms.map V.int) ∧ Q (.bl (gtI ns ms)) H) := by
  intro pz t τ HH x y v u Q J rx ry h
  obtain ⟨a, b, ns, ms, rfl, rfl, ha, hb, q⟩ := h
  obtain rfl : v = Value.ref a := rx
  obtain rfl : u = Value.ref b := ry
  obtain ⟨its, r1, p1, _⟩ := J.tuple ha
  obtain ⟨its2, r2, p2, _⟩ := J.tuple hb
  have n1 : IntsAre its ns := Vals.ints r1
  have n2 : IntsAre its2 ms := Vals.ints r2
  have s1 : its.toArray.size = ns.length := by rw [List.size_toArray]; exact n1.length
  have s2 : its2.toArray.size = ms.length := by rw [List.size_toArray]; exact n2.length
  have w1 : ∀ j (g : j < its.toArray.size), ∃ o, its.toArray[j] = .int (ns.getD j 0) o := fun j g => PyProof.Rows.IntsAre.int_at n1 _ _ (by simp at g; simp [g])
  have w2 : ∀ j (g : j < its2.toArray.size), ∃ o, its2.toArray[j] = .int (ms.getD j 0) o := fun j g => PyProof.Rows.IntsAre.int_at n2 _ _ (by simp at g; simp [g])
  have G := Ob.RcOp.tuples_gt (A := X.A) (s := t) (e := fun j => decide (ns.getD j 0 = ms.getD j 0)) (r := fun j => decide (ms.getD j 0 < ns.getD j 0)) p1 p2 hu (fun j g1 g2 => by
    obtain ⟨o, eo⟩ := w1 j g1
    obtain ⟨o', eo'⟩ := w2 j g2
    rw [eo, eo']
    have e3 : decide (ns.getD j 0 = ms.getD j 0) = (ns.getD j 0 == ms.getD j 0) := by
      rw [Bool.eq_iff_iff, decide_eq_true_eq, beq_iff_eq]
    rw [e3]
    exact SeqAt.EqAt.int_int _ _ _ _) fun j g1 g2 _ => by
    obtain ⟨o, eo⟩ := w1 j g1
    obtain ⟨o', eo'⟩ := w2 j g2
    rw [eo, eo']
    exact Ob.RcOp.gt_int _ _ _ _
  rw [s1, s2] at G
  exact (show wpAny (model X.prog X.w) X.A (compareOp .Gt (.ref a) (.ref b)) (EP X pz τ Q) X.xe t from G X.prog X.w X.xe (EP X pz τ Q) ⟨.bl _, HH, J, rfl, q⟩)
/-- x in a tuple or a list, of data of any depth -/
theorem op_inX (hu : X.A.units + 64 < cLine) (neg : Bool) : OpR X (compareOp (if neg = true then .NotIn else .In)) (fun x y H Q => ∃ d e ds, Dp X.K H x d ∧ Dp X.K H y e ∧ (e = .tuple ds ∨ e = .list ds) ∧ SeqAt.shaped d = true ∧ (SeqAt.shaped e = true ∧ PyData.depth d ≤ 60) ∧ Q (.bl (if neg = true then !ds.any fun z => PyData.eqv z d else ds.any fun z => PyData.eqv z d)) H) := by
  intro pins s σ H x y v u Q I rx ry h
  obtain ⟨d, e, ds, hd, he, hc, sd, ⟨se, hdd⟩, q⟩ := h
  obtain ⟨as, r1⟩ := Dp.reads I d x v hd rx
  obtain ⟨bs, r2⟩ := Dp.reads I e y u he ry
  have roomT : True → X.A.units + 1 + min (PyData.depthAll ds) d.depth < cLine := fun _ => by omega
  rcases hc with rfl | rfl
  · cases neg
    · exact SeqAt.in_tuple_reads r2 r1 (SeqAt.canLay_of_shaped se) (SeqAt.canLay_of_shaped sd) (roomT trivial) ⟨.bl _, H, I, rfl, q⟩
    · exact SeqAt.notIn_tuple_reads r2 r1 (SeqAt.canLay_of_shaped se) (SeqAt.canLay_of_shaped sd) (roomT trivial) ⟨.bl _, H, I, rfl, q⟩
  · cases neg
    · exact SeqAt.in_list_reads r2 r1 (SeqAt.canLay_of_shaped se) (SeqAt.canLay_of_shaped sd) (roomT trivial) ⟨.bl _, H, I, rfl, q⟩
    · exact SeqAt.notIn_list_reads r2 r1 (SeqAt.canLay_of_shaped se) (SeqAt.canLay_of_shaped sd) (roomT trivial) ⟨.bl _, H, I, rfl, q⟩
theorem cmp_ok (hK : A.K = X.K) (hW : A.w = X.w) (hu : X.A.units + 64 < cLine) (o : CmpOp) : OpR X (compareOp o) (rCmp A o) := by
  intro pins s σ H x y v u Q I rx ry h
  obtain ⟨m, S, dx, dy, R, r1, r2, p⟩ := h
  have hu1 : X.A.units + 1 < cLine := by omega
  have eqs : ∀ (k : Bool → Bool) (q : PB ((eqSem dx dy S).map k) fun b => Q (.bl b) H), (∃ d e, Dp X.K H x d ∧ Dp X.K H y e ∧ SeqAt.shaped d = true ∧ SeqAt.shaped e = true ∧ Q (.bl (k (PyData.eqv d e))) H) ∨ ∃ a b : Str, x = .str a ∧ y = .str b ∧ Q (.bl (k (a == b))) H := by
    intro k q
    unfold eqSem at q
    split at q
    · rename_i d e h1 h2
      split at q
      · rename_i hs
        exact .inl ⟨d, e, hK ▸ dp_of R _ _ _ _ h1 r1, hK ▸ dp_of R _ _ _ _ h2 r2, hs.1, hs.2, q⟩
      · split at q
        · cases r1
          cases r2
          exact .inr ⟨_, _, rfl, rfl, q⟩
        · exact q.elim
    · exact q.elim
  have ins : ∀ (k : Bool → Bool) (q : PB ((inSem dx dy S).map k) fun b => Q (.bl b) H),
      (∃ a xs, y = .ref a ∧ (SqL X.K H a xs ∨ SqT X.K H a xs) ∧ flatV x = true ∧ xs.all flatV = true ∧ Q (.bl (k (inV x xs))) H) ∨ (∃ a w, y = .ref a ∧ DGet H a x w ∧ Q (.bl (k w.isSome)) H) ∨ (∃ a es n z r, KDict X.K X.w a es n ∧ x = .str z ∧ y = .ref a ∧ PySem.W.nsIn X.K a z = some r ∧ Q (.bl (k r.isSome)) H) ∨
        ∃ d e ds, Dp X.K H x d ∧ Dp X.K H y e ∧ (e = .tuple ds ∨ e = .list ds) ∧ SeqAt.shaped d = true ∧ (SeqAt.shaped e = true ∧ PyData.depth d ≤ 60) ∧ Q (.bl (k (ds.any fun z => PyData.eqv z d))) H := by
    intro k q
    have deep : PB ((inDeep dx dy S).map k) (fun b => Q (.bl b) H) → ∃ d e ds, Dp X.K H x d ∧ Dp X.K H y e ∧ (e = .tuple ds ∨ e = .list ds) ∧ SeqAt.shaped d = true ∧ (SeqAt.shaped e = true ∧ PyData.depth d ≤ 60) ∧ Q (.bl (k (ds.any fun z => PyData.eqv z d))) H := by
      intro q
      unfold inDeep at q
      split at q
      · rename_i d ds h1 h2
        split at q
        · rename_i hs
          exact ⟨d, _, ds, hK ▸ dp_of R _ _ _ _ h1 r1, hK ▸ dp_of R _ _ _ _ h2 r2, .inl rfl, hs.1, hs.2, q⟩
        · exact q.elim
      · rename_i d ds h1 h2
        split at q
        · rename_i hs
          exact ⟨d, _, ds, hK ▸ dp_of R _ _ _ _ h1 r1, hK ▸ dp_of R _ _ _ _ h2 r2, .inr rfl, hs.1, hs.2, q⟩
        · exact q.elim
      · exact q.elim
    cases r2 with
    | tup t l =>
      simp only [inSem] at q
      split at q
      · rename_i hf
        refine .inl ⟨_, _, rfl, .inr (hK ▸ t), flat_of r1 hf.1, flats_of l hf.2, ?_⟩
        rw [inV_of r1 hf.1 l hf.2]; exact q
      · exact .inr (.inr (.inr (deep q)))
    | rl t l =>
      simp only [inSem] at q
      split at q
      · rename_i hf
        refine .inl ⟨_, _, rfl, .inl (hK ▸ t.sq), flat_of r1 hf.1, flats_of l hf.2, ?_⟩
        rw [inV_of r1 hf.1 l hf.2]; exact q
      · exact .inr (.inr (.inr (deep q)))
    | loc e =>
      simp only [inSem] at q
      split at q
      · rename_i xs hx
        obtain ⟨a1, v1, m1, g1, l1⟩ := R.lst hx
        rw [e] at m1; cases m1
        split at q
        · rename_i hf
          refine .inl ⟨_, _, rfl, .inl (SqL.of g1), flat_of r1 hf.1, flats_of l1 hf.2, ?_⟩
          rw [inV_of r1 hf.1 l1 hf.2]; exact q
        · exact .inr (.inr (.inr (deep q)))
      · rename_i c hc hx
        cases hd : dictAt c dx with
        | none => rw [hd] at q; exact q.elim
        | some o =>
          rw [hd] at q
          obtain ⟨w, g, hw⟩ := dget_of R hx e hd r1
          refine .inr (.inl ⟨_, w, rfl, g, ?_⟩)
          rcases hw with ⟨d, z, rfl, rfl, _⟩ | ⟨rfl, rfl⟩
          · exact q
          · exact q
      · exact q.elim
    | rd hd hn hr =>
      obtain ⟨es, n, hd, hkk⟩ := hd
      rw [hK, hW] at hd
      cases r1 <;> simp only [inSem] at q <;> (try exact (show False from q).elim)
      rename_i kvs a z
      cases e : kvs.lookup z with
      | none =>
        rw [e] at q
        refine .inr (.inr (.inl ⟨a, es, n, z, none, hd, rfl, rfl, hK ▸ hn z e, q⟩))
      | some d =>
        rw [e] at q
        obtain ⟨w', u', g1, _, _⟩ := hr.get e
        refine .inr (.inr (.inl ⟨a, es, n, z, some u', hd, rfl, rfl, hK ▸ g1, q⟩))
    | _ => exact (show False from q).elim
  cases o with
  | Eq =>
    by_cases c : ∃ xs, dx = .tup xs ∧ dy = .tup []
    · obtain ⟨xs, rfl, rfl⟩ := c
      cases r1 with
      | tup t1 l1 =>
      cases r2 with
      | tup t2 l2 =>
      cases l2
      refine op_eq_t0 (by omega) pins s σ H _ _ v u Q I rx ry ⟨_, _, _, rfl, rfl, hK ▸ t1, hK ▸ t2, ?_⟩
      have e : ∀ {vs : List V}, RepL A m H xs vs → vs.isEmpty = xs.isEmpty := by
        intro vs l; cases l <;> rfl
      rw [e l1]
      exact p
    · have eqE : PB (eqSem dx dy S) (fun b => Q (.bl b) H) → wpAny (model X.prog X.w) X.A (compareOp .Eq v u) (EP X pins σ Q) X.xe s := fun p => by
        rcases eqs id (by rw [Option.map_id]; exact p) with ⟨d, e, h1, h2, h3, h4, h5⟩ | ⟨a, b, rfl, rfl, h5⟩
        · exact op_eqD hu pins s σ H _ _ v u Q I rx ry ⟨d, e, h1, h2, h3, h4, h5⟩
        · refine op_eq pins s σ H _ _ v u Q I rx ry ⟨rfl, ?_⟩
          have e : decide (V.str a = V.str b) = (a == b) := by rw [Bool.eq_iff_iff]; simp
          rw [e]; exact h5
      by_cases c2 : ∃ i, dy = .loc i
      · obtain ⟨i, rfl⟩ := c2
        have p : PB (match eqSem dx (.loc i) S with | some b => some b | none => (match S[i]? with
          | some (.dk _) => if flatD dx = true then some false else none
          | some (.fk _) => if flatD dx = true then some false else none
          | _ => none)) (fun b => Q (.bl b) H) := by
          have e : cmpSem .Eq dx (.loc i) S = (match eqSem dx (.loc i) S with | some b => some b | none => (match S[i]? with
            | some (.dk _) => if flatD dx = true then some false else none
            | some (.fk _) => if flatD dx = true then some false else none
            | _ => none)) := by cases dx <;> rfl
          rw [e] at p
          exact p
        cases hq : eqSem dx (.loc i) S with
        | some b =>
          rw [hq] at p
          exact eqE (by rw [hq]; exact p)
        | none =>
          rw [hq] at p
          dsimp only at p
          cases r2 with
          | loc em =>
          split at p
          · rename_i kvs hx
            obtain ⟨a1, ws, m1, g1, l1⟩ := R.dk hx
            rw [em] at m1; cases m1
            split at p
            · rename_i hf
              exact op_eqFD (by omega) pins s σ H _ _ v u Q I rx ry ⟨flat_of r1 hf, ⟨_, ws, rfl, .inl g1⟩, p⟩
            · exact p.elim
          · rename_i kvs hx
            obtain ⟨a1, od, ws, m1, g1, l1⟩ := R.fk hx
            rw [em] at m1; cases m1
            split at p
            · rename_i hf
              exact op_eqFD (by omega) pins s σ H _ _ v u Q I rx ry ⟨flat_of r1 hf, ⟨_, ws, rfl, .inr ⟨od, g1⟩⟩, p⟩
            · exact p.elim
          · exact p.elim
      · have e : cmpSem .Eq dx dy S = eqSem dx dy S := by
          cases dy <;> first | exact absurd ⟨_, rfl⟩ c2 | (cases dx <;> first | rfl | (rename_i xs ys; cases xs <;> first | rfl | exact absurd ⟨_, rfl, rfl⟩ c) | (rename_i ys xs; cases xs <;> first | rfl | exact absurd ⟨_, rfl, rfl⟩ c))
        rw [e] at p
        exact eqE p
  | NotEq =>
    rcases eqs (!·) p with ⟨d, e, h1, h2, h3, h4, h5⟩ | ⟨a, b, rfl, rfl, h5⟩
    · exact op_neD hu pins s σ H _ _ v u Q I rx ry ⟨d, e, h1, h2, h3, h4, h5⟩
    · refine op_ne pins s σ H _ _ v u Q I rx ry ⟨rfl, ?_⟩
      have e : decide (V.str a = V.str b) = (a == b) := by rw [Bool.eq_iff_iff]; simp
      rw [e]; exact h5
  | In =>
    rcases ins id (by rw [Option.map_id]; exact p) with ⟨a, xs, rfl, h1, h2, h3, h4⟩ | ⟨a, w, rfl, g, h4⟩ | ⟨a, es, n, z, r, kd, rfl, rfl, e, h4⟩ | hdeep
    · exact op_in_seq pins s σ H _ _ v u Q I rx ry ⟨a, xs, rfl, h1, h2, h3, h4⟩
    · obtain rfl : u = Value.ref a := ry
      exact d_in hu1 I g rx fun s' I' => ⟨.bl w.isSome, H, I', rfl, h4⟩
    · exact op_in_kd kd pins s σ H _ _ v u Q I rx ry ⟨z, r, rfl, rfl, e, h4⟩
    · exact op_inX hu false pins s σ H _ _ v u Q I rx ry hdeep
  | NotIn =>
    rcases ins (!·) p with ⟨a, xs, rfl, h1, h2, h3, h4⟩ | ⟨a, w, rfl, g, h4⟩ | ⟨a, es, n, z, r, kd, rfl, rfl, e, h4⟩ | hdeep
    · exact op_notIn_seq pins s σ H _ _ v u Q I rx ry ⟨a, xs, rfl, h1, h2, h3, h4⟩
    · obtain rfl : u = Value.ref a := ry
      exact d_notIn hu1 I g rx fun s' I' => ⟨.bl (!w.isSome), H, I', rfl, h4⟩
    · exact op_notIn_kd kd pins s σ H _ _ v u Q I rx ry ⟨z, r, rfl, rfl, e, h4⟩
    · exact op_inX hu true pins s σ H _ _ v u Q I rx ry hdeep
  | Lt => cases r1 <;> (try exact (show False from p).elim) <;> cases r2 <;> first | exact (show False from p).elim | exact op_lt pins s σ H _ _ v u Q I rx ry ⟨_, _, rfl, rfl, p⟩ | exact op_lt_str pins s σ H _ _ v u Q I rx ry ⟨_, _, rfl, rfl, p⟩
  | LtE => cases r1 <;> (try exact (show False from p).elim) <;> cases r2 <;> first | exact (show False from p).elim | exact op_le pins s σ H _ _ v u Q I rx ry ⟨_, _, rfl, rfl, p⟩ | exact op_le_str pins s σ H _ _ v u Q I rx ry ⟨_, _, rfl, rfl, p⟩
  | Gt =>
    by_cases ht : ∃ xs ys, dx = .tup xs ∧ dy = .tup ys
    · obtain ⟨xs, ys, rfl, rfl⟩ := ht
      cases r1 with
      | tup t1 l1 =>
      cases r2 with
      | tup t2 l2 =>
      have p' : PB (match intsD xs, intsD ys with | some ns, some ms => some (gtI ns ms) | _, _ => none) (fun b => Q (.bl b) H) := p
      split at p'
      · rename_i ns ms e1 e2
        rw [ints_vals e1 l1] at t1
        rw [ints_vals e2 l2] at t2
        exact op_gtT2 (by omega) pins s σ H _ _ v u Q I rx ry ⟨_, _, ns, ms, rfl, rfl, hK ▸ t1, hK ▸ t2, p'⟩
      · exact p'.elim
    · cases r1 <;> (try exact (show False from p).elim) <;> cases r2 <;> first | exact (show False from p).elim | exact op_gt pins s σ H _ _ v u Q I rx ry ⟨_, _, rfl, rfl, p⟩ | exact op_gt_str pins s σ H _ _ v u Q I rx ry ⟨_, _, rfl, rfl, p⟩ | exact absurd ⟨_, _, rfl, rfl⟩ ht
  | GtE => cases r1 <;> (try exact (show False from p).elim) <;> cases r2 <;> first | exact (show False from p).elim | exact op_ge pins s σ H _ _ v u Q I rx ry ⟨_, _, rfl, rfl, p⟩ | exact op_ge_str pins s σ H _ _ v u Q I rx ry ⟨_, _, rfl, rfl, p⟩
  | Is =>
    cases r2 <;> (try exact (show False from p).elim)
    refine op_isN pins s σ H _ _ v u Q I rx ry ⟨rfl, ?_⟩
    cases r1 <;> exact p
  | IsNot =>
    cases r2 <;> (try exact (show False from p).elim)
    refine op_notN pins s σ H _ _ v u Q I rx ry ⟨rfl, ?_⟩
    cases r1 <;> exact p
theorem tru_of (hK : A.K = X.K) (R : Rep A m S H) {d : D} {v : V} (r : RepD A m H d v) {b : Bool} (h : truSem d S = some b) : TruV X.K v H b := by
  cases r with
  | non => simp only [truSem] at h; cases h; rfl
  | bl k => simp only [truSem] at h; cases h; rfl
  | int k => simp only [truSem] at h; cases h; rfl
  | str k =>
    simp only [truSem] at h
    split at h
    · cases h; exact ⟨by assumption, rfl⟩
    · cases h
  | ty n => cases h
  | fn n => cases h
  | cl n => cases h
  | rd _ _ _ => cases h
  | tup t l =>
    simp only [truSem] at h; cases h
    refine .inr (.inl ⟨_, hK ▸ t, ?_⟩)
    cases l <;> rfl
  | rl t l =>
    simp only [truSem] at h; cases h
    refine .inl ⟨_, hK ▸ t.sq, ?_⟩
    cases l <;> rfl
  | loc e =>
    simp only [truSem] at h
    split at h
    · rename_i xs hx
      obtain ⟨a1, v1, m1, g1, l1⟩ := R.lst hx
      rw [e] at m1; cases m1
      cases h
      refine .inl ⟨_, SqL.of g1, ?_⟩
      cases l1 <;> rfl
    · rename_i xs hx
      obtain ⟨a1, v1, m1, g1, l1⟩ := R.dk hx
      rw [e] at m1; cases m1
      cases h
      refine .inr (.inr ⟨_, g1, ?_⟩)
      cases l1 <;> rfl
    · cases h
theorem atI_rep {ds : List D} {vs : List V} {i : Int} {d : D} (l : RepL A m H ds vs) (h : atI ds i = some d) : ∃ v, atI vs i = some v ∧ RepD A m H d v := by
  unfold atI at h ⊢
  rw [l.length]
  cases e : ixN ds.length i with
  | none => rw [e] at h; cases h
  | some j =>
    rw [e] at h
    exact l.get h
theorem ix_dict (hu : X.A.units + 1 < cLine) : IxR X (fun x y H Q => ∃ a v, x = .ref a ∧ DGet H a y (some v) ∧ Q v H) := by
  intro value slice pins s σ H x y v u Q I rx ry h hs
  obtain ⟨a, z, rfl, g, q⟩ := h
  obtain rfl : v = Value.ref a := rx
  exact tail_any (dict_typeIs I g) PySem.F.slot_dict_getitem.lookup (d_getItem hu I g ry fun w' s' I' r' => ⟨z, H, I', r', q⟩) hs
theorem ix_ok (hK : A.K = X.K) (hW : A.w = X.w) (hu : X.A.units + 64 < cLine) : IxR X (rItem A) := by
  have hu1 : X.A.units + 1 < cLine := by omega
  intro value slice pins s σ H x y v u Q I rx ry h hs
  obtain ⟨m, S, dx, dy, R, r1, r2, p⟩ := h
  have fin : ∀ {r : Option D} {d : D} {z : V}, PD A m H r Q → r = some d → RepD A m H d z → Q z H := fun p e r => by subst e; exact p _ r
  cases r1 <;> (try exact (show False from p).elim)
  · rename_i z
    cases r2 <;> (try exact (show False from p).elim)
    rename_i i
    by_cases hz : z.length ≤ sizeLine
    · have e' : itemSem (.str z) (.int i) S = (atI z.cps.toList i).map fun c => D.str ⟨#[c]⟩ := if_pos hz
      rw [e'] at p
      cases e : atI z.cps.toList i with
      | none => rw [e] at p; exact p.elim
      | some c =>
        rw [e] at p
        exact ix_str value slice pins s σ H _ _ v u Q I rx ry ⟨_, _, c, rfl, rfl, hz, e, p _ (.str _)⟩ hs
    · have e' : itemSem (.str z) (.int i) S = none := if_neg hz
      rw [e'] at p; exact p.elim
  · rename_i xs a vs t l
    cases r2 <;> (try exact (show False from p).elim)
    rename_i i
    cases e : atI xs i with
    | none =>
      have e' : itemSem (.tup xs) (.int i) S = none := e
      rw [e'] at p; exact p.elim
    | some d =>
      obtain ⟨z, h1, h2⟩ := atI_rep l e
      exact ix_tup value slice pins s σ H _ _ v u Q I rx ry ⟨_, _, _, z, rfl, rfl, hK ▸ t, h1, fin p e h2⟩ hs
  · rename_i xs a vs t l
    cases r2 <;> (try exact (show False from p).elim)
    rename_i i
    cases e : atI xs i with
    | none =>
      have e' : itemSem (.rl xs) (.int i) S = none := e
      rw [e'] at p; exact p.elim
    | some d =>
      obtain ⟨z, h1, h2⟩ := atI_rep l e
      exact ix_list value slice pins s σ H _ _ v u Q I rx ry ⟨_, _, _, z, rfl, rfl, hK ▸ t.sq, h1, fin p e h2⟩ hs
  · rename_i i a e
    generalize h1 : itemSem (D.loc i) _ S = o at p
    cases o with
    | none => exact p.elim
    | some d =>
      have p' : ∀ z, RepD A m H d z → Q z H := fun z r => fin p rfl r
      simp only [itemSem] at h1
      split at h1
      · rename_i xs j hx
        obtain ⟨a1, v1, m1, g1, l1⟩ := R.lst hx
        rw [e] at m1; cases m1
        cases r2
        obtain ⟨z, h2, h3⟩ := atI_rep l1 h1
        exact ix_list value slice pins s σ H _ _ v u Q I rx ry ⟨_, _, _, z, rfl, rfl, SqL.of g1, h2, p' z h3⟩ hs
      · cases h1
      · rename_i c hc hx hx2
        obtain ⟨o, hd, ho⟩ := Option.bind_eq_some_iff.mp h1
        obtain ⟨w, g, hw⟩ := dget_of R (by assumption) e hd r2
        rcases hw with ⟨d', z, hz, rfl, hr⟩ | ⟨hz, _⟩
        · subst hz
          cases ho
          exact ix_dict hu1 value slice pins s σ H _ _ v u Q I rx ry ⟨_, z, rfl, g, p' z hr⟩ hs
        · subst hz
          cases ho
      · cases h1
  · rename_i kvs a hd hn hr
    cases r2 <;> (try exact (show False from p).elim)
    rename_i z
    obtain ⟨es, n, kd, hkk⟩ := hd
    cases e : kvs.lookup z with
    | none =>
      have e' : itemSem (.rd kvs) (.str z) S = none := e
      rw [e'] at p; exact p.elim
    | some d =>
      have e' : itemSem (.rd kvs) (.str z) S = some d := e
      rw [e'] at p
      obtain ⟨v', u', g1, g2, g3⟩ := hr.get e
      rw [hK, hW] at kd
      exact ix_kdict value slice pins s σ H _ _ v u Q I rx ry ⟨_, _, v', rfl, rfl, ⟨es, n, u', kd.at_, kd.lit, hK ▸ g1, g2⟩, p _ g3⟩ hs
theorem sl_ok (hK : A.K = X.K) : SlR X (rSlice A) := by
  intro pins s σ H x v vl vu lo hi sl Q I rx hs p1 p2 h
  obtain ⟨m, S, dx, R, r1, p⟩ := h
  cases r1 <;> (try exact (show False from p).elim)
  · rename_i xs a vs t l
    refine sl_tupA pins s σ H _ v vl vu lo hi sl Q I rx hs p1 p2 ⟨_, _, rfl, hK ▸ t, fun e => ?_, fun _ q hq => ?_⟩
    · have e2 : cutL xs lo hi = xs := by
        unfold cutL
        rw [← l.length, e.1, e.2, Nat.sub_zero, List.drop_zero, l.length, List.take_length]
      refine p m H _ Ext.refl R ?_
      rw [e2]
      exact .tup t l
    · obtain ⟨a, b, c⟩ := newTup R (l.cut lo hi) hq
      exact p m _ _ b a c
  · rename_i xs a vs t l
    refine sl_list pins s σ H _ v vl vu lo hi sl Q I rx hs p1 p2 ⟨_, _, rfl, hK ▸ t.sq, fun q hq => ?_⟩
    obtain ⟨a, b, c⟩ := newLst R (l.cut lo hi) hq
    exact p _ _ _ b a c
  · rename_i i a e
    unfold sliceSem at p
    dsimp only at p
    split at p
    · rename_i xs hx
      obtain ⟨a1, v1, m1, g1, l1⟩ := R.lst hx
      rw [e] at m1; cases m1
      refine sl_list pins s σ H _ v vl vu lo hi sl Q I rx hs p1 p2 ⟨_, _, rfl, SqL.of g1, fun q hq => ?_⟩
      obtain ⟨a, b, c⟩ := newLst R (l1.cut lo hi) hq
      exact p _ _ _ b a c
    · exact p.elim
end
end DI

set_option Elab.async false
set_option linter.all false
set_option maxRecDepth 100000
set_option maxHeartbeats 4000000
/-! repr of data at any depth, dicts too. -/
namespace DI
open L2 PySem PySem.Spec PyProof.Rows
mutual
inductive Dq (K : PySem.W.Frag) (H : Hp) : V → PyData → Prop
  | non : Dq K H .non .none
  | bl (b : Bool) : Dq K H (.bl b) (.bool b)
  | int (i : Int) : Dq K H (.int i) (.int i)
  | str (x : Str) : Dq K H (.str x) (.str x)
  | lst {q : Addr} {vs : List V} {ps : List PyData} : SqL K H q vs → Dqs K H vs ps → Dq K H (.ref q) (.list ps)
  | tup {q : Addr} {vs : List V} {ps : List PyData} : SqT K H q vs → Dqs K H vs ps → Dq K H (.ref q) (.tuple ps)
  | dct {q : Addr} {ws : List (Key × V)} {ps : List PyData} : H q = some (.dK ws) → Dqs K H (ws.map (·.2)) ps → Dq K H (.ref q) (.dict ((ws.map fun w => keyP w.1).zip ps))
inductive Dqs (K : PySem.W.Frag) (H : Hp) : List V → List PyData → Prop
  | nil : Dqs K H [] []
  | cons {v : V} {vs : List V} {p : PyData} {ps : List PyData} : Dq K H v p → Dqs K H vs ps → Dqs K H (v :: vs) (p :: ps)
end
theorem Dqs.len {K : PySem.W.Frag} {H : Hp} : ∀ {vs : List V} {ps : List PyData}, Dqs K H vs ps → ps.length = vs.length
  | _, _, .nil => rfl
  | _, _, .cons _ t => by rw [List.length_cons, List.length_cons, t.len]
section
variable {A : Ad} {m : List Addr} {S : Sto} {H : Hp}
theorem RepK.vals {κ : Type} : ∀ {kvs : List (κ × D)} {ws : List (κ × V)}, RepK A m H kvs ws → RepL A m H (kvs.map (·.2)) (ws.map (·.2)) ∧ kvs.map (·.1) = ws.map (·.1)
  | _, _, .nil => ⟨.nil, rfl⟩
  | _, _, .cons a b => ⟨.cons a.2 (RepK.vals b).1, by rw [List.map_cons, List.map_cons, a.1, (RepK.vals b).2]⟩
mutual
theorem dq_of (R : Rep A m S H) : ∀ (n : Nat) (d : D) (v : V) (q : PyData), toR S n d = some q → RepD A m H d v → Dq A.K H v q
  | 0, d, v, q, h, r => by simp [toR] at h
  | n + 1, d, v, q, h, r => by
    cases r with
    | non => simp only [toR] at h; cases h; exact .non
    | bl b => simp only [toR] at h; cases h; exact .bl b
    | int b => simp only [toR] at h; cases h; exact .int b
    | str b => simp only [toR] at h; cases h; exact .str b
    | ty b => simp only [toR] at h; cases h
    | fn b => simp only [toR] at h; cases h
    | cl b => simp only [toR] at h; cases h
    | rd _ _ _ => simp only [toR] at h; cases h
    | tup t l =>
      simp only [toR, Option.map_eq_some_iff] at h
      obtain ⟨ps, h1, rfl⟩ := h
      exact .tup t (dqs_of R n _ _ _ h1 l)
    | rl t l =>
      simp only [toR, Option.map_eq_some_iff] at h
      obtain ⟨ps, h1, rfl⟩ := h
      exact .lst t.sq (dqs_of R n _ _ _ h1 l)
    | loc e =>
      simp only [toR] at h
      split at h
      · rename_i xs hx
        simp only [Option.map_eq_some_iff] at h
        obtain ⟨ps, h1, rfl⟩ := h
        obtain ⟨a1, v1, m1, g1, l1⟩ := R.lst hx
        rw [e] at m1; cases m1
        exact .lst (SqL.of g1) (dqs_of R n _ _ _ h1 l1)
      · rename_i kvs hx
        simp only [Option.map_eq_some_iff] at h
        obtain ⟨ps, h1, rfl⟩ := h
        obtain ⟨a1, ws, m1, g1, l1⟩ := R.dk hx
        rw [e] at m1; cases m1
        obtain ⟨l2, l3⟩ := RepK.vals l1
        have e2 : (kvs.map fun w => keyP w.1) = ws.map fun w => keyP w.1 := by
          have := congrArg (List.map keyP) l3
          rw [List.map_map, List.map_map] at this
          exact this
        rw [e2]
        exact .dct g1 (dqs_of R n _ _ _ h1 l2)
      · cases h
theorem dqs_of (R : Rep A m S H) : ∀ (n : Nat) (ds : List D) (vs : List V) (qs : List PyData), ds.mapM (toR S n) = some qs → RepL A m H ds vs → Dqs A.K H vs qs
  | n, [], _, qs, h, .nil => by simp at h; subst h; exact .nil
  | n, d :: ds, _, qs, h, .cons a b => by
    rw [List.mapM_cons] at h
    cases h1 : toR S n d with
    | none => rw [h1] at h; cases h
    | some q =>
      rw [h1] at h
      cases h2 : ds.mapM (toR S n) with
      | none => rw [h2] at h; cases h
      | some qs' =>
        rw [h2] at h
        cases h
        exact .cons (dq_of R n d _ q h1 a) (dqs_of R n ds _ qs' h2 b)
end
end
section
variable {X : Cx} {pins : List (Addr × Obj)} {σ : L2.St} {H : Hp} {s : Shared}
theorem keys_reads {P : Program} {w : World} {h : Heap} : ∀ {es : List DictEntry} {kus : List (Key × Value)} {ws : List (Key × V)}, Pairs (mixKind P w) es kus → KV ws kus → ReadsAll h (es.map (·.key)) (ws.map fun w => keyP w.1) [] ∧ es.map (·.val) = kus.map (·.2) ∧ Vals (ws.map (·.2)) (kus.map (·.2))
  | _, _, _, .nil, .nil => ⟨.nil, rfl, .nil⟩
  | e :: es, (k, u) :: kus, (k', v) :: ws, .cons h1 h2 h3, .cons r rr => by
    obtain ⟨i1, i2, i3⟩ := keys_reads h3 rr
    obtain ⟨e1, e2⟩ := r
    dsimp only at e1 e2 h1 h2
    subst e1
    refine ⟨?_, by rw [List.map_cons, List.map_cons, h2, i2], .cons e2 i3⟩
    rcases keyIs_shape (show keyIs k' e.key = true from h1) with ⟨i, t, rfl, he⟩ | ⟨x, t, rfl, he⟩
    · rw [List.map_cons, he]
      exact ReadsAll.cons (as := []) (bs := []) (Reads.int i t) i1
    · rw [List.map_cons, he]
      exact ReadsAll.cons (as := []) (bs := []) (Reads.str x t) i1
mutual
theorem Dq.rds (I : Inv X pins σ H s) (hy : ∃ o, s.heap.get? sysModules = some o ∧ o.cls = .type "dict") : ∀ {v : V} {d : PyData}, Dq X.K H v d → ∀ {u : Value}, RelV v u → ∃ as, Reads s.heap u d as ∧ sysModules ∉ as
  | _, _, .non, u, r => by cases r; exact ⟨_, Reads.none, by simp⟩
  | _, _, .bl b, u, r => by cases r; exact ⟨_, Reads.bool b, by simp⟩
  | _, _, .int i, u, r => by obtain ⟨t, rfl⟩ := r; exact ⟨_, Reads.int i t, by simp⟩
  | _, _, .str x, u, r => by obtain ⟨t, rfl⟩ := r; exact ⟨_, Reads.str x t, by simp⟩
  | _, _, .lst hl hd, u, r => by
    cases r
    obtain ⟨its, rv, ⟨o, n, ho, hc, _, hdt⟩, _⟩ := I.list hl
    obtain ⟨as, hr, hn⟩ := Dqs.rds I hy hd rv
    refine ⟨_, Reads.list ho hc hdt hr, fun z => ?_⟩
    rcases List.mem_cons.mp z with z | z
    · obtain ⟨o', h1, h2⟩ := hy
      rw [z, ho] at h1
      cases h1
      rw [hc] at h2
      exact absurd h2 (by decide)
    · exact hn z
  | _, _, .tup hl hd, u, r => by
    cases r
    obtain ⟨its, rv, ⟨o, ho, hc, n, hdt⟩, _⟩ := I.tuple hl
    obtain ⟨as, hr, hn⟩ := Dqs.rds I hy hd rv
    exact ⟨_, Reads.tuple ho hc hdt hr, hn⟩
  | _, _, .dct (q := q) (ws := ws) (ps := ps) hh hd, u, r => by
    cases r
    obtain ⟨_, hne, vs, kv, o, es, ep, ho, hx, hdt, _, hp, _⟩ := dk_of I.hok hh
    obtain ⟨i1, i2, i3⟩ := keys_reads (h := s.heap) hp kv
    obtain ⟨bs, hr, hn⟩ := Dqs.rds I hy hd i3
    have hl : (ws.map fun w => keyP w.1).length = ps.length := by rw [hd.len, List.length_map, List.length_map]
    refine ⟨_, Reads.dict (as := []) (bs := bs) ho hx.1 hdt ?_ ?_, ?_⟩
    · rw [List.map_fst_zip (by omega)]; exact i1
    · rw [List.map_snd_zip (by omega), i2]; exact hr
    · intro z
      rcases List.mem_append.mp z with z | z
      · rw [List.mem_singleton] at z
        rw [← z] at hne
        exact absurd hne (by decide)
      · exact hn z
theorem Dqs.rds (I : Inv X pins σ H s) (hy : ∃ o, s.heap.get? sysModules = some o ∧ o.cls = .type "dict") : ∀ {vs : List V} {ds : List PyData}, Dqs X.K H vs ds → ∀ {us : List Value}, Vals vs us → ∃ as, ReadsAll s.heap us ds as ∧ sysModules ∉ as
  | _, _, .nil, us, r => by cases r; exact ⟨_, ReadsAll.nil, by simp⟩
  | _, _, .cons a b, us, r => by
    cases r with
    | cons r1 r2 =>
      obtain ⟨as, q1, n1⟩ := Dq.rds I hy a r1
      obtain ⟨bs, q2, n2⟩ := Dqs.rds I hy b r2
      exact ⟨_, ReadsAll.cons q1 q2, fun z => (List.mem_append.mp z).elim n1 n2⟩
end
/-- what the written part says of sys.modules: it is a dict -/
abbrev SysK (K : PySem.W.Frag) : Prop := ∃ o, K.lookup sysModules = some o ∧ o.cls = .type "dict"
/-- repr of lists, tuples, dicts, where no repr is under way -/
theorem call_repr (hy : SysK X.K) (gd : X.A.guards = some []) (hu : X.A.units + 64 < cLine) : CallR X (.builtin "repr") (fun xs H Q => ∃ a q, xs = [.ref a] ∧ Dq X.K H (.ref a) q ∧ q.showable = true ∧ q.depth ≤ 60 ∧ q.shown.length ≤ sizeLine ∧ Q (.str q.shown) H) := by
  intro pins s σ H xs us Q I r h
  obtain ⟨a, q, rfl, hd, h1, h3, h4, k⟩ := h
  cases r with
  | cons ra rr =>
    cases rr
    rename_i u
    obtain rfl : u = Value.ref a := ra
    obtain ⟨o, ho, hc⟩ := hy
    obtain ⟨as, rd, hn⟩ := Dq.rds I ⟨o, I.kIn _ _ ho, hc⟩ hd (u := .ref a) rfl
    exact repr_of_reads' rd h1 (fun _ => hn) gd (by omega) (fun _ _ e => e) (fun h' u tk hk => ⟨.str q.shown, H, I.kept hk, ⟨u, rfl⟩, k⟩) h4
end
end DI

set_option Elab.async false
set_option linter.all false
set_option maxRecDepth 100000
set_option maxHeartbeats 4000000
/-! Built-ins and methods of built-in types upon values that the heap bears. -/
namespace DI
open L2 PySem PySem.Spec PyProof.Rows
def BI.val : BI → Value
  | .len => .builtin "len" | .int_ => .type "int" | .str_ => .type "str" | .abs_ => .builtin "abs" | .max1 => .builtin "max" | .max2 => .builtin "max" | .min1 => .builtin "min" | .min2 => .builtin "min"
  | .sum_ => .builtin "sum" | .all_ => .builtin "all" | .any_ => .builtin "any" | .list_ => .type "list" | .tuple_ => .type "tuple" | .isi => .builtin "isinstance" | .dict_ => .type "dict" | .ord_ => .builtin "ord" | .repr_ => .builtin "repr"
theorem foldl_max_spec : ∀ (l : List Int) (a : Int), (l.foldl max a = a ∨ l.foldl max a ∈ l) ∧ a ≤ l.foldl max a ∧ ∀ y ∈ l, y ≤ l.foldl max a
  | [], a => ⟨.inl rfl, Int.le_refl _, fun _ h => nomatch h⟩
  | b :: l, a => by
    obtain ⟨h1, h2, h3⟩ := foldl_max_spec l (max a b)
    rw [List.foldl_cons]
    refine ⟨?_, by omega, fun y hy => ?_⟩
    · rcases h1 with h1 | h1
      · rw [h1]
        rcases Int.le_total a b with h | h
        · rw [Int.max_eq_right h]; exact .inr List.mem_cons_self
        · rw [Int.max_eq_left h]; exact .inl rfl
      · exact .inr (List.mem_cons_of_mem _ h1)
    · rcases List.mem_cons.mp hy with rfl | hy
      · omega
      · exact h3 y hy
theorem foldl_min_spec : ∀ (l : List Int) (a : Int), (l.foldl min a = a ∨ l.foldl min a ∈ l) ∧ l.foldl min a ≤ a ∧ ∀ y ∈ l, l.foldl min a ≤ y
  | [], a => ⟨.inl rfl, Int.le_refl _, fun _ h => nomatch h⟩
  | b :: l, a => by
    obtain ⟨h1, h2, h3⟩ := foldl_min_spec l (min a b)
    rw [List.foldl_cons]
    refine ⟨?_, by omega, fun y hy => ?_⟩
    · rcases h1 with h1 | h1
      · rw [h1]
        rcases Int.le_total a b with h | h
        · rw [Int.min_eq_left h]; exact .inl rfl
        · rw [Int.min_eq_right h]; exact .inr List.mem_cons_self
      · exact .inr (List.mem_cons_of_mem _ h1)
    · rcases List.mem_cons.mp hy with rfl | hy
      · omega
      · exact h3 y hy
theorem maxL_spec {l : List Int} {i : Int} (h : maxL l = some i) : i ∈ l ∧ (∀ y ∈ l, y ≤ i) ∧ 0 < l.length := by
  cases l with
  | nil => cases h
  | cons a r =>
    simp only [maxL, Option.some.injEq] at h
    subst h
    obtain ⟨h1, h2, h3⟩ := foldl_max_spec r a
    refine ⟨?_, fun y hy => ?_, Nat.succ_pos _⟩
    · rcases h1 with h1 | h1
      · rw [h1]; exact List.mem_cons_self
      · exact List.mem_cons_of_mem _ h1
    · rcases List.mem_cons.mp hy with rfl | hy
      · exact h2
      · exact h3 y hy
theorem minL_spec {l : List Int} {i : Int} (h : minL l = some i) : i ∈ l ∧ (∀ y ∈ l, i ≤ y) ∧ 0 < l.length := by
  cases l with
  | nil => cases h
  | cons a r =>
    simp only [minL, Option.some.injEq] at h
    subst h
    obtain ⟨h1, h2, h3⟩ := foldl_min_spec r a
    refine ⟨?_, fun y hy => ?_, Nat.succ_pos _⟩
    · rcases h1 with h1 | h1
      · rw [h1]; exact List.mem_cons_self
      · exact List.mem_cons_of_mem _ h1
    · rcases List.mem_cons.mp hy with rfl | hy
      · exact h2
      · exact h3 y hy
section
variable {X : Cx} {A : Ad} {m : List Addr} {S : Sto} {H : Hp} {p : Addr} {d : D} {v : V} {ds : List D} {vs : List V}
theorem list_of (R : Rep A m S H) (r : RepD A m H d v) (h : listD d S = some ds) : ∃ a vs, v = .ref a ∧ SqL A.K H a vs ∧ RepL A m H ds vs := by
  cases r <;> first | (cases h; done) | skip
  · rename_i t l
    simp only [listD] at h; cases h
    exact ⟨_, _, rfl, t.sq, l⟩
  · rename_i e
    simp only [listD] at h
    split at h
    · rename_i xs hx
      cases h
      obtain ⟨a1, v1, m1, g1, l1⟩ := R.lst hx
      rw [e] at m1; cases m1
      exact ⟨_, _, rfl, SqL.of g1, l1⟩
    · cases h
theorem seq_of (R : Rep A m S H) (r : RepD A m H d v) (h : seqD d S = some ds) : ∃ a vs, v = .ref a ∧ (SqL A.K H a vs ∨ SqT A.K H a vs) ∧ RepL A m H ds vs := by
  cases r <;> first | (cases h; done) | skip
  · rename_i t l
    simp only [seqD] at h; cases h
    exact ⟨_, _, rfl, .inr t, l⟩
  · rename_i t l
    simp only [seqD] at h; cases h
    exact ⟨_, _, rfl, .inl t.sq, l⟩
  · rename_i e
    simp only [seqD] at h
    split at h
    · rename_i xs hx
      cases h
      obtain ⟨a1, v1, m1, g1, l1⟩ := R.lst hx
      rw [e] at m1; cases m1
      exact ⟨_, _, rfl, .inl (SqL.of g1), l1⟩
    · cases h
theorem ints_of : ∀ {ds : List D} {vs : List V} {ns : List Int}, intsD ds = some ns → RepL A m H ds vs → vs = ns.map V.int
  | _, _, _, h, .nil => by simp only [intsD] at h; cases h; rfl
  | d :: ds, _, _, h, .cons a b => by
    cases a <;> first | (cases h; done) | skip
    simp only [intsD, Option.map_eq_some_iff] at h
    obtain ⟨ns, h1, rfl⟩ := h
    rw [List.map_cons, ints_of h1 b]
theorem bls_of : ∀ {ds : List D} {vs : List V} {ns : List Bool}, blsD ds = some ns → RepL A m H ds vs → vs = ns.map V.bl
  | _, _, _, h, .nil => by simp only [blsD] at h; cases h; rfl
  | d :: ds, _, _, h, .cons a b => by
    cases a <;> first | (cases h; done) | skip
    simp only [blsD, Option.map_eq_some_iff] at h
    obtain ⟨ns, h1, rfl⟩ := h
    rw [List.map_cons, bls_of h1 b]
theorem PO.at {r : Option (D × Sto)} {Q : VK} {d : D} {S' : Sto} (p : PO A m H r Q) (e : r = some (d, S')) : ∀ m' H' v, Ext A m H m' H' → Rep A m' S' H' → RepD A m' H' d v → Q v H' := by subst e; exact p
theorem RepL.one {vs : List V} (l : RepL A m H [d] vs) : ∃ v, vs = [v] ∧ RepD A m H d v := by cases l with | cons a b => cases b; exact ⟨_, rfl, a⟩
theorem RepL.two {e : D} {vs : List V} (l : RepL A m H [d, e] vs) : ∃ v w, vs = [v, w] ∧ RepD A m H d v ∧ RepD A m H e w := by
  cases l with | cons a b => obtain ⟨w, rfl, q⟩ := b.one; exact ⟨_, _, rfl, a, q⟩
theorem ty_of (R : Rep A m S H) (hK : A.K = X.K) (r : RepD A m H d v) {n : String} (h : tyName d S = some n) : TyX X.K H v (.type n) := by
  cases r with
  | non => cases h; exact .base .non
  | bl b => cases h; exact .base (.bl b)
  | int b => cases h; exact .base (.int b)
  | str b => cases h; exact .base (.str b)
  | ty b => cases h
  | fn b => cases h
  | cl b => cases h
  | tup t l =>
    cases h
    rcases t with (t | ⟨o, t⟩) | ⟨o, its, n, t, t2, _⟩
    · exact .base (.tup t)
    · exact .fTuple t
    · exact .kTuple (hK ▸ t) t2
  | rl t l =>
    cases h
    rcases t with ⟨o, t⟩ | t
    · exact .base (.frz t)
    · rcases t (fun _ => none) with (t | ⟨o, t⟩) | ⟨o, its, n, t, t2, _⟩
      · cases t
      · cases t
      · exact .kList (hK ▸ t) t2
  | loc e =>
    simp only [tyName] at h
    split at h <;> first | (cases h; done) | skip
    · rename_i hx
      cases h
      obtain ⟨a1, v1, m1, g1, l1⟩ := R.lst hx
      rw [e] at m1; cases m1
      exact .base (.lst g1)
    · rename_i hx
      cases h
      obtain ⟨a1, v1, m1, g1, l1⟩ := R.dk hx
      rw [e] at m1; cases m1
      exact .base (.dK g1)
    · rename_i hx
      cases h
      obtain ⟨a1, v1, m1, g1, l1⟩ := R.dt hx
      rw [e] at m1; cases m1
      exact .base (.dT g1)
    · rename_i hx
      cases h
      obtain ⟨a1, m1, rc⟩ := R.cell _ _ hx
      rw [e] at m1; cases m1
      cases rc with
      | fk g1 l1 => exact .fDict g1
  | rd hd _ _ =>
    cases h
    obtain ⟨es, n, kd, hkk⟩ := hd
    exact .kDict (hK ▸ kd.at_) rfl
theorem bi_ok (hK : A.K = X.K) (hc : X.calm = true) (hy : SysK X.K) (gd : X.A.guards = some []) (hu : X.A.units + 64 < cLine) (b : BI) : CallR X b.val (rBi A b) := by
  intro pins s σ H xs us Q I rx h
  obtain ⟨m, S, ds, R, L, p⟩ := h
  cases b with
  | len =>
    cases L with
    | nil => exact p.elim
    | cons a b =>
    cases b with
    | cons _ _ => cases a <;> exact (show False from p).elim
    | nil =>
    cases a <;> (try exact (show False from p).elim)
    · unfold biSem at p
      dsimp only at p
      split at p
      · exact call_len pins s σ H _ us Q I rx ⟨_, _, rfl, ⟨by assumption, rfl⟩, p m H _ Ext.refl R (.int _)⟩
      · exact p.elim
    · rename_i t l
      exact call_len pins s σ H _ us Q I rx ⟨_, _, rfl, .inr ⟨_, hK ▸ t, rfl⟩, p m H _ Ext.refl R (by rw [l.length]; exact .int _)⟩
    · rename_i t l
      exact call_len pins s σ H _ us Q I rx ⟨_, _, rfl, .inl ⟨_, hK ▸ t.sq, rfl⟩, p m H _ Ext.refl R (by rw [l.length]; exact .int _)⟩
    · rename_i e
      unfold biSem at p
      dsimp only at p
      split at p
      · rename_i hx
        obtain ⟨a1, v1, m1, g1, l1⟩ := R.lst hx
        rw [e] at m1; cases m1
        exact call_len pins s σ H _ us Q I rx ⟨_, _, rfl, .inl ⟨_, SqL.of g1, rfl⟩, p m H _ Ext.refl R (by rw [l1.length]; exact .int _)⟩
      · rename_i hx
        obtain ⟨a1, v1, m1, g1, l1⟩ := R.dk hx
        rw [e] at m1; cases m1
        exact call_lenD pins s σ H _ us Q I rx ⟨_, _, rfl, g1, p m H _ Ext.refl R (by rw [l1.length]; exact .int _)⟩
      · exact p.elim
  | int_ =>
    cases L with
    | nil => exact p.elim
    | cons a b =>
    cases b with
    | cons _ _ => cases a <;> exact (show False from p).elim
    | nil =>
    cases a <;> (try exact (show False from p).elim)
    · exact call_int1 pins s σ H _ us Q I rx (.inr ⟨_, rfl, p m H _ Ext.refl R (.int _)⟩)
    · exact call_int1 pins s σ H _ us Q I rx (.inl ⟨_, rfl, p m H _ Ext.refl R (.int _)⟩)
  | str_ =>
    cases L with
    | nil => exact p.elim
    | cons a b =>
    cases b with
    | cons _ _ => cases a <;> exact (show False from p).elim
    | nil =>
    cases a <;> (try exact (show False from p).elim)
    unfold biSem at p
    dsimp only at p
    split at p
    · exact call_str_int pins s σ H _ us Q I rx ⟨_, rfl, by assumption, p m H _ Ext.refl R (.str _)⟩
    · exact p.elim
  | abs_ =>
    cases L with
    | nil => exact p.elim
    | cons a b =>
    cases b with
    | cons _ _ => cases a <;> exact (show False from p).elim
    | nil =>
    cases a <;> (try exact (show False from p).elim)
    exact call_abs pins s σ H _ us Q I rx ⟨_, rfl, p m H _ Ext.refl R (.int _)⟩
  | max2 =>
    cases L with
    | nil => exact p.elim
    | cons a b =>
    cases b with
    | nil => cases a <;> exact (show False from p).elim
    | cons b c =>
    cases c with
    | cons _ _ => cases a <;> (try exact (show False from p).elim) <;> cases b <;> exact (show False from p).elim
    | nil =>
    cases a <;> (try exact (show False from p).elim) <;> cases b <;> (try exact (show False from p).elim)
    rename_i i j
    refine call_max2 hc pins s σ H _ us Q I rx ⟨i, j, rfl, ?_⟩
    have e : (if j > i then j else i) = max i j := by split <;> omega
    rw [e]
    exact p m H _ Ext.refl R (.int _)
  | min2 =>
    cases L with
    | nil => exact p.elim
    | cons a b =>
    cases b with
    | nil => cases a <;> exact (show False from p).elim
    | cons b c =>
    cases c with
    | cons _ _ => cases a <;> (try exact (show False from p).elim) <;> cases b <;> exact (show False from p).elim
    | nil =>
    cases a <;> (try exact (show False from p).elim) <;> cases b <;> (try exact (show False from p).elim)
    rename_i i j
    refine call_min2 hc pins s σ H _ us Q I rx ⟨i, j, rfl, ?_⟩
    have e : (if j < i then j else i) = min i j := by split <;> omega
    rw [e]
    exact p m H _ Ext.refl R (.int _)
  | max1 =>
    cases L with
    | nil => exact p.elim
    | cons a b =>
    rename_i d ds v vs
    cases b with
    | cons _ _ => exact (show False from p).elim
    | nil =>
    cases e : (listD d S).bind fun xs => (intsD xs).bind maxL with
    | none =>
      have e' : biSem .max1 [d] S = none := by unfold biSem; dsimp only; rw [e]; rfl
      rw [e'] at p; exact p.elim
    | some i =>
      have e' : biSem .max1 [d] S = some (.int i, S) := by unfold biSem; dsimp only; rw [e]; rfl
      obtain ⟨xs, h1, h2⟩ := Option.bind_eq_some_iff.mp e
      obtain ⟨ns, h3, h4⟩ := Option.bind_eq_some_iff.mp h2
      obtain ⟨q, ws, rfl, hq, l⟩ := list_of R a h1
      have e2 := ints_of h3 l
      subst e2
      obtain ⟨g1, g2, g3⟩ := maxL_spec h4
      refine cr_max hc pins s σ H _ us Q I rx ⟨_, ns, rfl, hK ▸ hq, g3, fun k k1 k2 => ?_⟩
      have ek : k = i := Int.le_antisymm (g2 k k1) (k2 i g1)
      subst ek
      exact p.at e' m H _ Ext.refl R (.int _)
  | min1 =>
    cases L with
    | nil => exact p.elim
    | cons a b =>
    rename_i d ds v vs
    cases b with
    | cons _ _ => exact (show False from p).elim
    | nil =>
    cases e : (listD d S).bind fun xs => (intsD xs).bind minL with
    | none =>
      have e' : biSem .min1 [d] S = none := by unfold biSem; dsimp only; rw [e]; rfl
      rw [e'] at p; exact p.elim
    | some i =>
      have e' : biSem .min1 [d] S = some (.int i, S) := by unfold biSem; dsimp only; rw [e]; rfl
      obtain ⟨xs, h1, h2⟩ := Option.bind_eq_some_iff.mp e
      obtain ⟨ns, h3, h4⟩ := Option.bind_eq_some_iff.mp h2
      obtain ⟨q, ws, rfl, hq, l⟩ := list_of R a h1
      have e2 := ints_of h3 l
      subst e2
      obtain ⟨g1, g2, g3⟩ := minL_spec h4
      refine cr_min hc pins s σ H _ us Q I rx ⟨_, ns, rfl, hK ▸ hq, g3, fun k k1 k2 => ?_⟩
      have ek : k = i := Int.le_antisymm (k2 i g1) (g2 k k1)
      subst ek
      exact p.at e' m H _ Ext.refl R (.int _)
  | sum_ =>
    cases L with
    | nil => exact p.elim
    | cons a b =>
    rename_i d ds v vs
    cases b with
    | cons _ _ => exact (show False from p).elim
    | nil =>
    cases e : (listD d S).bind intsD with
    | none =>
      have e' : biSem .sum_ [d] S = none := by unfold biSem; dsimp only; rw [e]; rfl
      rw [e'] at p; exact p.elim
    | some ns =>
      have e' : biSem .sum_ [d] S = some (.int ns.sum, S) := by unfold biSem; dsimp only; rw [e]; rfl
      obtain ⟨xs, h1, h3⟩ := Option.bind_eq_some_iff.mp e
      obtain ⟨q, ws, rfl, hq, l⟩ := list_of R a h1
      have e2 := ints_of h3 l
      subst e2
      exact cr_sum hc pins s σ H _ us Q I rx ⟨_, ns, rfl, hK ▸ hq, p.at e' m H _ Ext.refl R (.int _)⟩
  | all_ =>
    cases L with
    | nil => exact p.elim
    | cons a b =>
    rename_i d ds v vs
    cases b with
    | cons _ _ => exact (show False from p).elim
    | nil =>
    cases e : (listD d S).bind blsD with
    | none =>
      have e' : biSem .all_ [d] S = none := by unfold biSem; dsimp only; rw [e]; rfl
      rw [e'] at p; exact p.elim
    | some ns =>
      have e' : biSem .all_ [d] S = some (.bl (ns.all id), S) := by unfold biSem; dsimp only; rw [e]; rfl
      obtain ⟨xs, h1, h3⟩ := Option.bind_eq_some_iff.mp e
      obtain ⟨q, ws, rfl, hq, l⟩ := list_of R a h1
      have e2 := bls_of h3 l
      subst e2
      exact cr_all hc pins s σ H _ us Q I rx ⟨_, ns, rfl, hK ▸ hq, p.at e' m H _ Ext.refl R (.bl _)⟩
  | any_ =>
    cases L with
    | nil => exact p.elim
    | cons a b =>
    rename_i d ds v vs
    cases b with
    | cons _ _ => exact (show False from p).elim
    | nil =>
    cases e : (listD d S).bind blsD with
    | none =>
      have e' : biSem .any_ [d] S = none := by unfold biSem; dsimp only; rw [e]; rfl
      rw [e'] at p; exact p.elim
    | some ns =>
      have e' : biSem .any_ [d] S = some (.bl (ns.any id), S) := by unfold biSem; dsimp only; rw [e]; rfl
      obtain ⟨xs, h1, h3⟩ := Option.bind_eq_some_iff.mp e
      obtain ⟨q, ws, rfl, hq, l⟩ := list_of R a h1
      have e2 := bls_of h3 l
      subst e2
      exact cr_any hc pins s σ H _ us Q I rx ⟨_, ns, rfl, hK ▸ hq, p.at e' m H _ Ext.refl R (.bl _)⟩
  | list_ =>
    cases L with
    | nil => exact p.elim
    | cons a b =>
    rename_i d ds v vs
    cases b with
    | cons _ _ => exact (show False from p).elim
    | nil =>
    cases e : seqD d S with
    | none =>
      have e' : biSem .list_ [d] S = none := by unfold biSem; dsimp only; rw [e]; rfl
      rw [e'] at p; exact p.elim
    | some xs =>
      have e' : biSem .list_ [d] S = some (.loc S.length, S ++ [.lst xs]) := by unfold biSem; dsimp only; rw [e]; rfl
      obtain ⟨q, ws, rfl, hq, l⟩ := seq_of R a e
      refine call_list_of pins s σ H _ us Q I rx ⟨_, ws, rfl, hK ▸ hq, fun z hz => ?_⟩
      obtain ⟨a, b, c⟩ := newLst R l hz
      exact p.at e' _ _ _ b a c
  | tuple_ =>
    cases L with
    | nil => exact p.elim
    | cons a b =>
    rename_i d ds v vs
    cases b with
    | cons _ _ => exact (show False from p).elim
    | nil =>
    cases e : seqD d S with
    | none =>
      have e' : biSem .tuple_ [d] S = none := by unfold biSem; dsimp only; rw [e]; rfl
      rw [e'] at p; exact p.elim
    | some xs =>
      have e' : biSem .tuple_ [d] S = some (.tup xs, S) := by unfold biSem; dsimp only; rw [e]; rfl
      obtain ⟨q, ws, rfl, hq, l⟩ := seq_of R a e
      refine call_tuple_of pins s σ H _ us Q I rx ⟨_, ws, rfl, ?_⟩
      rcases hq with hq | hq
      · refine .inl ⟨hK ▸ hq, fun z hz => ?_⟩
        obtain ⟨a, b, c⟩ := newTup R l hz
        exact p.at e' _ _ _ b a c
      · exact .inr ⟨hK ▸ hq, p.at e' m H _ Ext.refl R (.tup hq l)⟩
  | isi =>
    cases L with
    | nil => exact p.elim
    | cons a b =>
    rename_i d ds v vs
    cases b with
    | nil => exact (show False from p).elim
    | cons b c =>
    cases c with
    | cons _ _ => cases b <;> exact (show False from p).elim
    | nil =>
    cases b <;> (try exact (show False from p).elim)
    rename_i n
    cases e : (tyName d S).bind fun t => (kitB t n).map fun b => ((.bl b, S) : D × Sto) with
    | none =>
      have e' : biSem .isi [d, .ty n] S = none := by unfold biSem; dsimp only; rw [e]
      rw [e'] at p; exact p.elim
    | some r =>
      have e' : biSem .isi [d, .ty n] S = some r := by unfold biSem; dsimp only; rw [e]
      obtain ⟨t, h1, h2⟩ := Option.bind_eq_some_iff.mp e
      obtain ⟨k, h3, rfl⟩ := Option.map_eq_some_iff.mp h2
      exact call_isi pins s σ H _ us Q I rx ⟨_, _, _, _, k, rfl, .ty n, ty_of R hK a h1, kit_ty h3, p.at e' m H _ Ext.refl R (.bl _)⟩
  | dict_ =>
    cases L with
    | nil => exact p.elim
    | cons a b =>
    cases b with
    | cons _ _ => cases a <;> exact (show False from p).elim
    | nil =>
    cases a <;> (try exact (show False from p).elim)
    rename_i e
    unfold biSem at p
    dsimp only at p
    split at p
    · rename_i hx
      obtain ⟨a1, v1, m1, g1, l1⟩ := R.dk hx
      rw [e] at m1; cases m1
      refine call_dictD pins s σ H _ us Q I rx ⟨_, v1, rfl, .inl g1, fun q hq => ?_⟩
      obtain ⟨Rn, en, rn⟩ := newDk R l1 hq
      exact p _ _ _ en Rn rn
    · rename_i hx
      obtain ⟨a1, m1, rc⟩ := R.cell _ _ hx
      rw [e] at m1; cases m1
      cases rc with
      | fk g1 l1 =>
      refine call_dictD pins s σ H _ us Q I rx ⟨_, _, rfl, .inr ⟨_, g1⟩, fun q hq => ?_⟩
      obtain ⟨Rn, en, rn⟩ := newDk R l1 hq
      exact p _ _ _ en Rn rn
    · exact p.elim
  | ord_ =>
    cases L with
    | nil => exact p.elim
    | cons a b =>
    cases b with
    | cons _ _ => cases a <;> exact (show False from p).elim
    | nil =>
    cases a <;> (try exact (show False from p).elim)
    unfold biSem at p
    dsimp only at p
    split at p
    · exact call_ord pins s σ H _ us Q I rx ⟨_, rfl, by assumption, p m H _ Ext.refl R (.int _)⟩
    · exact p.elim
  | repr_ =>
    cases L with
    | nil => exact p.elim
    | cons a b =>
    rename_i d ds v vs
    cases b with
    | cons _ _ => exact (show False from p).elim
    | nil =>
    have go : ∀ (x : Addr), v = .ref x → PO A m H ((toR S 32 d).bind fun q => if q.showable = true ∧ q.depth ≤ 60 ∧ q.shown.length ≤ sizeLine then some (.str q.shown, S) else none) Q → wpAny (model X.prog X.w) X.A (call BI.repr_.val us) (EP X pins σ Q) X.xe s := by
      rintro x rfl p
      cases e : toR S 32 d with
      | none => rw [e] at p; exact p.elim
      | some q =>
        rw [e] at p
        by_cases c : q.showable = true ∧ q.depth ≤ 60 ∧ q.shown.length ≤ sizeLine
        · have e2 : (if q.showable = true ∧ q.depth ≤ 60 ∧ q.shown.length ≤ sizeLine then some (D.str q.shown, S) else none) = some (D.str q.shown, S) := if_pos c
          exact call_repr hy gd hu pins s σ H _ us Q I rx ⟨x, q, rfl, hK ▸ dq_of R _ _ _ _ e a, c.1, c.2.1, c.2.2, PO.at (r := (some q).bind _) p e2 m H _ Ext.refl R (.str _)⟩
        · have e2 : (if q.showable = true ∧ q.depth ≤ 60 ∧ q.shown.length ≤ sizeLine then some (D.str q.shown, S) else none) = none := if_neg c
          have p2 : PO A m H (if q.showable = true ∧ q.depth ≤ 60 ∧ q.shown.length ≤ sizeLine then some (D.str q.shown, S) else none) Q := p
          rw [e2] at p2
          exact p2.elim
    cases a with
    | tup t l => exact go _ rfl p
    | rl t l => exact go _ rfl p
    | loc e => exact go _ rfl p
    | _ => exact (show False from p).elim
def BM.id : BM → String
  | .append => "list.append" | .extend => "list.extend" | .pop => "list.pop" | .reverse => "list.reverse"
theorem bm_ok (b : BM) : MtR X b.id (rBm A b) := by
  intro pins s σ H x xs v us Q I rx rxs h
  obtain ⟨m, S, dx, ds, R, r1, L, p⟩ := h
  cases r1 <;> (try exact (show False from p).elim)
  rename_i i a e
  unfold bmSem at p
  dsimp only at p
  split at p
  · rename_i ys hx
    obtain ⟨a1, v1, m1, g1, l1⟩ := R.lst hx
    rw [e] at m1; cases m1
    split at p
    · rename_i d
      obtain ⟨w, rfl, rw⟩ := L.one
      split at p
      · obtain ⟨a, b⟩ := R.setLst e g1 (l1.app L)
        exact mt_append pins s σ H _ _ v us Q I rx rxs ⟨_, _, _, rfl, rfl, g1, by rw [l1.length]; assumption, p m _ _ b a .non⟩
      · exact p.elim
    · rename_i c
      obtain ⟨w, rfl, rw'⟩ := L.one
      split at p
      · rename_i zs hz
        obtain ⟨a2, v2, m2, g2, l2⟩ := R.lst hz
        cases rw' with
        | loc e2 =>
        rw [e2] at m2; cases m2
        split at p
        · obtain ⟨a, b⟩ := R.setLst e g1 (l1.app l2)
          exact mt_extend pins s σ H _ _ v us Q I rx rxs ⟨_, _, _, _, rfl, rfl, g1, g2, by rw [l1.length, l2.length]; assumption, p m _ _ b a .non⟩
        · exact p.elim
      · exact p.elim
    · cases L
      cases hl : ys[ys.length - 1]? with
      | none => rw [hl] at p; exact p.elim
      | some d =>
        rw [hl] at p
        obtain ⟨w, h1, h2⟩ := l1.get hl
        obtain ⟨a, b⟩ := R.setLst e g1 l1.dropLast
        exact mt_pop pins s σ H _ _ v us Q I rx rxs ⟨_, _, w, rfl, rfl, g1, by rw [l1.length]; exact h1, p m _ _ b a (h2.mono b)⟩
    · cases L
      obtain ⟨a, b⟩ := R.setLst e g1 l1.rev
      exact mt_reverse pins s σ H _ _ v us Q I rx rxs ⟨_, _, rfl, rfl, g1, p m _ _ b a .non⟩
    · exact p.elim
  · exact p.elim
theorem seti_ok (hu : X.A.units + 1 < cLine) : PSet X (rSetI A) := by
  intro pins s σ H o i v ov iv u Q I ro ri rv h
  obtain ⟨m, S, dx, dy, d, R, r1, r2, r3, p⟩ := h
  cases r1 <;> (try exact (show False from p).elim)
  rename_i k a e
  cases hs : setSem (.loc k) dy d S with
  | none => rw [hs] at p; exact p.elim
  | some S' =>
    rw [hs] at p
    simp only [setSem] at hs
    split at hs
    · rename_i xs j hx
      obtain ⟨n, h1, rfl⟩ := Option.map_eq_some_iff.mp hs
      obtain ⟨a1, v1, m1, g1, l1⟩ := R.lst hx
      rw [e] at m1; cases m1
      cases r2
      obtain ⟨a, b⟩ := R.setLst e g1 (l1.set r3 n)
      exact set_list pins s σ H _ _ v ov iv u Q I ro ri rv ⟨_, _, _, n, rfl, rfl, g1, by rw [l1.length]; exact h1, p m _ b a⟩
    · rename_i kvs j hx
      split at hs
      · cases hs
        obtain ⟨a1, ws, m1, g1, l1⟩ := R.dk hx
        rw [e] at m1; cases m1
        cases r2
        obtain rfl : ov = Value.ref _ := ro
        have ex : Ext A m H m (upd H a (.dK (putK ws (.inl j) v))) := Ext.write g1 (fun _ z => by cases z) fun _ _ z => by cases z
        have R' := R.write (o := .dK (putK ws (.inl j) v)) (c := .dk (putD kvs (.inl j) d)) e ex (.dk upd_same (RepK.mono ex (l1.put r3)))
        exact d_setItem hu I (DPut.k (k := .inl j) g1 (by rw [l1.length]; assumption)) ri rv fun s' I' => ⟨_, I', p m _ ex R'⟩
      · cases hs
    · rename_i kvs j hx
      split at hs
      · cases hs
        obtain ⟨a1, ws, m1, g1, l1⟩ := R.dk hx
        rw [e] at m1; cases m1
        cases r2
        obtain rfl : ov = Value.ref _ := ro
        have ex : Ext A m H m (upd H a (.dK (putK ws (.inr j) v))) := Ext.write g1 (fun _ z => by cases z) fun _ _ z => by cases z
        have R' := R.write (o := .dK (putK ws (.inr j) v)) (c := .dk (putD kvs (.inr j) d)) e ex (.dk upd_same (RepK.mono ex (l1.put r3)))
        exact d_setItem hu I (DPut.k (k := .inr j) g1 (by rw [l1.length]; assumption)) ri rv fun s' I' => ⟨_, I', p m _ ex R'⟩
      · cases hs
    · cases hs
end
end DI

set_option Elab.async false
set_option linter.all false
set_option maxRecDepth 100000
set_option maxHeartbeats 4000000
/-! The layer's judgements by what the language says: one lemma a construct. -/
namespace DI
open L2 PySem PySem.Spec PyProof.Rows

inductive RepX (A : Ad) (m : List Addr) (H : Hp) : Option (List (Str × D)) → Option Addr → Prop
  | no : RepX A m H none none
  | so {fs : List (Str × D)} {d : Addr} {ws : List (Str × V)} : H d = some (.xd ws) → RepK A m H fs ws → RepX A m H (some fs) (some d)
def RepS (A : Ad) (m : List Addr) (H : Hp) (σD : Sl) (σ : L2.St) : Prop := σ.length = σD.length ∧ ∀ (i : Nat) (d : D), σD[i]? = some (some d) → ∃ v, σ[i]? = some (some v) ∧ RepD A m H d v
def Post {α β : Type} (A : Ad) (E : XK) (R : List Addr → Hp → α → β → Prop) (m : List Addr) (H : Hp) (o : Out α) (Q : β → Hp → Prop) : Prop :=
  match o with
  | .ok a S' => ∀ m' H' b, Ext A m H m' H' → Rep A m' S' H' → R m' H' a b → Q b H'
  | .err c fs S' => ∀ m' H' dd, Ext A m H m' H' → Rep A m' S' H' → RepX A m' H' fs dd → E (.ref (A.cl c)) dd H'
  | .bad => False
def tG {α β : Type} (A : Ad) (E : XK) (R : List Addr → Hp → α → β → Prop) (f : Sl → Sto → Out α) : L2.St → Hp → (β → Hp → Prop) → Prop :=
  fun σ H Q => ∃ m S σD, Rep A m S H ∧ RepS A m H σD σ ∧ Post A E R m H (f σD S) Q
abbrev tE (A : Ad) (E : XK) (f : Sl → Sto → Out D) : TE := tG A E (RepD A) f
def RB : List Addr → Hp → D → Bool → Prop := fun _ _ d b => d = .bl b
abbrev tT (A : Ad) (E : XK) (f : Sl → Sto → Out D) : TT := tG A E RB f
abbrev tAs (A : Ad) (E : XK) (f : Sl → Sto → Out (List D)) : TA := tG A E (RepL A) f
def RO : List Addr → Hp → Option Int → Option Int → Prop := fun _ _ d b => d = b
abbrev tOx (A : Ad) (E : XK) (f : Sl → Sto → Out (Option Int)) : TO := tG A E RO f

section
variable {α β γ δ : Type} {A : Ad} {E : XK} {R1 : List Addr → Hp → α → β → Prop} {R2 : List Addr → Hp → γ → δ → Prop} {m m' : List Addr} {H H' : Hp} {o : Out α} {S : Sto}
theorem RepS.mono {σD : Sl} {σ : L2.St} (h : RepS A m H σD σ) (e : Ext A m H m' H') : RepS A m' H' σD σ := ⟨h.1, fun i d x => let ⟨v, a, b⟩ := h.2 i d x; ⟨v, a, b.mono e⟩⟩
theorem RepS.set {σD : Sl} {σ : L2.St} (h : RepS A m H σD σ) {d : D} {v : V} (r : RepD A m H d v) (i : Nat) : RepS A m H (σD.set i (some d)) (σ.set i (some v)) := by
  refine ⟨by rw [List.length_set, List.length_set]; exact h.1, fun j e hj => ?_⟩
  by_cases c : i = j
  · subst c
    have hl : i < σD.length := by
      have := (List.getElem?_eq_some_iff.mp hj).1
      rwa [List.length_set] at this
    rw [List.getElem?_set_self hl] at hj
    cases hj
    exact ⟨v, by rw [List.getElem?_set_self (by rw [h.1]; exact hl)], r⟩
  · rw [List.getElem?_set_ne c] at hj
    rw [List.getElem?_set_ne c]
    exact h.2 j e hj
theorem RepS.none {σD : Sl} {σ : L2.St} (h : RepS A m H σD σ) (i : Nat) : RepS A m H (σD.set i none) (σ.set i none) := by
  refine ⟨by rw [List.length_set, List.length_set]; exact h.1, fun j e hj => ?_⟩
  by_cases c : i = j
  · subst c
    have hl : i < σD.length := by
      have := (List.getElem?_eq_some_iff.mp hj).1
      rwa [List.length_set] at this
    rw [List.getElem?_set_self hl] at hj
    cases hj
  · rw [List.getElem?_set_ne c] at hj
    rw [List.getElem?_set_ne c]
    exact h.2 j e hj
theorem RepS.wipe {σD : Sl} {σ : L2.St} (h : RepS A m H σD σ) : ∀ vs : List Nat, RepS A m H (wipeD σD vs) (L2.wipe σ vs)
  | [] => h
  | v :: vs => (RepS.wipe h vs).none v
theorem Post.mono {Q Q' : β → Hp → Prop} (p : Post A E R1 m H o Q) (h : ∀ b H', Q b H' → Q' b H') : Post A E R1 m H o Q' := by
  cases o with
  | ok a S => exact fun m' H' b e r x => h _ _ (p m' H' b e r x)
  | err c fs S => exact p
  | bad => exact p
theorem Post.base {Q : β → Hp → Prop} (p : Post A E R1 m H o Q) (e : Ext A m H m' H') : Post A E R1 m' H' o Q := by
  cases o with
  | ok a S => exact fun m2 H2 b e2 r x => p m2 H2 b (e.trans e2) r x
  | err c fs S => exact fun m2 H2 b e2 r x => p m2 H2 b (e.trans e2) r x
  | bad => exact p
theorem Post.seq {f : α → Sto → Out γ} {Q : δ → Hp → Prop} (p : Post A E R2 m H (o.bind f) Q) :
    Post A E R1 m H o (fun b H1 => ∃ m1 S1 a, Ext A m H m1 H1 ∧ Rep A m1 S1 H1 ∧ R1 m1 H1 a b ∧ Post A E R2 m1 H1 (f a S1) Q) := by
  cases o with
  | ok a S => exact fun m1 H1 b e r x => ⟨m1, S, a, e, r, x, Post.base (o := f a S) p e⟩
  | err c fs S => exact p
  | bad => exact p
theorem Post.po {r : Option (D × Sto)} {Q : VK} (p : Post A E (RepD A) m H (.of r) Q) : PO A m H r Q := by
  cases r with
  | none => exact p
  | some z => exact p
theorem Post.pd (R : Rep A m S H) {r : Option D} {Q : VK} (p : Post A E (RepD A) m H (.at S r) Q) : PD A m H r Q := by
  cases r with
  | none => exact p
  | some z => exact fun v rv => p m H v Ext.refl R rv
theorem Post.pb (R : Rep A m S H) {r : Option Bool} {Q : VK} (p : Post A E (RepD A) m H (.at S (r.map D.bl)) Q) : PB r fun b => Q (.bl b) H := by
  cases r with
  | none => exact p
  | some z => exact p m H _ Ext.refl R (.bl z)
theorem Post.pt (R : Rep A m S H) {r : Option Bool} {Q : Bool → Hp → Prop} (p : Post A E RB m H (.at S (r.map D.bl)) Q) : PB r fun b => Q b H := by
  cases r with
  | none => exact p
  | some z => exact p m H _ Ext.refl R rfl
theorem Post.ok (R : Rep A m S H) {a : α} {b : β} {Q : β → Hp → Prop} (p : Post A E R1 m H (.ok a S) Q) (r : R1 m H a b) : Q b H := p m H b Ext.refl R r
end
theorem PEi {X : Cx} {e : Expr} {t t' : TE} (h : PE X e t) (i : ∀ σ H Q, t' σ H Q → t σ H Q) : PE X e t' := ⟨fun pins s σ H Q I hw => h.run pins s σ H Q I (i _ _ _ hw)⟩
theorem PTi {X : Cx} {e : Expr} {t t' : TT} (h : PT X e t) (i : ∀ σ H Q, t' σ H Q → t σ H Q) : PT X e t' := ⟨fun pins s σ H Q I hw => h.run pins s σ H Q I (i _ _ _ hw)⟩
theorem PWi {X : Cx} {e : Expr} {t t' : TT} (h : PW X e t) (i : ∀ σ H Q, t' σ H Q → t σ H Q) : PW X e t' := ⟨fun wh pins s σ H Q I hw => h.run wh pins s σ H Q I (i _ _ _ hw)⟩
theorem PAi {X : Cx} {e : List Expr} {t t' : TA} (h : PA X e t) (i : ∀ σ H Q, t' σ H Q → t σ H Q) : PA X e t' := ⟨fun pos pins s σ H Q I hw => h.run pos pins s σ H Q I (i _ _ _ hw)⟩
theorem PSi {X : Cx} {e : Stmt} {t t' : TS} (h : PS X e t) (i : ∀ D σ H, t' D σ H → t D σ H) : PS X e t' := ⟨fun pins s σ H D I hw => h.run pins s σ H D I (i _ _ _ hw)⟩
theorem PSsi {X : Cx} {e : List Stmt} {t t' : TS} (h : PSs X e t) (i : ∀ D σ H, t' D σ H → t D σ H) : PSs X e t' := ⟨fun pins s σ H D I hw => h.run pins s σ H D I (i _ _ _ hw)⟩

section
variable {X : Cx} {A : Ad} {E : XK} {a b c : Expr} {fa fb fc : Sl → Sto → Out D} {pos : Pos}
theorem s_cst {d : D} {v : V} {e : Expr} (h : PE X e (tC v)) (r : ∀ m H, RepD A m H d v) : PE X e (tE A E fun _ S => .ok d S) :=
  PEi h fun σ H Q ⟨m, S, σD, R, Rs, p⟩ => p.ok R (r m H)
theorem s_var {i : Nat} {x : Str} (h : PE X (.Name x pos) (tVar i)) : PE X (.Name x pos) (tE A E fun σ S => match σ[i]? with | some (some d) => .ok d S | _ => .bad) :=
  PEi h fun σ H Q ⟨m, S, σD, R, Rs, p⟩ => by
    dsimp only at p
    split at p
    · rename_i d hd
      obtain ⟨v, h1, h2⟩ := Rs.2 i d hd
      exact ⟨v, h1, p.ok R h2⟩
    · exact p.elim
theorem s_bin (hK : A.K = X.K) {o : Operator} (ha : PE X a (tE A E fa)) (hb : PE X b (tE A E fb)) :
    PE X (.BinOp a o b pos) (tE A E fun σ S => (fa σ S).bind fun x S => (fb σ S).bind fun y S => .of (opSem o x y S)) :=
  PEi (pe_op (op_ok hK o) ha hb) fun σ H Q ⟨m, S, σD, R, Rs, p⟩ =>
    ⟨m, S, σD, R, Rs, p.seq.mono fun x H1 ⟨m1, S1, dx, e1, R1, rx, p1⟩ => ⟨m1, S1, σD, R1, Rs.mono e1, p1.seq.mono fun y H2 ⟨m2, S2, dy, e2, R2, ry, p2⟩ => ⟨m2, S2, dx, dy, R2, rx.mono e2, ry, p2.po⟩⟩⟩
theorem s_neg (ha : PE X a (tE A E fa)) : PE X (.UnaryOp .USub a pos) (tE A E fun σ S => (fa σ S).bind fun x S => match x with | .int i => .ok (.int (-i)) S | _ => .bad) :=
  PEi (pe_un un_neg ha) fun σ H Q ⟨m, S, σD, R, Rs, p⟩ => ⟨m, S, σD, R, Rs, p.seq.mono fun x H1 ⟨m1, S1, dx, e1, R1, rx, p1⟩ => by
    cases rx <;> (try exact (show False from p1).elim)
    exact ⟨_, rfl, p1.ok R1 (.int _)⟩⟩
theorem s_cmp (hK : A.K = X.K) (hW : A.w = X.w) (hu : X.A.units + 64 < cLine) {o : CmpOp} (ha : PE X a (tE A E fa)) (hb : PE X b (tE A E fb)) (hm : behindInMarks o b = false) :
    PE X (.Compare a [o] [b] pos) (tE A E fun σ S => (fa σ S).bind fun x S => (fb σ S).bind fun y S => .at S ((cmpSem o x y S).map D.bl)) :=
  PEi (pe_cmpR (cmp_ok hK hW hu o) ha hb hm) fun σ H Q ⟨m, S, σD, R, Rs, p⟩ =>
    ⟨m, S, σD, R, Rs, p.seq.mono fun x H1 ⟨m1, S1, dx, e1, R1, rx, p1⟩ => ⟨m1, S1, σD, R1, Rs.mono e1, p1.seq.mono fun y H2 ⟨m2, S2, dy, e2, R2, ry, p2⟩ => ⟨m2, S2, dx, dy, R2, rx.mono e2, ry, p2.pb R2⟩⟩⟩
theorem s_cmpT (hK : A.K = X.K) (hW : A.w = X.w) (hu : X.A.units + 64 < cLine) {o : CmpOp} (ha : PE X a (tE A E fa)) (hb : PE X b (tE A E fb)) (hm : behindInMarks o b = false) :
    PT X (.Compare a [o] [b] pos) (tT A E fun σ S => (fa σ S).bind fun x S => (fb σ S).bind fun y S => .at S ((cmpSem o x y S).map D.bl)) :=
  PTi (pt_cmpR (cmp_ok hK hW hu o) ha hb hm) fun σ H Q ⟨m, S, σD, R, Rs, p⟩ =>
    ⟨m, S, σD, R, Rs, p.seq.mono fun x H1 ⟨m1, S1, dx, e1, R1, rx, p1⟩ => ⟨m1, S1, σD, R1, Rs.mono e1, p1.seq.mono fun y H2 ⟨m2, S2, dy, e2, R2, ry, p2⟩ => ⟨m2, S2, dx, dy, R2, rx.mono e2, ry, by
      have q := p2.pt R2
      cases hc : cmpSem o dx dy S2 with
      | none => rw [hc] at q; exact q
      | some k => rw [hc] at q; exact ⟨k, rfl, q⟩⟩⟩⟩
theorem s_chn (hK : A.K = X.K) (hW : A.w = X.w) (hu : X.A.units + 64 < cLine) {o o' : CmpOp} (ha : PE X a (tE A E fa)) (hb : PE X b (tE A E fb)) (hc : PE X c (tE A E fc)) (hm : lastMarks [o, o'] [b, c] = false) :
    PE X (.Compare a [o, o'] [b, c] pos) (tE A E fun σ S => (fa σ S).bind fun x S => (fb σ S).bind fun y S => match cmpSem o x y S with
      | some true => (fc σ S).bind fun z S => .at S ((cmpSem o' y z S).map D.bl)
      | some false => .ok (.bl false) S
      | none => .bad) :=
  PEi (pe_chain (cmp_ok hK hW hu o) (cmp_ok hK hW hu o') ha hb hc hm) fun σ H Q ⟨m, S, σD, R, Rs, p⟩ =>
    ⟨m, S, σD, R, Rs, p.seq.mono fun x H1 ⟨m1, S1, dx, e1, R1, rx, p1⟩ => ⟨m1, S1, σD, R1, Rs.mono e1, p1.seq.mono fun y H2 ⟨m2, S2, dy, e2, R2, ry, p2⟩ => ⟨m2, S2, dx, dy, R2, rx.mono e2, ry, by
      cases hc : cmpSem o dx dy S2 with
      | none => rw [hc] at p2; exact p2
      | some k =>
        rw [hc] at p2
        refine ⟨k, rfl, ?_⟩
        cases k with
        | false => exact iteF (p2.ok R2 (.bl false))
        | true =>
          exact iteT ⟨m2, S2, σD, R2, Rs.mono (e1.trans e2), (Post.seq p2).mono fun z H3 ⟨m3, S3, dz, e3, R3, rz, p3⟩ => ⟨m3, S3, dy, dz, R3, ry.mono e3, rz, p3.pb R3⟩⟩⟩⟩⟩
theorem s_chnT (hK : A.K = X.K) (hW : A.w = X.w) (hu : X.A.units + 64 < cLine) {o o' : CmpOp} (ha : PE X a (tE A E fa)) (hb : PE X b (tE A E fb)) (hc : PE X c (tE A E fc)) (hm : lastMarks [o, o'] [b, c] = false) :
    PT X (.Compare a [o, o'] [b, c] pos) (tT A E fun σ S => (fa σ S).bind fun x S => (fb σ S).bind fun y S => match cmpSem o x y S with
      | some true => (fc σ S).bind fun z S => .at S ((cmpSem o' y z S).map D.bl)
      | some false => .ok (.bl false) S
      | none => .bad) :=
  PTi (pt_chain (cmp_ok hK hW hu o) (cmp_ok hK hW hu o') ha hb hc hm) fun σ H Q ⟨m, S, σD, R, Rs, p⟩ =>
    ⟨m, S, σD, R, Rs, p.seq.mono fun x H1 ⟨m1, S1, dx, e1, R1, rx, p1⟩ => ⟨m1, S1, σD, R1, Rs.mono e1, p1.seq.mono fun y H2 ⟨m2, S2, dy, e2, R2, ry, p2⟩ => ⟨m2, S2, dx, dy, R2, rx.mono e2, ry, by
      cases hc : cmpSem o dx dy S2 with
      | none => rw [hc] at p2; exact p2
      | some k =>
        rw [hc] at p2
        refine ⟨k, rfl, ?_⟩
        cases k with
        | false => exact iteF ⟨false, rfl, p2.ok R2 rfl⟩
        | true =>
          exact iteT ⟨m2, S2, σD, R2, Rs.mono (e1.trans e2), (Post.seq p2).mono fun z H3 ⟨m3, S3, dz, e3, R3, rz, p3⟩ => ⟨m3, S3, dy, dz, R3, ry.mono e3, rz, by
            have q := p3.pt R3
            cases hc : cmpSem o' dy dz S3 with
            | none => rw [hc] at q; exact q
            | some k => rw [hc] at q; exact ⟨k, rfl, q⟩⟩⟩⟩⟩⟩
/-- a plain expression as a test -/
theorem s_plain (hK : A.K = X.K) {e : Expr} {f : Sl → Sto → Out D} (h : PE X e (tE A E f)) (he : ∀ whole, isTrue e X.env whole = (do let v ← whole; standAt e.pos; holding [v] (truthy v))) :
    PT X e (tT A E fun σ S => fin true (f σ S)) :=
  PTi (pt_truth h he) fun σ H Q ⟨m, S, σD, R, Rs, p⟩ => ⟨m, S, σD, R, Rs, (Post.seq (f := fun d S => .at S ((truSem d S).map D.bl)) p).mono fun x H1 ⟨m1, S1, dx, e1, R1, rx, p1⟩ => by
    have q := p1.pt R1
    cases hc : truSem dx S1 with
    | none => rw [hc] at q; exact q.elim
    | some k => rw [hc] at q; exact ⟨k, tru_of hK R1 rx hc, q⟩⟩
theorem s_not (hK : A.K = X.K) (ha : PE X a (tE A E fa)) : PE X (.UnaryOp .Not a pos) (tE A E fun σ S => (fa σ S).bind fun x S => .at S ((truSem x S).map fun b => D.bl (!b))) :=
  PEi (pe_notT ha) fun σ H Q ⟨m, S, σD, R, Rs, p⟩ => ⟨m, S, σD, R, Rs, p.seq.mono fun x H1 ⟨m1, S1, dx, e1, R1, rx, p1⟩ => by
    cases hc : truSem dx S1 with
    | none => rw [hc] at p1; exact p1.elim
    | some k => rw [hc] at p1; exact ⟨k, tru_of hK R1 rx hc, p1.ok R1 (.bl _)⟩⟩
theorem s_notT (ha : PT X a (tT A E fa)) : PT X (.UnaryOp .Not a pos) (tT A E fun σ S => (fa σ S).bind fun x S => .at S ((truSem x S).map fun b => D.bl (!b))) :=
  PTi (pt_not ha) fun σ H Q ⟨m, S, σD, R, Rs, p⟩ => ⟨m, S, σD, R, Rs, p.seq.mono fun x H1 ⟨m1, S1, dx, e1, R1, rx, p1⟩ => by
    have e : dx = .bl x := rx
    subst e
    exact p1.ok R1 rfl⟩
theorem s_and (hK : A.K = X.K) {es : List Expr} (ha : PE X a (tE A E fa)) (hb : PE X (.BoolOp .And (b :: es) pos) (tE A E fb)) :
    PE X (.BoolOp .And (a :: b :: es) pos) (tE A E fun σ S => (fa σ S).bind fun x S => match truSem x S with | some true => fb σ S | some false => .ok x S | none => .bad) :=
  PEi (pe_andT ha hb) fun σ H Q ⟨m, S, σD, R, Rs, p⟩ => ⟨m, S, σD, R, Rs, p.seq.mono fun x H1 ⟨m1, S1, dx, e1, R1, rx, p1⟩ => by
    cases hc : truSem dx S1 with
    | none => rw [hc] at p1; exact p1.elim
    | some k =>
      rw [hc] at p1
      refine ⟨k, tru_of hK R1 rx hc, ?_⟩
      cases k with
      | false => exact iteF (p1.ok R1 rx)
      | true => exact iteT ⟨m1, S1, σD, R1, Rs.mono e1, p1⟩⟩
theorem s_or (hK : A.K = X.K) {es : List Expr} (ha : PE X a (tE A E fa)) (hb : PE X (.BoolOp .Or (b :: es) pos) (tE A E fb)) :
    PE X (.BoolOp .Or (a :: b :: es) pos) (tE A E fun σ S => (fa σ S).bind fun x S => match truSem x S with | some true => .ok x S | some false => fb σ S | none => .bad) :=
  PEi (pe_orT ha hb) fun σ H Q ⟨m, S, σD, R, Rs, p⟩ => ⟨m, S, σD, R, Rs, p.seq.mono fun x H1 ⟨m1, S1, dx, e1, R1, rx, p1⟩ => by
    cases hc : truSem dx S1 with
    | none => rw [hc] at p1; exact p1.elim
    | some k =>
      rw [hc] at p1
      refine ⟨k, tru_of hK R1 rx hc, ?_⟩
      cases k with
      | true => exact iteT (p1.ok R1 rx)
      | false => exact iteF ⟨m1, S1, σD, R1, Rs.mono e1, p1⟩⟩
theorem s_andT {es : List Expr} (ha : PT X a (tT A E fa)) (hb : PW X (.BoolOp .And (b :: es) pos) (tT A E fb)) :
    PW X (.BoolOp .And (a :: b :: es) pos) (tT A E fun σ S => (fa σ S).bind fun x S => match truSem x S with | some true => fb σ S | some false => .ok x S | none => .bad) :=
  PWi (pw_and ha hb) fun σ H Q ⟨m, S, σD, R, Rs, p⟩ => ⟨m, S, σD, R, Rs, p.seq.mono fun x H1 ⟨m1, S1, dx, e1, R1, rx, p1⟩ => by
    have e : dx = .bl x := rx
    subst e
    cases x with
    | false => exact iteF (p1.ok R1 rfl)
    | true => exact iteT ⟨m1, S1, σD, R1, Rs.mono e1, p1⟩⟩
theorem s_orT {es : List Expr} (ha : PT X a (tT A E fa)) (hb : PW X (.BoolOp .Or (b :: es) pos) (tT A E fb)) :
    PW X (.BoolOp .Or (a :: b :: es) pos) (tT A E fun σ S => (fa σ S).bind fun x S => match truSem x S with | some true => .ok x S | some false => fb σ S | none => .bad) :=
  PWi (pw_or ha hb) fun σ H Q ⟨m, S, σD, R, Rs, p⟩ => ⟨m, S, σD, R, Rs, p.seq.mono fun x H1 ⟨m1, S1, dx, e1, R1, rx, p1⟩ => by
    have e : dx = .bl x := rx
    subst e
    cases x with
    | true => exact iteT (p1.ok R1 rfl)
    | false => exact iteF ⟨m1, S1, σD, R1, Rs.mono e1, p1⟩⟩
theorem Post.tst {γ δ : Type} {R2 : List Addr → Hp → γ → δ → Prop} {m : List Addr} {H : Hp} {o : Out D} {f : Bool → Sto → Out γ} {Q : δ → Hp → Prop} (p : Post A E R2 m H ((tstO o).bind f) Q) :
    Post A E RB m H o (fun b H1 => ∃ m1 S1, Ext A m H m1 H1 ∧ Rep A m1 S1 H1 ∧ Post A E R2 m1 H1 (f b S1) Q) := by
  cases o with
  | ok d S1 =>
    intro m1 H1 x e1 R1 rx
    have e : d = .bl x := rx
    subst e
    exact ⟨m1, S1, e1, R1, Post.base (o := f x S1) p e1⟩
  | err c fs S1 => exact p
  | bad => exact p
theorem s_ite {g : Sl → Sto → Out D} {t : Expr} (ht : PT X t (tT A E g)) (ha : PE X a (tE A E fa)) (hb : PE X b (tE A E fb)) :
    PE X (.IfExp t a b pos) (tE A E fun σ S => (tstO (g σ S)).bind fun t S => if t = true then fa σ S else fb σ S) :=
  PEi (pe_ifExp ht ha hb) fun σ H Q ⟨m, S, σD, R, Rs, p⟩ => ⟨m, S, σD, R, Rs, p.tst.mono fun x H1 ⟨m1, S1, e1, R1, p1⟩ => by
    cases x with
    | true => exact iteT ⟨m1, S1, σD, R1, Rs.mono e1, p1⟩
    | false => exact iteF ⟨m1, S1, σD, R1, Rs.mono e1, p1⟩⟩
theorem pt_ifExp {t : Expr} {tt ta tb : TT} (ht : PT X t tt) (ha : PT X a ta) (hb : PT X b tb) : PT X (.IfExp t a b pos) (fun σ H Q => tt σ H fun c H1 => if c = true then ta σ H1 Q else tb σ H1 Q) := by
  refine ⟨fun pins s σ H Q I h => ?_⟩
  refine isTrue_IfExp (thn (ht.run pins s σ H _ I h) fun d s1 ⟨H1, I1, q1⟩ => ?_)
  cases d with
  | true => exact ha.run pins s1 σ H1 Q I1 q1
  | false => exact hb.run pins s1 σ H1 Q I1 q1
theorem s_iteT {g : Sl → Sto → Out D} {t : Expr} (ht : PT X t (tT A E g)) (ha : PT X a (tT A E fa)) (hb : PT X b (tT A E fb)) :
    PT X (.IfExp t a b pos) (tT A E fun σ S => (tstO (g σ S)).bind fun t S => if t = true then fa σ S else fb σ S) :=
  PTi (pt_ifExp ht ha hb) fun σ H Q ⟨m, S, σD, R, Rs, p⟩ => ⟨m, S, σD, R, Rs, p.tst.mono fun x H1 ⟨m1, S1, e1, R1, p1⟩ => by
    cases x with
    | true => exact iteT ⟨m1, S1, σD, R1, Rs.mono e1, p1⟩
    | false => exact iteF ⟨m1, S1, σD, R1, Rs.mono e1, p1⟩⟩
theorem s_fld {cI : Nat} {f : Str} (cl : Cls X.K (A.cl cI)) (na : NoAttr X.K (A.cl cI) f) (ha : PE X a (tE A E fa)) (hb : attributeBase a f X.env (eval a X.env) = eval a X.env) :
    PE X (.Attribute a f pos) (tE A E fun σ S => (fa σ S).bind fun x S => .at S (fldSem x cI f S)) :=
  PEi (pe_fld ha hb) fun σ H Q ⟨m, S, σD, R, Rs, p⟩ => ⟨m, S, σD, R, Rs, p.seq.mono fun x H1 ⟨m1, S1, dx, e1, R1, rx, p1⟩ => by
    have q := p1.pd R1
    cases hc : fldSem dx cI f S1 with
    | none => rw [hc] at q; exact q.elim
    | some d =>
      rw [hc] at q
      cases rx with
      | loc e =>
        simp only [fldSem] at hc
        split at hc
        · rename_i c' fs hx
          split at hc
          · rename_i ec
            subst ec
            obtain ⟨a1, dx, ws, m1', g1, l1⟩ := R1.ins hx
            rw [e] at m1'; cases m1'
            rcases l1.lookup (f := f) with ⟨d', v, h1, h2, h3⟩ | ⟨h1, _⟩
            · rw [hc] at h1; cases h1
              exact ⟨_, _, _, _, v, rfl, g1, cl, na, h2, q v h3⟩
            · rw [hc] at h1; cases h1
          · cases hc
        · cases hc
      | _ => cases hc⟩
theorem s_ix (hK : A.K = X.K) (hW : A.w = X.w) (hu : X.A.units + 64 < cLine) (ha : PE X a (tE A E fa)) (hb : PE X b (tE A E fb)) (hs : PlainIx b) :
    PE X (.Subscript a b pos) (tE A E fun σ S => (fa σ S).bind fun x S => (fb σ S).bind fun y S => .at S (itemSem x y S)) :=
  PEi (pe_ix (ix_ok hK hW hu) ha hb hs) fun σ H Q ⟨m, S, σD, R, Rs, p⟩ =>
    ⟨m, S, σD, R, Rs, p.seq.mono fun x H1 ⟨m1, S1, dx, e1, R1, rx, p1⟩ => ⟨m1, S1, σD, R1, Rs.mono e1, p1.seq.mono fun y H2 ⟨m2, S2, dy, e2, R2, ry, p2⟩ => ⟨m2, S2, dx, dy, R2, rx.mono e2, ry, p2.pd R2⟩⟩⟩
theorem s_slice (hK : A.K = X.K) {lo hi : Option Expr} {fl fh : Sl → Sto → Out (Option Int)} {p2 : Pos} (ha : PE X a (tE A E fa)) (hl : L2.PO X lo (tOx A E fl)) (hh : L2.PO X hi (tOx A E fh)) :
    PE X (.Subscript a (.Slice lo hi none p2) pos) (tE A E fun σ S => (fa σ S).bind fun x S => (fl σ S).bind fun l S => (fh σ S).bind fun h S => .of (sliceSem x l h S)) :=
  PEi (pe_slice (sl_ok hK) ha hl hh) fun σ H Q ⟨m, S, σD, R, Rs, p⟩ =>
    ⟨m, S, σD, R, Rs, p.seq.mono fun x H1 ⟨m1, S1, dx, e1, R1, rx, p1⟩ => ⟨m1, S1, σD, R1, Rs.mono e1, p1.seq.mono fun l H2 ⟨m2, S2, dl, e2, R2, rl, p2⟩ => ⟨m2, S2, σD, R2, Rs.mono (e1.trans e2), p2.seq.mono fun h H3 ⟨m3, S3, dh, e3, R3, rh, p3⟩ => by
      have el : dl = l := rl
      have eh : dh = h := rh
      subst el; subst eh
      exact ⟨m3, S3, dx, R3, rx.mono (e2.trans e3), p3.po⟩⟩⟩⟩
theorem s_po0 : L2.PO X none (tOx A E fun _ S => .ok none S) :=
  ⟨fun pins s σ H Q I hw => po_none.run pins s σ H Q I (let ⟨_, _, _, R, _, p⟩ := hw; p.ok R rfl)⟩
theorem s_po1 (ha : PE X a (tE A E fa)) : L2.PO X (some a) (tOx A E fun σ S => (fa σ S).bind fun d S => cutOf d S) :=
  ⟨fun pins s σ H Q I hw => (po_some ha).run pins s σ H Q I (let ⟨m, S, σD, R, Rs, p⟩ := hw; ⟨m, S, σD, R, Rs, p.seq.mono fun x H1 ⟨m1, S1, dx, e1, R1, rx, p1⟩ => by
    cases rx <;> (try exact (show False from p1).elim)
    exact ⟨_, rfl, p1.ok R1 rfl⟩⟩)⟩
theorem s_nil : PA X [] (tAs A E fun _ S => .ok [] S) := PAi pa_nil fun σ H Q ⟨m, S, σD, R, Rs, p⟩ => p.ok R .nil
theorem s_cons {es : List Expr} {fs : Sl → Sto → Out (List D)} (ha : PE X a (tE A E fa)) (hs : PA X es (tAs A E fs)) (hst : starEach (a :: es) X.env = (false, eval a X.env) :: starEach es X.env) :
    PA X (a :: es) (tAs A E fun σ S => (fa σ S).bind fun d S => (fs σ S).bind fun ds S => .ok (d :: ds) S) :=
  PAi (pa_cons ha hs hst) fun σ H Q ⟨m, S, σD, R, Rs, p⟩ => ⟨m, S, σD, R, Rs, p.seq.mono fun x H1 ⟨m1, S1, dx, e1, R1, rx, p1⟩ => ⟨m1, S1, σD, R1, Rs.mono e1, p1.seq.mono fun y H2 ⟨m2, S2, dy, e2, R2, ry, p2⟩ => p2.ok R2 (.cons (rx.mono e2) ry)⟩⟩
variable {es : List Expr} {fs : Sl → Sto → Out (List D)}
theorem s_tup {x1 : Nat} (hs : PA X es (tAs A E fs)) : PE X (.Tuple es x1 pos) (tE A E fun σ S => (fs σ S).bind fun ds S => if ds.length ≤ sizeLine then .ok (.tup ds) S else .bad) :=
  PEi (pe_tup hs) fun σ H Q ⟨m, S, σD, R, Rs, p⟩ => ⟨m, S, σD, R, Rs, p.seq.mono fun x H1 ⟨m1, S1, dx, e1, R1, rx, p1⟩ => by
    split at p1
    · refine ⟨by rw [rx.length]; assumption, fun q hq => ?_⟩
      obtain ⟨a, b, c⟩ := newTup R1 rx hq
      exact p1 _ _ _ b a c
    · exact p1.elim⟩
theorem s_lst (hs : PA X es (tAs A E fs)) : PE X (.List es pos) (tE A E fun σ S => (fs σ S).bind fun ds S => if ds.length ≤ sizeLine then .ok (.loc S.length) (S ++ [.lst ds]) else .bad) :=
  PEi (pe_lst hs) fun σ H Q ⟨m, S, σD, R, Rs, p⟩ => ⟨m, S, σD, R, Rs, p.seq.mono fun x H1 ⟨m1, S1, dx, e1, R1, rx, p1⟩ => by
    split at p1
    · refine ⟨by rw [rx.length]; assumption, fun q hq => ?_⟩
      obtain ⟨a, b, c⟩ := newLst R1 rx hq
      exact p1 _ _ _ b a c
    · exact p1.elim⟩
theorem newCell {m : List Addr} {S : Sto} {H : Hp} {p : Addr} {c : Cell} {o : HO} (R : Rep A m S H) (hp : H p = none) (new : RepC A (m ++ [p]) (upd H p o) p c) :
    Rep A (m ++ [p]) (S ++ [c]) (upd H p o) ∧ Ext A m H (m ++ [p]) (upd H p o) ∧ RepD A (m ++ [p]) (upd H p o) (.loc S.length) (.ref p) :=
  ⟨R.alloc hp new, (Ext.new hp).more, .loc (by rw [← R.len, List.getElem?_append_right (Nat.le_refl _), Nat.sub_self] <;> rfl)⟩
theorem s_dct0 (t : Bool) : PE X (.Dict [] [] pos) (tE A E fun _ S => .ok (.loc S.length) (S ++ [if t = true then .dt [] else .dk []])) := by
  cases t with
  | false =>
    refine PEi pe_dnewK fun σ H Q ⟨m, S, σD, R, Rs, p⟩ q hq => ?_
    obtain ⟨a, b, c⟩ := newCell (c := .dk []) (o := .dK []) R hq (.dk upd_same .nil)
    exact p _ _ _ b a c
  | true =>
    refine PEi pe_dnewT fun σ H Q ⟨m, S, σD, R, Rs, p⟩ q hq => ?_
    obtain ⟨a, b, c⟩ := newCell (c := .dt []) (o := .dT []) R hq (.dt upd_same .nil)
    exact p _ _ _ b a c
end
end DI

set_option Elab.async false
set_option linter.all false
set_option maxRecDepth 100000
set_option maxHeartbeats 4000000
/-! A def's promise where no repr is under way: calls, makings, a def's body, the law's end. -/
namespace DI
open L2 PySem PySem.Spec PyProof.Rows
structure FnG (P : Program) (w : World) (K : PySem.W.Frag) (mg : Str → Option Value) (bas : Heap) (CX : CXT) (k : Nat) (f : Addr) (fd : FuncData) (ps : List Str) (sp : Sp) : Prop where
  len : ∀ xs H Q E, sp xs H Q E → xs.length = ps.length
  run : ∀ (B : Around) (out : List Env) (t : Shared) (H : Hp) (ar : Args) (ys : List Value) (xs : List V) (Q : VK) (E : XK), B.guards = some [] → Room k B → Env0 P w K mg bas B out t H → BindsTo t fd ar (ps.zip ys) → Vals xs ys → sp xs H Q E →
    codeAny (model P w) B (.call (.ref f) ar) (CR CX out P w H t Q E) t
theorem FnG.bad {P : Program} {w : World} {K : PySem.W.Frag} {mg : Str → Option Value} {bas : Heap} {CX : CXT} {k : Nat} {f : Addr} {fd : FuncData} {ps : List Str} {sp : Sp} (h : ∀ xs H Q E, ¬ sp xs H Q E) : FnG P w K mg bas CX k f fd ps sp :=
  ⟨fun xs H Q E q => (h xs H Q E q).elim, fun _ _ _ H _ _ xs Q E _ _ _ _ _ q => (h xs H Q E q).elim⟩
section
variable {X : Cx} {CX : CXT} {k : Nat} {f C : Addr} {fd : FuncData} {ps : List Str} {sp : Sp} {E : XK} {pns : List (Addr × Obj)} {τ : L2.St} {H : Hp} {t : Shared} {Q : VK} {ys : List Value} {xs : List V}
/-- behind a call -/
theorem endG {r : Result} {t' : Shared} (hx : Passes CX X E) (J : Inv X pns τ H t) (h : CR CX X.stack X.prog X.w H t Q E r t') : wants (EP X pns τ Q) X.xe r t' := by
  cases r with
  | error e => exact hx pns τ H t e t' J h
  | ok fl => cases fl with
    | ret u => exact J.after h
    | next => exact h.elim
    | brk => exact h.elim
    | cont => exact h.elim
theorem runG (F : FnG X.prog X.w X.K X.mg X.base CX k f fd ps sp) (gd : X.A.guards = some []) (hr : Room k X.A) (hb : Binds X.K fd ps []) (hx : Passes CX X E) (J : Inv X pns τ H t) (r : Vals xs ys) (h : sp xs H Q E) :
    wpAny (model X.prog X.w) X.A (call (.ref f) ys) (EP X pns τ Q) X.xe t := by
  have hl : (ys ++ []).length = ps.length := by rw [List.append_nil, ← r.length]; exact F.len _ _ _ _ h
  have hbt := hb t ys J.kIn hl
  rw [List.append_nil] at hbt
  exact wpAny_call (codeAny_mono (F.run X.A X.stack t H ⟨ys, []⟩ ys xs Q E gd hr J.env0 hbt r h) fun r t' q => endG hx J q)
theorem guards_make {B : Around} (h : B.guards = some []) (C : Addr) (us : List Value) (kw : List (Str × Value)) : (B.under (.builtin "type.__call__" ⟨.ref C :: us, kw⟩)).guards = some [] := by
  have e : (Code.builtin "type.__call__" ⟨.ref C :: us, kw⟩).guards = [] := by
    have e2 : ¬ ("type.__call__" ∈ guardIds) := by decide
    simp [Code.guards, Code.isGuard, e2]
  show pushGuards (Code.builtin "type.__call__" ⟨.ref C :: us, kw⟩).guards B.guards = some []
  rw [e, h]
  rfl
theorem runG_make (M : Mk X.K C f) (F : FnG X.prog X.w X.K X.mg X.base CX k f fd ps sp) (gd : X.A.guards = some []) (hr : Room (k + 1) X.A) (hb : Binds X.K fd ps []) (hx : Passes CX X E) (J : Inv X pns τ H t) (r : Vals xs ys)
    (h : ∀ x dx, H x = none → H dx = none → dx ≠ x → sp (.ref x :: xs) (upd (upd H dx (.own x)) x (.ins C dx [])) (fun v H2 => v = .non ∧ Q (.ref x) H2) E) :
    wpAny (model X.prog X.w) X.A (call (.ref C) ys) (EP X pns τ Q) X.xe t := by
  have q0 := h (t.heap.objs.size + 1) t.heap.objs.size (J.hok.fresh (Nat.le_succ _)) (J.hok.fresh (Nat.le_refl _)) (Nat.ne_of_lt (Nat.lt_succ_self _))
  have J2 := Inv.made (C := C) J
  have r2 : Vals (V.ref (t.heap.objs.size + 1) :: xs) (Value.ref (t.heap.objs.size + 1) :: ys) := .cons rfl r
  have hl : ((Value.ref (t.heap.objs.size + 1) :: ys) ++ []).length = ps.length := by
    rw [List.append_nil, ← r2.length]
    exact F.len _ _ _ _ q0
  have hbt := hb _ (Value.ref (t.heap.objs.size + 1) :: ys) J2.kIn hl
  rw [List.append_nil] at hbt
  refine wpAny_call (make_map (f := f) J.kIn M.makes M.init (beq_iff_eq.mp M.fn) (codeAny_mono (F.run _ X.stack _ _ ⟨Value.ref (t.heap.objs.size + 1) :: ys, []⟩ _ _ _ E (guards_make gd C ys []) (hr.make C ys [])
    (J2.env0.make C ys []) hbt r2 q0) fun r t' q => ?_))
  have q2 := endG hx J2 q
  cases r with
  | error e => exact q2
  | ok fl => cases fl with
    | ret u =>
      obtain ⟨v, H', J3, rv, ev, q3⟩ := q2
      subst ev
      exact ⟨rv, ⟨V.ref (t.heap.objs.size + 1), H', J3, rfl, q3⟩⟩
    | next => exact q2.elim
    | brk => exact q2.elim
    | cont => exact q2.elim
theorem runG_kw {n : Nat} {ks : List Str} {g : List Value → List Value → List Value} {gV : List V → List V → List V} {ws : List Value} {zs : List V} (F : FnG X.prog X.w X.K X.mg X.base CX k f fd ps sp) (gd : X.A.guards = some []) (hr : Room k X.A) (hb : KBn X.K fd ps n ks g gV) (hx : Passes CX X E)
    (J : Inv X pns τ H t) (r : Vals xs ys) (rz : Vals zs ws) (l1 : xs.length = n) (l2 : zs.length = ks.length) (h : sp (gV xs zs) H Q E) : wpAny (model X.prog X.w) X.A (call (.ref f) ys (ks.zip ws)) (EP X pns τ Q) X.xe t :=
  wpAny_call (codeAny_mono (F.run X.A X.stack t H ⟨ys, ks.zip ws⟩ (g ys ws) (gV xs zs) Q E gd hr J.env0 (hb.to t ys ws J.kIn (r.length.symm.trans l1) (rz.length.symm.trans l2)) (hb.rel r rz) h) fun r t' q => endG hx J q)
end
/-- a def keeps its promise -/
theorem FunD.okG {P : Program} {w : World} {K : PySem.W.Frag} {mg : Str → Option Value} {bas : Heap} {CX : CXT} {k : Nat} {f : Addr} {fd : FuncData} {x qual : Str} {params : Arguments} {body : List Stmt} {scope : Scope} {dvs : List V} {kws : List (Str × V)} {N ps : List Str} {sp : Sp}
    (F : FunD K x qual params body scope dvs kws f fd) (S : FnScope N ps scope) (len : ∀ xs H Q E, sp xs H Q E → xs.length = ps.length)
    (hbody : ∀ (cdv : Value) (B : Around) (out : List Env) (t : Shared) (H : Hp) (xs : List V) (Q : VK) (E : XK), B.guards = some [] → Room k (B.deeper (envOfC qual scope t.heap.objs.size f cdv)) → sp xs H Q E →
      ∃ u, PSs (cxOf CX P w K mg bas N qual scope f cdv B out t H E) body u ∧ u { nx := fun _ H' => Q .non H', rt := Q } (start N xs) H) : FnG P w K mg bas CX (k + 1) f fd ps sp := by
  obtain ⟨oc, od, dV, kV, doc, pm, an, cdv, ct, osl, rfl, lk, hcd, _, _⟩ := F.ex
  refine ⟨len, fun B out t H ar ys xs Q E gd hr e0 hb r hsp => ?_⟩
  have hl := len _ _ _ _ hsp
  have hin : K.In t.heap := e0.mod.kin.keeps fun b o e => (e0.bs b o e).1
  have hlim : t.heap.NoLimit := e0.mod.nolimit.keeps fun b o e => (e0.bs b o e).1
  have hkd : ∀ y ∈ ps.zip ys, scope.names.lookup y.1 = some .local ∨ (scope.names.lookup y.1 = some .cell ∧ ((cellsFrom (t.heap.objs.size + 1) scope.names []).lookup y.1).isSome = true) := by
    rintro ⟨n, v⟩ hy
    rcases S.par n (List.of_mem_zip hy).1 with q | q
    · exact .inl q
    · exact .inr ⟨q, PySem.W.cellsFrom_some _ _ _ (.inl q)⟩
  refine codeAny_call_function hr.depth (hin _ _ lk) rfl S.co S.gen rfl (PySem.W.codeRec_of hin hcd) (hb _ _ _ _ ?_)
  refine wpAny_newFunctionEnv_cells S.kind hkd fun env he t1 y => ?_
  subst he
  refine ⟨hlim.keeps y.toInCall.keep, codeAny_func ?_⟩
  obtain ⟨u, hu, hq⟩ := hbody cdv B out t H xs Q E gd (hr.deeper _) hsp
  have J : Inv (cxOf CX P w K mg bas N qual scope f cdv B out t H E) [] (start N xs) H t1 := inv_start S hr.hd e0 hl r y
  refine wpAny_mono (hu.run [] t1 (start N xs) H _ J hq) (fun fl t' hs => ?_) fun e t' hs => hs
  cases fl with
  | ret v =>
    obtain ⟨v', τ', H', J', rv, q⟩ := hs
    exact ⟨v', H', J'.os, J'.bare, J'.base, J'.hok, rv, q⟩
  | next =>
    obtain ⟨τ', H', J', q⟩ := hs
    exact ⟨V.non, H', J'.os, J'.bare, J'.base, J'.hok, rfl, q⟩
  | brk =>
    obtain ⟨_, _, _, q⟩ := hs
    exact q.elim
  | cont =>
    obtain ⟨_, _, _, q⟩ := hs
    exact q.elim
/-- the law's call -/
theorem law_callG {P : Program} {w : World} {K : PySem.W.Frag} {mg mb : Str → Option Value} {CX : CXT} {k : Nat} {fa a : Addr} {fd : FuncData} {x : Str} {sp : Sp} {t : Shared} {us : List Value} {ns : List Int}
    (hin : K.In t.heap) (hns : t.heap.Ns mainGlobals mg) (hbn : t.heap.Ns builtinsNs mb) (hbl : ∀ x : Str, x ≠ "__name__" → mb x = bootBuiltins x) (hlim : t.heap.NoLimit) (hge : t.gens = #[])
    (hobj : t.heap.get? a = some { cls := .type "list", data := .seq us.toArray }) (hi : IntsAre us ns) (hl : ns.length ≤ sizeLine) (hr : Room k callerA)
    (F : ∀ bas : Heap, K.In bas → bas.Ns mainGlobals mg → FnG P w K mg bas CX k fa fd [x] sp) (hbind : ∀ (s : Shared) (u : Value), BindsTo s fd ⟨[u], []⟩ [(x, u)])
    (hsp : ∀ H : Hp, Only H → SqL K H a (ns.map V.int) → sp [.ref a] H (fun v _ => v = .bl true) fun _ _ _ => False) (hCX : ∀ H e s', CX [] H t (fun _ _ _ => False) e s' → False) :
    codeAny (model P w) callerA (.call (.ref fa) ⟨[.ref a], []⟩) (fun r t' => r = .ok (.ret (.bool true)) ∧ OldK t.heap t'.heap ∧ t'.os = t.os ∧ AllBare t'.gens) t := by
  have hlen := hi.length
  have main : ∀ H : Hp, Only H → SqL K H a (ns.map V.int) → HOk P w H t.heap → (∀ b, H b ≠ none → b = a ∧ K.lookup a = none) →
      codeAny (model P w) callerA (.call (.ref fa) ⟨[.ref a], []⟩) (fun r t' => r = .ok (.ret (.bool true)) ∧ OldK t.heap t'.heap ∧ t'.os = t.os ∧ AllBare t'.gens) t := by
    intro H hO hS hok hA
    have off : ∀ {b : Addr} {o : Obj} {es : Array DictEntry} {n : Nat}, t.heap.get? b = some o → o.data = .dict es n → H b = none := by
      intro b o es n e d
      cases q : H b with
      | none => rfl
      | some u =>
        have e' := (hA b (by rw [q]; simp)).1
        rw [e', hobj] at e
        cases e
        exact absurd d (by simp)
    have ns2 : ∀ {b : Addr} {m : Str → Option Value}, t.heap.Ns b m → (hidT t.heap H).Ns b m := fun ⟨o, es, n, e, d, r⟩ => ⟨o, es, n, hidT_get e (off e d), d, r⟩
    have hin2 : K.In (hidT t.heap H) := by
      intro b o e
      refine hidT_get (hin b o e) ?_
      cases q : H b with
      | none => rfl
      | some u =>
        obtain ⟨e1, e2⟩ := hA b (by rw [q]; simp)
        rw [e1, e2] at e
        cases e
    have hmod : Mod K mg (hidT t.heap H) := ⟨hin2, ns2 hns, ⟨mb, ns2 hbn, hbl⟩, let ⟨mc, h1, h2⟩ := hlim; ⟨mc, ns2 h1, h2⟩⟩
    have env : Env0 P w K mg (hidT t.heap H) callerA [] t H := ⟨rfl, hmod, fun b o e => of_hidT e, Nat.le_of_eq (hidT_size _ _), trivial, (fun b hb => by cases hb), hok, .of_eq hge⟩
    refine codeAny_mono ((F _ hin2 (ns2 hns)).run callerA [] t H ⟨[.ref a], []⟩ [.ref a] [.ref a] _ _ rfl hr env (hbind t (.ref a)) (.cons rfl .nil) (hsp H hO hS)) fun r t' h => ?_
    cases r with
    | error e => exact (hCX H e t' h).elim
    | ok fl => cases fl with
      | next => exact h.elim
      | brk => exact h.elim
      | cont => exact h.elim
      | ret u =>
        obtain ⟨v, H', hos, hbare, un, hok', rv, rfl⟩ := h
        obtain rfl : u = Value.bool true := rv
        refine ⟨rfl, OldK.of_keep fun b o e => ?_, hos, hbare⟩
        cases q : H b with
        | none => exact un.keep b o e q (fun z => by cases z) (by simp)
        | some u =>
          rcases hO b with z | ⟨ob, ys, z⟩
          · rw [q] at z; cases z
          · obtain ⟨e1, _⟩ := hok b _ z
            obtain ⟨e2, _⟩ := hok' b _ (un.frzs b ob _ z)
            rw [e] at e1
            cases e1
            exact e2
  have rv := vals_ints hi
  cases hk : K.lookup a with
  | some o =>
    have e := hin a o hk
    rw [hobj] at e
    cases e
    exact main (fun _ => none) (fun _ => .inl rfl) (.inr ⟨_, us.toArray, _, hk, rfl, rfl, rfl, by rw [List.size_toArray, hlen]; exact hl, by simpa using rv⟩) (fun b u z => nomatch (show (none : Option HO) = some u from z)) fun b z => absurd rfl z
  | none =>
    have at_a : ∀ {α : Type} {x y : α}, (if a = a then x else y) = x := if_pos rfl
    refine main (fun b => if b = a then some (.frz { cls := .type "list", data := .seq us.toArray } (.lst (ns.map V.int))) else none) (fun b => ?_) (.inl (.inr ⟨{ cls := .type "list", data := .seq us.toArray }, at_a⟩)) (fun b u z => ?_) fun b z => ?_
    · by_cases c : b = a
      · exact .inr ⟨_, _, if_pos c⟩
      · exact .inl (if_neg c)
    · by_cases c : b = a
      · have z' := (if_pos c).symm.trans z
        cases z'
        subst c
        exact ⟨hobj, by rw [List.length_map]; exact hl, us, _, rv, hobj⟩
      · exact nomatch (if_neg c).symm.trans z
    · by_cases c : b = a
      · exact ⟨c, hk⟩
      · exact absurd (if_neg c) z
end DI

set_option Elab.async false
set_option linter.all false
set_option maxRecDepth 100000
set_option maxHeartbeats 4000000
/-! enumerate over a tuple; a walk over a list, a tuple or a text. -/
namespace DI
open L2 PySem PySem.Spec PyProof.Rows
open Builtin in
theorem meets_enumT (l : Addr) (items : Array Value) (n : Nat) (dct : Option Addr) (sl : Array (Option Value)) :
    Meets (Builtin.«enumerate.__new__» ⟨[.type "enumerate", .ref l], []⟩) (fun _ R s => s.heap.get? l = some { cls := .type "tuple", dict := dct, data := .seq items n, slots := sl } ∧
      R (.ok (.ret (.ref (s.heap.push { cls := .type "tuple_iterator", data := .fields #[.ref l, .int 0 0] }).objs.size)))
        { s with heap := (s.heap.push { cls := .type "tuple_iterator", data := .fields #[.ref l, .int 0 0] }).push { cls := .type "enumerate", data := .fields #[.none, .bool false, .ref s.heap.objs.size, rawInt 0, .none, .none] } }) :=
  .of_wp fun prog w A R s h => by
    obtain ⟨hp, g, d, tk, os⟩ := s
    obtain ⟨hl, h⟩ := h
    have hsub := sub_enumerate
    have hT : Heap.IsTuple (Shared.heap ⟨hp, g, d, tk, os⟩) l items := ⟨_, hl, rfl, n, rfl⟩
    wp_walk using wpAny_loadPart' hl
    refine wpAny_stack_any fun st => wpAny_pure ?_
    split
    · rename_i c _ _ _ _ _
      cases (c == Value.type "enumerate")
      all_goals
        wp_walk using wpAny_loadPart' hl, wpAny_pyIter_tuple hT
        exact ⟨_, rfl, h⟩
    · wp_walk using wpAny_loadPart' hl, wpAny_pyIter_tuple hT
      exact ⟨_, rfl, h⟩
section
variable {prog : Program} {w : World} {A : Around} {E : Value → Shared → Prop} {s : Shared}
theorem call_enumT {l : Addr} {items : Array Value} {Q : Value → Shared → Prop} (hL : s.heap.IsTuple l items)
    (h : ∀ h', IsEnum h' (s.heap.objs.size + 1) s.heap.objs.size 0 .none → h'.IsTupleIter s.heap.objs.size l 0 → (∀ b o, s.heap.get? b = some o → h'.get? b = some o) → Q (.ref (s.heap.objs.size + 1)) { s with heap := h' }) :
    wpAny (model prog w) A (call (.type "enumerate") [.ref l]) Q E s := by
  obtain ⟨⟨c, dct, dt, sl⟩, hl, hc, n, hd⟩ := hL
  obtain rfl : c = .type "tuple" := hc
  obtain rfl : dt = .seq items n := hd
  refine callType_new F.called_enumerate (by decide) (F.typeCall_enumerate_1 _) (F.newCall_enumerate_1 _) (fun obj => F.args_object_init_2 obj _) F.entry_enumerate_new (meets_enumT l items n dct sl) ⟨hl, ?_⟩
  generalize hO : ({ cls := .type "tuple_iterator", data := .fields #[.ref l, .int 0 0] } : Obj) = O
  have hz : (s.heap.push O).objs.size = s.heap.objs.size + 1 := Heap.size_push ..
  have hf : O.isFreed = false := by rw [← hO]; rfl
  rw [hz]
  have he : IsEnum ((s.heap.push O).push { cls := .type "enumerate", data := .fields #[.none, .bool false, .ref s.heap.objs.size, rawInt 0, .none, .none] }) (s.heap.objs.size + 1) s.heap.objs.size 0 .none := by
    have e := Heap.get?_push_size (s.heap.push O) (o := { cls := .type "enumerate", data := .fields #[.none, .bool false, .ref s.heap.objs.size, rawInt 0, .none, .none] }) rfl
    rw [hz] at e
    exact e
  refine ⟨⟨_, he, rfl⟩, h _ he ⟨O, Heap.get?_push_of_some _ (Heap.get?_push_size _ hf), by rw [← hO], by rw [← hO] <;> rfl⟩ fun b o x => Heap.get?_push_of_some _ (Heap.get?_push_of_some _ x)⟩
theorem next_enumT_end {e it l : Addr} {i : Nat} {k : Int} {items : Array Value} {old : Value} {Q : Option Value → Shared → Prop} (hh : A.handled = none)
    (he : IsEnum s.heap e it k old) (hit : s.heap.IsTupleIter it l i) (hl : s.heap.IsTuple l items) (hx : items[i]? = none) (hQ : ∀ h', Heap.ExtBut it s.heap h' → Q none { s with heap := h' }) : wpAny (model prog w) A (pyNext (.ref e)) Q E s := by
  have hty : s.TypeIs (.ref e) "enumerate" := ⟨_, he, rfl⟩
  unfold pyNext
  refine wpAny_bind (wpAny_attempt (wpAny_callSpecial?_slot (name := Str.ofString "__next__") hty F.slot_enumerate_next (wpAny_call_entry F.slot_enumerate_next hty F.entry_enumerate_next ?_ (F.args_enumerate_next_1 _))))
  show wpAny _ _ (field (.ref e) 2 >>= _) _ _ _
  refine wpAny_bind (wpAny_field he rfl (x := .ref it) rfl ?_)
  refine wpAny_bind (wpAny_nextOf_tuple_end hh hit hl hx fun h' x eb hs => ?_)
  obtain ⟨o, ho, hc⟩ := hs
  exact wpAny_bind (wpAny_isInstance (T := "StopIteration") (b := true) ⟨o, ho, hc⟩ isSubtype_stop (wpAny_pure (hQ _ eb)))
end
def IteT (K : PySem.W.Frag) (a : Addr) : It :=
  ⟨fun i H => ∃ (xs : List V) (x : V), SqT K H a xs ∧ xs[i]? = some x, fun i H v H' => ∃ T x, v = .ref T ∧ H T = none ∧ H' = upd H T (.tup [.int (i : Nat), x]) ∧ ∀ xs, SqT K H a xs → xs[i]? = some x, fun i H => ∃ xs : List V, SqT K H a xs ∧ xs.length ≤ i⟩
theorem turn_enumT {P : Program} {w : World} {K : PySem.W.Frag} {elts : List Expr} {kk : Nat} {tpos : Pos} (a e it : Addr) :
    Turn P w K (.Tuple elts kk tpos) (IteT K a) [e, it] e (fun i h => (∃ old, IsEnum h e it ((i : Nat) : Int) old) ∧ h.IsTupleIter it a i ∧ e ≠ it) where
  mem := by simp
  obj := fun i h st b hb => by
    obtain ⟨⟨old, he⟩, ⟨o, ho, hc, hd⟩, _⟩ := st
    rcases (by simpa using hb : b = e ∨ b = it) with rfl | rfl
    · exact ⟨_, he, fun v q => nomatch q⟩
    · exact ⟨o, ho, fun v q => by rw [hd] at q; cases q⟩
  keep := fun i h h' st k => let ⟨⟨old, he⟩, hi, hne⟩ := st; ⟨⟨old, k e (by simp) _ he⟩, hi.at fun o q => k it (by simp) o q, hne⟩
  item := by
    intro X hP hw hK hc i pins s σ H E I hf st hg
    subst hP hw hK
    obtain ⟨⟨old, he⟩, hit, hne⟩ := st
    obtain ⟨xs, x, hq, hx⟩ := hg
    obtain ⟨its, rv, p, hz⟩ := I.tuple hq
    obtain ⟨u, hu, ru⟩ := rv.get hx
    have hel : e < s.heap.objs.size := Heap.lt_size he
    have hil : it < s.heap.objs.size := by obtain ⟨_, q, _⟩ := hit; exact Heap.lt_size q
    have hai : a ≠ it := by
      rintro rfl
      obtain ⟨o, e1, e2, _⟩ := p
      obtain ⟨o', e3, e4, _⟩ := hit
      rw [e1] at e3
      cases e3
      rw [e2] at e4
      exact absurd e4 (by simp)
    have hea : e ≠ a := by
      rintro rfl
      obtain ⟨o, e1, e2, _⟩ := p
      rw [he] at e1
      cases e1
      exact absurd e2 (by simp)
    have hsz : i < its.length := (List.getElem?_eq_some_iff.mp hu).1
    refine wpAny_pyNext_enum_itemD (Draws.tuple (A := X.A.in1) (I.ok.hd hc) it a hai its.toArray) he ⟨hit, p⟩ (by simpa using hsz) hne (by simp [hne, hea]) fun y h' tk hy ho hst hT hsize hk => ?_
    have hyu : y = u := by
      have : its[i]? = some y := by simpa using hy
      rw [hu] at this
      cases this
      rfl
    subst hyu
    refine ⟨_, rfl, wpAny_letOwnedTupleGo_enum (s := { s with heap := h', toks := tk + 1 }) ho fun h'' he' sb => ?_⟩
    have hT2 : h''.get? s.heap.objs.size = some { cls := .type "tuple", data := .seq #[.int i tk, y] } := (sb.2 _ (Nat.ne_of_gt hel)).trans hT
    have new : ObjOk X.prog X.w (upd H s.heap.objs.size (.tup [.int (i : Nat), x])) h'' s.heap.objs.size (.tup [.int (i : Nat), x]) :=
      ⟨by show 2 ≤ sizeLine; decide, [.int i tk, y], .cons ⟨_, rfl⟩ (.cons ru .nil), ⟨_, hT2, rfl, _, rfl⟩⟩
    have J : Inv X pins σ (upd H s.heap.objs.size (.tup [.int (i : Nat), x])) { s with heap := h'', toks := tk + 1 } :=
      I.turnedNew (ch := [e, it]) (fun b ob hb q => (sb.2 b (fun z => hb (by simp [z]))).trans (hk b ob (fun z => hb (by simp [z])) (fun z => hb (by simp [z])) q)) hf (Nat.le_refl _) new
    refine ⟨.ref s.heap.objs.size, _, J, rfl, ⟨_, x, rfl, I.hok.fresh (Nat.le_refl _), rfl, fun ys hy => by rw [I.tuple_inj hy hq]; exact hx⟩, ⟨⟨y, ?_⟩, hst.1.at fun o q => (sb.2 it (Ne.symm hne)).trans q, hne⟩, fun b hb => ?_⟩
    · have e1 : ((i + 1 : Nat) : Int) = (i : Int) + 1 := by omega
      rw [e1]
      exact he'
    · have hb' : b < s.heap.objs.size := by
        rcases (by simpa using hb : b = e ∨ b = it) with rfl | rfl
        · exact hel
        · exact hil
      rw [upd_ne (Nat.ne_of_lt hb')]
      exact (hf b hb).1
  done := by
    intro X hP hw hK hc i pins s σ H E I hf st hg
    subst hP hw hK
    obtain ⟨⟨old, he⟩, hit, hne⟩ := st
    obtain ⟨xs, hq, hx⟩ := hg
    obtain ⟨its, rv, p, hz⟩ := I.tuple hq
    obtain ⟨f0, f1, f2, f3, f4, f5⟩ := hf it (by simp)
    have hl := rv.length
    exact next_enumT_end (I.ok.hd hc) he hit p (by simp; omega) fun h' eb => ⟨rfl, I.turned (t' := s.toks) (fun b o hb q => eb b o hb q) f0 f1 f3 f4 f5⟩
  self := fun A i s Q E st h => let ⟨⟨_, he⟩, _⟩ := st; wpAny_pyIter_enum he h
def iEnumA (K : PySem.W.Frag) (ta : TA) : TI := fun σ H R => ta σ H fun vs H1 => ∃ a, vs = [.ref a] ∧ (((∃ xs, SqL K H1 a xs) ∧ R (Ite K a) H1) ∨ ((∃ xs, SqT K H1 a xs) ∧ R (IteT K a) H1))
theorem pi_enumA {X : Cx} {e : Expr} {ta : TA} {p pos tpos : Pos} {elts : List Expr} {kk : Nat} (hg : Gl X "enumerate") (hm : X.mg "enumerate" = none) (ha : PA X [e] ta) (hs : starEach [e] X.env = [(false, eval e X.env)]) :
    PI X (.Tuple elts kk tpos) (.Call (.Name "enumerate" p) [e] [] pos) (iEnumA X.K ta) := by
  refine ⟨fun pz s σ H R J h => ?_⟩
  refine Call_ (ld_blt J hg hm boot_enumerate (PyProof.Rows.callWith_type1 (thn (ha.run pos pz s σ H _ J h) fun us t ⟨vs, H1, J1, r1, q1⟩ => ?_) hs rfl))
  obtain ⟨a, ex, q⟩ := q1
  subst ex
  cases r1 with
  | cons r rr =>
    cases rr
    cases r
    have fresh : ∀ b ∈ [t.heap.objs.size + 1, t.heap.objs.size], FpOk X pz H1 b := by
      intro b hb
      have hle : t.heap.objs.size ≤ b := by
        rcases (by simpa using hb : b = t.heap.objs.size + 1 ∨ b = t.heap.objs.size) with z | z
        · rw [z]; exact Nat.le_add_right _ _
        · rw [z]; exact Nat.le_refl _
      exact J1.fpOk hle (J1.hok.fresh hle)
    rcases q with ⟨⟨xs, hq⟩, q⟩ | ⟨⟨xs, hq⟩, q⟩
    · obtain ⟨its, rv, pl, hz⟩ := J1.list hq
      refine call_enumerate_list pl.isList fun h' he hit hsz hk => wpAny_pyIter_enum he ?_
      exact ⟨t.heap.objs.size + 1, [t.heap.objs.size + 1, t.heap.objs.size], _, _, H1, rfl, J1.kept (t' := t.toks) hk, turn_enum a (t.heap.objs.size + 1) t.heap.objs.size, ⟨⟨.none, he⟩, hit, Nat.succ_ne_self _⟩, fresh, q⟩
    · obtain ⟨its, rv, pl, hz⟩ := J1.tuple hq
      refine call_enumT pl fun h' he hit hk => wpAny_pyIter_enum he ?_
      exact ⟨t.heap.objs.size + 1, [t.heap.objs.size + 1, t.heap.objs.size], _, _, H1, rfl, J1.kept (t' := t.toks) hk, turn_enumT a (t.heap.objs.size + 1) t.heap.objs.size, ⟨⟨.none, he⟩, hit, Nat.succ_ne_self _⟩, fresh, q⟩
end DI

set_option Elab.async false
set_option linter.all false
set_option maxRecDepth 100000
set_option maxHeartbeats 4000000
/-! Calls, iterables, targets, comprehensions. -/
namespace DI
open L2 PySem PySem.Spec PyProof.Rows

/-- a def's promise: it does what f says -/
def spC (A : Ad) (n : Nat) (f : List D → Sto → Out D) : Sp := fun vs H Q E => ∃ m S ds, Rep A m S H ∧ RepL A m H ds vs ∧ ds.length = n ∧ Post A E (RepD A) m H (f ds S) Q
section
variable {X : Cx} {A : Ad} {E : XK} {k : Nat} {f : Addr} {fd : FuncData} {ps : List Str} {g : List D → Sto → Out D} {fs : Sl → Sto → Out (List D)} {fo : Sl → Sto → Out D} {x mn : Str} {p pos apos : Pos} {e o : Expr} {es : List Expr}
abbrev tCal (A : Ad) (E : XK) (fs : Sl → Sto → Out (List D)) (g : List D → Sto → Out D) : TE := tE A E fun σ S => (fs σ S).bind fun ds S => g ds S
theorem cal_in (har : ∀ ds S, ds.length ≠ ps.length → g ds S = .bad) {t : TA} (ht : ∀ σ H Q, tAs A E fs σ H Q → t σ H Q) : ∀ σ H Q, tCal A E fs g σ H Q → tCall (spC A ps.length g) [] E t σ H Q :=
  fun σ H Q ⟨m, S, σD, R, Rs, p⟩ => ht σ H _ ⟨m, S, σD, R, Rs, p.seq.mono fun vs H1 ⟨m1, S1, ds, e1, R1, rl, p1⟩ => by
    show spC A ps.length g (vs ++ []) H1 Q E
    rw [List.append_nil]
    refine ⟨m1, S1, ds, R1, rl, ?_, p1⟩
    by_cases c : ds.length = ps.length
    · exact c
    · rw [har ds S1 c] at p1; exact p1.elim⟩
theorem s_call (gd : X.A.guards = some []) (F : FnG X.prog X.w X.K X.mg X.base (L2.CX X.prog X.w) k f fd ps (spC A ps.length g)) (hr : Room k X.A) (hg : Gl X x) (hm : X.mg x = some (.ref f)) (hk : PySem.W.keepIn X.K (.ref f) = true) (hb : Binds X.K fd ps [])
    (tk : Takes X (fun cls d _ H => E cls d H)) (har : ∀ ds S, ds.length ≠ ps.length → g ds S = .bad) (ha : PA X (e :: es) (tAs A E fs)) (hdb : (x == ("__debug__" : Str)) = false)
    (he : starEach (e :: es) X.env = (false, eval e X.env) :: starEach es X.env) (hpl : (backTo pos (starEach es X.env)).any (·.1) = false) :
    PE X (.Call (.Name x p) (e :: es) [] pos) (tCal A E fs g) := by
  refine PEi (t := tCall (spC A ps.length g) [] E (tAs A E fs)) ⟨fun pz t τ HH Q J h => ?_⟩ (cal_in har fun _ _ _ h => h)
  refine wpAny_Call_Name_kw (ld_glob J hg hm ?_ hdb)
  refine PySem.W.callWith_K (h₀ := X.base) J.ok.mod.kin hk (thn (ha.run pos pz t τ HH _ J h) fun us t1 ⟨vs, H1, J1, r, q⟩ => ⟨J1.kIn, ?_⟩) he hpl
  exact runG F gd hr hb (passes_call tk fun _ _ _ _ h => h) J1 r (List.append_nil vs ▸ q)
theorem s_call0 (gd : X.A.guards = some []) (F : FnG X.prog X.w X.K X.mg X.base (L2.CX X.prog X.w) k f fd ps (spC A ps.length g)) (hr : Room k X.A) (hg : Gl X x) (hm : X.mg x = some (.ref f)) (hk : PySem.W.keepIn X.K (.ref f) = true) (hb : Binds X.K fd ps [])
    (tk : Takes X (fun cls d _ H => E cls d H)) (har : ∀ ds S, ds.length ≠ ps.length → g ds S = .bad) (hdb : (x == ("__debug__" : Str)) = false) :
    PE X (.Call (.Name x p) [] [] pos) (tCal A E (fun _ S => .ok [] S) g) := by
  refine PEi (t := tCall (spC A ps.length g) [] E tNil) ⟨fun pz t τ HH Q J h => ?_⟩ (cal_in har fun σ H Q ⟨m, S, σD, R, Rs, p⟩ => p.ok R .nil)
  refine wpAny_Call_Name_kw (ld_glob J hg hm ?_ hdb)
  exact PySem.W.callWith_K0 J.kIn hk (runG (ys := []) F gd hr hb (passes_call tk fun _ _ _ _ h => h) J .nil h)
abbrev tMkC (A : Ad) (E : XK) (c : Nat) (fs : Sl → Sto → Out (List D)) (g : List D → Sto → Out D) : TE :=
  tE A E fun σ S => (fs σ S).bind fun ds S => (g (.loc S.length :: ds) (S ++ [.ins c []])).bind fun r S' => match r with | .non => .ok (.loc S.length) S' | _ => .bad
theorem mk_in {c : Nat} (har : ∀ ds S, ds.length ≠ ps.length → g ds S = .bad) {t : TA} (ht : ∀ σ H Q, tAs A E fs σ H Q → t σ H Q) : ∀ σ H Q, tMkC A E c fs g σ H Q → tMake (A.cl c) (spC A ps.length g) [] E t σ H Q :=
  fun σ H Q ⟨m, S, σD, R, Rs, p⟩ => ht σ H _ ⟨m, S, σD, R, Rs, p.seq.mono fun vs H1 ⟨m1, S1, ds, e1, R1, rl, p1⟩ => by
    intro x dx nx ndx ne
    show spC A ps.length g (.ref x :: (vs ++ [])) _ _ E
    rw [List.append_nil]
    have Ra := R1.new (o := .own x) ndx
    have nx' : (upd H1 dx (.own x)) x = none := by rw [upd_ne ne.symm]; exact nx
    obtain ⟨Rb, eb, rb⟩ := newCell (c := .ins c []) (o := .ins (A.cl c) dx []) Ra nx' (.ins upd_same .nil)
    have ex : Ext A m1 H1 (m1 ++ [x]) (upd (upd H1 dx (.own x)) x (.ins (A.cl c) dx [])) := (Ext.new ndx).trans eb
    have p2 := Post.base p1 ex
    refine ⟨_, _, .loc S1.length :: ds, Rb, .cons rb (rl.mono ex), ?_, p2.seq.mono fun v H2 ⟨m3, S3, d, e3, R3, rd, p3⟩ => ?_⟩
    · by_cases c : (D.loc S1.length :: ds).length = ps.length
      · exact c
      · rw [har _ _ c] at p2; exact p2.elim
    · cases rd <;> (try exact (show False from p3).elim)
      refine ⟨rfl, p3.ok R3 (rb.mono e3)⟩⟩
theorem s_make {c : Nat} (M : Mk X.K (A.cl c) f) (gd : X.A.guards = some []) (F : FnG X.prog X.w X.K X.mg X.base (L2.CX X.prog X.w) k f fd ps (spC A ps.length g)) (hr : Room (k + 1) X.A) (hg : Gl X x) (hm : X.mg x = some (.ref (A.cl c))) (hb : Binds X.K fd ps [])
    (tk : Takes X (fun cls d _ H => E cls d H)) (har : ∀ ds S, ds.length ≠ ps.length → g ds S = .bad) (ha : PA X (e :: es) (tAs A E fs)) (hdb : (x == ("__debug__" : Str)) = false)
    (he : starEach (e :: es) X.env = (false, eval e X.env) :: starEach es X.env) (hpl : (backTo pos (starEach es X.env)).any (·.1) = false) :
    PE X (.Call (.Name x p) (e :: es) [] pos) (tMkC A E c fs g) := by
  refine PEi (t := tMake (A.cl c) (spC A ps.length g) [] E (tAs A E fs)) ⟨fun pz t τ HH Q J h => ?_⟩ (mk_in har fun _ _ _ h => h)
  refine wpAny_Call_Name_kw (ld_glob J hg hm ?_ hdb)
  refine PySem.W.callWith_K (h₀ := X.base) J.ok.mod.kin M.kp (thn (ha.run pos pz t τ HH _ J h) fun us t1 ⟨vs, H1, J1, r, q⟩ => ⟨J1.kIn, ?_⟩) he hpl
  exact runG_make M F gd hr hb (passes_call tk fun _ _ _ _ h => h) J1 r (List.append_nil vs ▸ q)
theorem s_make0 {c : Nat} (M : Mk X.K (A.cl c) f) (gd : X.A.guards = some []) (F : FnG X.prog X.w X.K X.mg X.base (L2.CX X.prog X.w) k f fd ps (spC A ps.length g)) (hr : Room (k + 1) X.A) (hg : Gl X x) (hm : X.mg x = some (.ref (A.cl c))) (hb : Binds X.K fd ps [])
    (tk : Takes X (fun cls d _ H => E cls d H)) (har : ∀ ds S, ds.length ≠ ps.length → g ds S = .bad) (hdb : (x == ("__debug__" : Str)) = false) :
    PE X (.Call (.Name x p) [] [] pos) (tMkC A E c (fun _ S => .ok [] S) g) := by
  refine PEi (t := tMake (A.cl c) (spC A ps.length g) [] E tNil) ⟨fun pz t τ HH Q J h => ?_⟩ (mk_in har fun σ H Q ⟨m, S, σD, R, Rs, p⟩ => p.ok R .nil)
  refine wpAny_Call_Name_kw (ld_glob J hg hm ?_ hdb)
  exact PySem.W.callWith_K0 J.kIn M.kp (runG_make (ys := []) M F gd hr hb (passes_call tk fun _ _ _ _ h => h) J .nil h)
abbrev tMt (A : Ad) (E : XK) (c : Nat) (mn : Str) (fo : Sl → Sto → Out D) (fs : Sl → Sto → Out (List D)) (g : List D → Sto → Out D) : TE :=
  tE A E fun σ S => (fo σ S).bind fun x S => match x with
    | .loc a => match S[a]? with
      | some (.ins c' fs') => if c' = c ∧ fs'.lookup mn = none then (fs σ S).bind fun ds S => g (x :: ds) S else .bad
      | _ => .bad
    | _ => .bad
theorem mt_in {c : Nat} {ta : TE} (hta : ∀ σ H Q, tE A E fo σ H Q → ta σ H Q) (har : ∀ ds S, ds.length ≠ ps.length → g ds S = .bad) {t : TA} (ht : ∀ σ H Q, tAs A E fs σ H Q → t σ H Q) :
    ∀ σ H Q, tMt A E c mn fo fs g σ H Q → tMeth (A.cl c) mn (spC A ps.length g) [] E ta t σ H Q :=
  fun σ H Q ⟨m, S, σD, R, Rs, p⟩ => hta σ H _ ⟨m, S, σD, R, Rs, p.seq.mono fun x H1 ⟨m1, S1, dx, e1, R1, rx, p1⟩ => by
    cases rx with
    | @loc i a e =>
      dsimp only at p1
      split at p1
      · rename_i c' fs' hx
        split at p1
        · rename_i hc
          obtain ⟨rfl, hc2⟩ := hc
          obtain ⟨a1, dx, ws, m1', g1, l1⟩ := R1.ins hx
          rw [e] at m1'; cases m1'
          refine ⟨_, dx, ws, rfl, g1, ?_, ht σ H1 _ ⟨m1, S1, σD, R1, Rs.mono e1, p1.seq.mono fun vs H2 ⟨m2, S2, ds, e2, R2, rl, p2⟩ => ?_⟩⟩
          · rcases l1.lookup (f := mn) with ⟨d', v, h1, h2, h3⟩ | ⟨_, h2⟩
            · rw [hc2] at h1; cases h1
            · exact h2
          · show spC A ps.length g (.ref _ :: (vs ++ [])) H2 Q E
            rw [List.append_nil]
            refine ⟨m2, S2, _ :: ds, R2, .cons (.loc (e2.loc _ _ e)) rl, ?_, p2⟩
            by_cases c : (D.loc i :: ds).length = ps.length
            · exact c
            · rw [har _ _ c] at p2; exact p2.elim
        · exact p1.elim
      · exact p1.elim
    | _ => exact (show False from p1).elim⟩
theorem s_meth {c : Nat} {pl : Sem Bool} (he0 : PE X o (tE A E fo)) (cl : Cls X.K (A.cl c)) (hme : Meth X.K (A.cl c) mn f) (gd : X.A.guards = some []) (F : FnG X.prog X.w X.K X.mg X.base (L2.CX X.prog X.w) k f fd ps (spC A ps.length g)) (hr : Room k X.A) (hb : Binds X.K fd ps [])
    (tk : Takes X (fun cls d _ H => E cls d H)) (har : ∀ ds S, ds.length ≠ ps.length → g ds S = .bad) (ha : PA X (e :: es) (tAs A E fs))
    (he : starEach (e :: es) X.env = (false, eval e X.env) :: starEach es X.env) (hpl : (backTo pos (starEach es X.env)).any (·.1) = false)
    (ht : eval (.Call (.Attribute o mn apos) (e :: es) [] pos) X.env = (do
      let ov ← eval o X.env
      standAt apos.atName
      let (f, first) ← holding [ov] (getMethod ov mn pl)
      callWith pos f first (backTo pos (starEach (e :: es) X.env)) (backToKw pos (keywordEach [] X.env)))) :
    PE X (.Call (.Attribute o mn apos) (e :: es) [] pos) (tMt A E c mn fo fs g) := by
  refine PEi (t := tMeth (A.cl c) mn (spC A ps.length g) [] E (tE A E fo) (tAs A E fs)) ⟨fun pz t τ HH Q J h => ?_⟩ (mt_in (fun _ _ _ h => h) har fun _ _ _ h => h)
  refine PySem.W.methodCall_KW (pl := pl) (thn (he0.run pz t τ HH _ J h) fun u t1 ⟨x, H1, J1, rx, a, dx, fs, ex, ea, l, q⟩ => ?_) ht
  subst ex
  obtain rfl : u = Value.ref a := rx
  refine getmeth_ok J1 ea cl hme l ?_
  refine PySem.W.callWith_K (first := [.ref a]) (h₀ := X.base) J.ok.mod.kin hme.kp (thn (ha.run pos pz t1 τ H1 _ J1 q) fun us t2 ⟨vs, H2, J2, r, q2⟩ => ⟨J2.kIn, ?_⟩) he hpl
  exact runG (ys := .ref a :: us) (xs := .ref a :: vs) F gd hr hb (passes_call tk fun _ _ _ _ h => h) J2 (.cons rfl r) (List.append_nil vs ▸ q2)
theorem s_meth0 {c : Nat} {pl : Sem Bool} (he0 : PE X o (tE A E fo)) (cl : Cls X.K (A.cl c)) (hme : Meth X.K (A.cl c) mn f) (gd : X.A.guards = some []) (F : FnG X.prog X.w X.K X.mg X.base (L2.CX X.prog X.w) k f fd ps (spC A ps.length g)) (hr : Room k X.A) (hb : Binds X.K fd ps [])
    (tk : Takes X (fun cls d _ H => E cls d H)) (har : ∀ ds S, ds.length ≠ ps.length → g ds S = .bad)
    (ht : eval (.Call (.Attribute o mn apos) [] [] pos) X.env = (do
      let ov ← eval o X.env
      standAt apos.atName
      let (f, first) ← holding [ov] (getMethod ov mn pl)
      callWith pos f first (backTo pos (starEach [] X.env)) (backToKw pos (keywordEach [] X.env)))) :
    PE X (.Call (.Attribute o mn apos) [] [] pos) (tMt A E c mn fo (fun _ S => .ok [] S) g) := by
  refine PEi (t := tMeth (A.cl c) mn (spC A ps.length g) [] E (tE A E fo) tNil) ⟨fun pz t τ HH Q J h => ?_⟩ (mt_in (fun _ _ _ h => h) har fun σ H Q ⟨m, S, σD, R, Rs, p⟩ => p.ok R .nil)
  refine PySem.W.methodCall_KW (pl := pl) (thn (he0.run pz t τ HH _ J h) fun u t1 ⟨x, H1, J1, rx, a, dx, fs, ex, ea, l, q⟩ => ?_) ht
  subst ex
  obtain rfl : u = Value.ref a := rx
  refine getmeth_ok J1 ea cl hme l ?_
  exact PySem.W.callWith_K0 (first := [.ref a]) J1.kIn hme.kp (runG (ys := [.ref a]) (xs := [.ref a]) F gd hr hb (passes_call tk fun _ _ _ _ h => h) J1 (.cons rfl .nil) q)
theorem boot_bi : ∀ b : BI, bootBuiltins b.name = some b.val := by intro b; cases b <;> decide +kernel
theorem bi_nn : ∀ b : BI, b.name ≠ "__name__" ∧ (b.name == ("__debug__" : Str)) = false := by intro b; cases b <;> decide +kernel
theorem s_bi (b : BI) (hK : A.K = X.K) (hc : X.calm = true) (hy : SysK X.K) (gd : X.A.guards = some []) (hu : X.A.units + 64 < cLine) (hg : Gl X b.name) (hm : X.mg b.name = none) (ha : PA X (e :: es) (tAs A E fs))
    (he : starEach (e :: es) X.env = (false, eval e X.env) :: starEach es X.env) (hpl : (backTo pos (starEach es X.env)).any (·.1) = false) :
    PE X (.Call (.Name b.name p) (e :: es) [] pos) (tE A E fun σ S => (fs σ S).bind fun ds S => .of (biSem b ds S)) := by
  have i : ∀ σ H Q, tE A E (fun σ S => (fs σ S).bind fun ds S => .of (biSem b ds S)) σ H Q → tCB (rBi A b) (tAs A E fs) σ H Q := fun σ H Q ⟨m, S, σD, R, Rs, p⟩ =>
    ⟨m, S, σD, R, Rs, p.seq.mono fun vs H1 ⟨m1, S1, ds, e1, R1, rl, p1⟩ => ⟨m1, S1, ds, R1, rl, p1.po⟩⟩
  have hB := boot_bi b
  have hN := bi_nn b
  have hR := bi_ok hK hc hy gd hu b
  revert hB hN hR hg hm i
  generalize b.name = nm
  intro hg hm i hB hN hR
  cases b <;> first
    | exact PEi (pe_callB hR hg hm hB ha hN.1 hN.2 he hpl) i
    | exact PEi (pe_callTy hR hg hm hB ha hN.1 hN.2 he hpl) i
theorem slot_bm : ∀ b : BM, ∃ T, PlainAttrs T ∧ Slot T b.name b.id ∧ typeOf (.builtin b.id) = pure (.type "method_descriptor") ∧ T = "list"
  | .append => ⟨_, PySem.F.plainAttrs_list, PySem.F.slot_list_append, PySem.F.type_list_append, rfl⟩
  | .extend => ⟨_, PySem.F.plainAttrs_list, PySem.F.slot_list_extend, PySem.F.type_list_extend, rfl⟩
  | .pop => ⟨_, PySem.F.plainAttrs_list, PySem.F.slot_list_pop, PySem.F.type_list_pop, rfl⟩
  | .reverse => ⟨_, PySem.F.plainAttrs_list, PySem.F.slot_list_reverse, PySem.F.type_list_reverse, rfl⟩
abbrev tBm (A : Ad) (E : XK) (b : BM) (fo : Sl → Sto → Out D) (fs : Sl → Sto → Out (List D)) : TE :=
  tE A E fun σ S => (fo σ S).bind fun x S => match x with
    | .loc a => match S[a]? with
      | some (.lst _) => (fs σ S).bind fun ds S => .of (bmSem b x ds S)
      | _ => .bad
    | _ => .bad
theorem bm_in {b : BM} {t : TA} (ht : ∀ σ H Q, tAs A E fs σ H Q → t σ H Q) : ∀ σ H Q, tBm A E b fo fs σ H Q → tBM X.K "list" (rBm A b) (tE A E fo) t σ H Q :=
  fun σ H Q ⟨m, S, σD, R, Rs, p⟩ => ⟨m, S, σD, R, Rs, p.seq.mono fun x H1 ⟨m1, S1, dx, e1, R1, rx, p1⟩ => by
    cases rx with
    | @loc i a e =>
      dsimp only at p1
      split at p1
      · rename_i xs hx
        obtain ⟨a1, vs, m1', g1, l1⟩ := R1.lst hx
        rw [e] at m1'; cases m1'
        exact ⟨.inl ⟨rfl, _, SqL.of g1⟩, ht σ H1 _ ⟨m1, S1, σD, R1, Rs.mono e1, p1.seq.mono fun vs H2 ⟨m2, S2, ds, e2, R2, rl, p2⟩ => ⟨m2, S2, _, ds, R2, .loc (e2.loc _ _ e), rl, p2.po⟩⟩⟩
      · exact p1.elim
    | _ => exact (show False from p1).elim⟩
theorem s_bm (b : BM) (ho : PE X o (tE A E fo)) (ha : PA X (e :: es) (tAs A E fs)) (hbase : attributeBase o b.name X.env (eval o X.env) = eval o X.env)
    (hfew : ((backTo pos (starEach (e :: es) X.env)).all (fun x => !x.1) && (backToKw pos (keywordEach [] X.env)).all (fun x => x.1.isSome)
      && decide ((e :: es).length + ([] : List Keyword).length + (if ([] : List Keyword).isEmpty then 0 else 1) < 30)) = true)
    (hline : (apos.endLine == pos.line) = true) (hs : starEach (e :: es) X.env = (false, eval e X.env) :: starEach es X.env) (hplain : (backTo pos (starEach es X.env)).any (·.1) = false) :
    PE X (.Call (.Attribute o b.name apos) (e :: es) [] pos) (tBm A E b fo fs) := by
  obtain ⟨T, h1, h2, h3, rfl⟩ := slot_bm b
  exact PEi (pe_bm h1 h2 h3 (bm_ok b) ho ha hbase hfew hline hs hplain) (bm_in fun _ _ _ h => h)
theorem s_bm0 (b : BM) (ho : PE X o (tE A E fo)) (hbase : attributeBase o b.name X.env (eval o X.env) = eval o X.env) (hline : (apos.endLine == pos.line) = true) :
    PE X (.Call (.Attribute o b.name apos) [] [] pos) (tBm A E b fo (fun _ S => .ok [] S)) := by
  obtain ⟨T, h1, h2, h3, rfl⟩ := slot_bm b
  exact PEi (pe_bm0 h1 h2 h3 (bm_ok (A := A) b) ho hbase hline) (bm_in (X := X) (t := tNil) (fun σ H Q ⟨m, S, σD, R, Rs, p⟩ => p.ok R .nil))
end

/-! ### iterables -/
def RJ (A : Ad) : List Addr → Hp → Walk → It → Prop := fun m0 H0 w J => ∀ i m S H, Ext A m0 H0 m H → Rep A m S H →
  match wgo w i S with
  | some none => J.stop i H
  | some (some d) => J.go i H ∧ ∀ x H', J.yld i H x H' → Ext A m H m H' ∧ Rep A m S H' ∧ RepD A m H' d x
  | none => True
abbrev tI (A : Ad) (E : XK) (f : Sl → Sto → Out Walk) : TI := tG A E (RJ A) f
theorem PIi {X : Cx} {tg e : Expr} {t t' : TI} (h : PI X tg e t) (i : ∀ σ H Q, t' σ H Q → t σ H Q) : PI X tg e t' := ⟨fun pins s σ H Q I hw => h.run pins s σ H Q I (i _ _ _ hw)⟩
/-- the keys of a written dict -/
def Itkd (ks : List Str) : It := ⟨fun i H => i < ks.length, fun i H x H' => H' = H ∧ ∃ k, ks[i]? = some k ∧ x = .str k, fun i H => ks.length ≤ i⟩
theorem keyS_at {es : Array DictEntry} {ks : List Str} (h : es.toList.map keyS = ks.map some) {i : Nat} {k : Str} (hk : ks[i]? = some k) : ∃ en t, es[i]? = some en ∧ en.key = .str k t := by
  have h1 : (es.toList.map keyS)[i]? = some (some k) := by rw [h, List.getElem?_map, hk]; rfl
  rw [List.getElem?_map, Option.map_eq_some_iff] at h1
  obtain ⟨en, h2, h3⟩ := h1
  rw [Array.getElem?_toList] at h2
  unfold keyS at h3
  split at h3
  · rename_i x t e
    cases h3
    exact ⟨en, t, h2, e⟩
  · cases h3
theorem turn_kd {P : Program} {w : World} {K : PySem.W.Frag} {tg : Expr} {d : Addr} {es : Array DictEntry} {n : Nat} {ks : List Str} (D : KDict K w d es n) (hk : es.toList.map keyS = ks.map some) (it : Addr) : Turn P w K tg (Itkd ks) [it] it (fun i h => h.IsKeyIter it d i ks.length n) where
  mem := by simp
  obj := fun i h st b hb => by
    have e : b = it := by simpa using hb
    subst e
    obtain ⟨oi, e, c, dd⟩ := st
    exact ⟨oi, e, fun v z => by rw [dd] at z; cases z⟩
  keep := fun i h h' st k => st.at fun oi e => k it (by simp) oi e
  item := by
    intro X hP hw hK hc i pins s σ H E I hf st hg
    subst hP hw hK
    obtain ⟨f0, f1, f2, f3, f4, f5⟩ := hf it (by simp)
    have hsz : es.size = ks.length := by have := congrArg List.length hk; simpa using this
    have hi : i < ks.length := hg
    have hki : ks[i]? = some ks[i] := List.getElem?_eq_getElem hi
    obtain ⟨en, t, hen, hkey⟩ := keyS_at hk hki
    refine next_key_item st (I.kIn _ _ D.at_) rfl hsz hen fun h' st' sb => ?_
    have I1 : Inv X pins σ H { s with heap := h' } := I.turned (t' := s.toks) (fun b ob hb e => (sb.2 b hb).trans e) f0 f1 f3 f4 f5
    obtain ⟨oi, e, c, dd⟩ := id st'
    exact ⟨en.key, rfl, go_of (s := { s with heap := h' }) e c dd (by decide) ⟨.str ks[i], H, I1, ⟨t, hkey⟩, ⟨rfl, _, hki, rfl⟩, st', fun b hb => (hf b hb).1⟩⟩
  done := by
    intro X hP hw hK hc i pins s σ H E I hf st hg
    subst hP hw hK
    obtain ⟨f0, f1, f2, f3, f4, f5⟩ := hf it (by simp)
    have hsz : es.size = ks.length := by have := congrArg List.length hk; simpa using this
    exact next_key_end (I.ok.hd hc) st (I.kIn _ _ D.at_) rfl hsz hg fun h' eb => ⟨rfl, I.turned (t' := s.toks) (fun b ob hb e => eb b ob hb e) f0 f1 f3 f4 f5⟩
  self := fun A i s Q E st h => wpAny_pyIter_keyiter st h
def iAny (K : PySem.W.Frag) (w : World) (tl : TE) : TI := fun σ H R => tl σ H fun x H1 => (∃ a, x = .ref a ∧ (∃ xs, SqL K H1 a xs) ∧ R (Itl K a) H1) ∨ (∃ a, x = .ref a ∧ (∃ xs, SqT K H1 a xs) ∧ R (Itt K a) H1) ∨ (∃ z, x = .str z ∧ R (Its z) H1) ∨ ∃ a es n ks, x = .ref a ∧ KDict K w a es n ∧ es.toList.map keyS = ks.map some ∧ R (Itkd ks) H1
theorem pi_any {X : Cx} {tg l : Expr} {tl : TE} (hl : PE X l tl) : PI X tg l (iAny X.K X.w tl) := by
  refine ⟨fun pins s σ H R I h => ?_⟩
  refine thn (hl.run pins s σ H _ I h) fun v s1 ⟨x, H1, I1, r1, q1⟩ => ?_
  rcases q1 with ⟨a, e, ⟨xs, hq⟩, q⟩ | ⟨a, e, ⟨xs, hq⟩, q⟩ | ⟨z, e, q⟩ | ⟨a, es, n, ks, e, D, hk, q⟩
  · subst e
    cases r1
    obtain ⟨its, rv, p, hz⟩ := I1.list hq
    refine wpAny_pyIter_list p.isList ?_
    refine ⟨s1.heap.objs.size, [s1.heap.objs.size], _, _, H1, rfl, I1.kept (t' := s1.toks) fun b o e => Heap.get?_push_of_some _ e, turn_list a _, ⟨_, Heap.get?_push_size _ rfl, rfl, rfl⟩, fun b hb => ?_, q⟩
    have e : b = s1.heap.objs.size := by simpa using hb
    subst e
    exact I1.fpOk (Nat.le_refl _) (I1.hok.fresh (Nat.le_refl _))
  · subst e
    cases r1
    obtain ⟨its, rv, p, hz⟩ := I1.tuple hq
    refine wpAny_pyIter_tuple (show s1.heap.IsTuple a its.toArray from p) ?_
    refine ⟨s1.heap.objs.size, [s1.heap.objs.size], _, _, H1, rfl, I1.kept (t' := s1.toks) fun b o e => Heap.get?_push_of_some _ e, turn_tuple a _, ⟨_, Heap.get?_push_size _ rfl, rfl, rfl⟩, fun b hb => ?_, q⟩
    have e : b = s1.heap.objs.size := by simpa using hb
    subst e
    exact I1.fpOk (Nat.le_refl _) (I1.hok.fresh (Nat.le_refl _))
  · subst e
    obtain ⟨t, rfl⟩ := r1
    cases ha : z.cps.all (· < 128)
    · exact wpAny_pyIter_wide ha (pi_one (tk := s1.toks) I1 _ (turn_str _ z t "str_iterator" (.inr rfl)) ⟨_, Heap.get?_push_size _ rfl, rfl, rfl⟩ q)
    · exact wpAny_pyIter_ascii ha (pi_one (tk := s1.toks) I1 _ (turn_str _ z t "str_ascii_iterator" (.inl rfl)) ⟨_, Heap.get?_push_size _ rfl, rfl, rfl⟩ q)
  · subst e
    cases r1
    have hsz : es.size = ks.length := by have := congrArg List.length hk; simpa using this
    refine iter_keys D.low (I1.kIn _ _ D.at_) ⟨rfl, rfl, rfl⟩ rfl ?_
    refine ⟨s1.heap.objs.size, [s1.heap.objs.size], _, _, H1, rfl, I1.kept (t' := s1.toks) fun b o e => Heap.get?_push_of_some _ e, turn_kd D hk _, ?_, fun b hb => ?_, q⟩
    · rw [← hsz]
      exact ⟨_, Heap.get?_push_size _ rfl, rfl, rfl⟩
    · have e : b = s1.heap.objs.size := by simpa using hb
      subst e
      exact I1.fpOk (Nat.le_refl _) (I1.hok.fresh (Nat.le_refl _))
section
variable {X : Cx} {A : Ad} {E : XK} {e a b tg : Expr} {fo fa fb : Sl → Sto → Out D} {p pos : Pos}
theorem SqT.inj {K : PySem.W.Frag} {H : Hp} {a : Addr} {xs ys : List V} (hx : H a = some (.tup xs)) (hy : H a = some (.tup ys)) : xs = ys := by rw [hx] at hy; cases hy; rfl
theorem get_none {m : List Addr} {H : Hp} {ds : List D} {vs : List V} {i : Nat} (l : RepL A m H ds vs) (h : ds[i]? = none) : vs.length ≤ i := by
  rw [l.length]; exact List.getElem?_eq_none_iff.mp h
theorem rj_list {m0 : List Addr} {H0 : Hp} {i : Nat} {a : Addr} (e : m0[i]? = some a) : RJ A m0 H0 (.li i) (Itl A.K a) := by
  intro j m S H ex R
  have bad : ∀ {r : Option (Option D)}, r = none → (match r with
    | some none => (Itl A.K a).stop j H
    | some (some d) => (Itl A.K a).go j H ∧ ∀ x H', (Itl A.K a).yld j H x H' → Ext A m H m H' ∧ Rep A m S H' ∧ RepD A m H' d x
    | none => True) := fun z => by subst z; trivial
  cases hx : S[i]? with
  | none => exact bad (by simp only [wgo, hx])
  | some c =>
    cases c with
    | lst xs =>
      have e2 : wgo (.li i) j S = some xs[j]? := by simp only [wgo, hx]
      rw [e2]
      obtain ⟨a1, vs, m1, g1, l1⟩ := R.lst hx
      rw [ex.loc _ _ e] at m1; cases m1
      cases hj : xs[j]? with
      | none => exact ⟨vs, SqL.of g1, get_none l1 hj⟩
      | some d =>
        obtain ⟨v, h1, h2⟩ := l1.get hj
        refine ⟨⟨vs, v, SqL.of g1, h1⟩, fun x H' y => ?_⟩
        obtain ⟨rfl, y2⟩ := y
        have := y2 _ (SqL.of g1)
        rw [h1] at this; cases this
        exact ⟨Ext.refl, R, h2⟩
    | _ => exact bad (by simp only [wgo, hx])
theorem rj_rl {m0 : List Addr} {H0 : Hp} {a : Addr} {xs : List D} {vs : List V} (t : RoL A.K H0 a vs) (l : RepL A m0 H0 xs vs) : RJ A m0 H0 (.vs xs) (Itl A.K a) := by
  intro j m S H ex R
  have t' := (ex.rol _ _ t).sq
  have l' := l.mono ex
  show match some xs[j]? with
    | some none => (Itl A.K a).stop j H
    | some (some d) => (Itl A.K a).go j H ∧ ∀ x H', (Itl A.K a).yld j H x H' → Ext A m H m H' ∧ Rep A m S H' ∧ RepD A m H' d x
    | none => True
  cases hj : xs[j]? with
  | none => exact ⟨vs, t', get_none l' hj⟩
  | some d =>
    obtain ⟨v, h1, h2⟩ := l'.get hj
    refine ⟨⟨vs, v, t', h1⟩, fun x H' y => ?_⟩
    obtain ⟨rfl, y2⟩ := y
    have := y2 _ t'
    rw [h1] at this; cases this
    exact ⟨Ext.refl, R, h2⟩
theorem rj_tup {m0 : List Addr} {H0 : Hp} {a : Addr} {xs : List D} {vs : List V} (t : SqT A.K H0 a vs) (l : RepL A m0 H0 xs vs) : RJ A m0 H0 (.vs xs) (Itt A.K a) := by
  intro j m S H ex R
  have t' := ex.tup _ _ t
  have l' := l.mono ex
  show match some xs[j]? with
    | some none => (Itt A.K a).stop j H
    | some (some d) => (Itt A.K a).go j H ∧ ∀ x H', (Itt A.K a).yld j H x H' → Ext A m H m H' ∧ Rep A m S H' ∧ RepD A m H' d x
    | none => True
  cases hj : xs[j]? with
  | none => exact ⟨vs, t', get_none l' hj⟩
  | some d =>
    obtain ⟨v, h1, h2⟩ := l'.get hj
    refine ⟨⟨vs, v, t', h1⟩, fun x H' y => ?_⟩
    obtain ⟨rfl, y2⟩ := y
    have := y2 _ t'
    rw [h1] at this; cases this
    exact ⟨Ext.refl, R, h2⟩
theorem rj_str {m0 : List Addr} {H0 : Hp} (z : Str) : RJ A m0 H0 (.vs (charsD z)) (Its z) := by
  intro j m S H ex R
  show match some (charsD z)[j]? with
    | some none => (Its z).stop j H
    | some (some d) => (Its z).go j H ∧ ∀ x H', (Its z).yld j H x H' → Ext A m H m H' ∧ Rep A m S H' ∧ RepD A m H' d x
    | none => True
  have e : (charsD z)[j]? = (z.cps[j]?).map fun c => D.str ⟨#[c]⟩ := by
    unfold charsD
    rw [List.getElem?_map, Array.getElem?_toList]
  rw [e]
  cases hj : z.cps[j]? with
  | none => exact Array.getElem?_eq_none_iff.mp hj
  | some c =>
    refine ⟨(Array.getElem?_eq_some_iff.mp hj).1, fun x H' y => ?_⟩
    obtain ⟨rfl, c', h1, rfl⟩ := y
    rw [hj] at h1
    cases h1
    exact ⟨Ext.refl, R, .str _⟩
theorem rj_enT {m0 : List Addr} {H0 : Hp} {a : Addr} {xs : List D} {vs : List V} (t : SqT A.K H0 a vs) (l : RepL A m0 H0 xs vs) : RJ A m0 H0 (.en (.vs xs)) (IteT A.K a) := by
  intro j m S H ex R
  have t' := ex.tup _ _ t
  have l' := l.mono ex
  show match (some xs[j]?).map fun o => o.map fun d => D.tup [.int j, d] with
    | some none => (IteT A.K a).stop j H
    | some (some d) => (IteT A.K a).go j H ∧ ∀ x H', (IteT A.K a).yld j H x H' → Ext A m H m H' ∧ Rep A m S H' ∧ RepD A m H' d x
    | none => True
  cases hj : xs[j]? with
  | none => exact ⟨vs, t', get_none l' hj⟩
  | some d =>
    obtain ⟨v, h1, h2⟩ := l'.get hj
    refine ⟨⟨vs, v, t', h1⟩, fun x' H' y => ?_⟩
    obtain ⟨T, y1, rfl, hT, rfl, hy⟩ := y
    have := hy _ t'
    rw [h1] at this
    cases this
    obtain ⟨a, b, c⟩ := newTup R (ds := [.int j, d]) (vs := [.int j, v]) (.cons (.int _) (.cons h2 .nil)) hT
    exact ⟨b, a, c⟩
theorem rj_rng {m0 : List Addr} {H0 : Hp} (lo : Int) (n : Nat) : RJ A m0 H0 (.rng lo n) (Itr lo n) := by
  intro j m S H ex R
  show match some (if j < n then some (D.int (lo + j)) else none) with
    | some none => (Itr lo n).stop j H
    | some (some d) => (Itr lo n).go j H ∧ ∀ x H', (Itr lo n).yld j H x H' → Ext A m H m H' ∧ Rep A m S H' ∧ RepD A m H' d x
    | none => True
  by_cases c : j < n
  · rw [if_pos c]
    exact ⟨c, fun x H' ⟨h1, h2⟩ => by subst h1; subst h2; exact ⟨Ext.refl, R, .int _⟩⟩
  · rw [if_neg c]
    exact Nat.le_of_not_lt c
theorem rj_en {m0 : List Addr} {H0 : Hp} {w : Walk} {a : Addr} (h : RJ A m0 H0 w (Itl A.K a)) : RJ A m0 H0 (.en w) (Ite A.K a) := by
  intro j m S H ex R
  have z := h j m S H ex R
  show match (wgo w j S).map fun o => o.map fun d => D.tup [.int j, d] with
    | some none => (Ite A.K a).stop j H
    | some (some d) => (Ite A.K a).go j H ∧ ∀ x H', (Ite A.K a).yld j H x H' → Ext A m H m H' ∧ Rep A m S H' ∧ RepD A m H' d x
    | none => True
  revert z
  cases wgo w j S with
  | none => exact fun _ => trivial
  | some o =>
    cases o with
    | none => exact fun z => z
    | some d =>
      intro z
      obtain ⟨⟨xs, x, z1, z1'⟩, z2⟩ := z
      refine ⟨⟨xs, x, z1, z1'⟩, fun x' H' y => ?_⟩
      obtain ⟨T, y1, rfl, hT, rfl, hy⟩ := y
      obtain ⟨_, _, r⟩ := z2 y1 H ⟨rfl, hy⟩
      obtain ⟨a, b, c⟩ := newTup R (ds := [.int j, d]) (vs := [.int j, y1]) (.cons (.int _) (.cons r .nil)) hT
      exact ⟨b, a, c⟩
theorem rj_kd {m0 : List Addr} {H0 : Hp} (ks : List Str) : RJ A m0 H0 (.vs (ks.map D.str)) (Itkd ks) := by
  intro j m S H ex R
  show match some (ks.map D.str)[j]? with
    | some none => (Itkd ks).stop j H
    | some (some d) => (Itkd ks).go j H ∧ ∀ x H', (Itkd ks).yld j H x H' → Ext A m H m H' ∧ Rep A m S H' ∧ RepD A m H' d x
    | none => True
  rw [List.getElem?_map]
  cases hj : ks[j]? with
  | none => exact List.getElem?_eq_none_iff.mp hj
  | some c =>
    refine ⟨(List.getElem?_eq_some_iff.mp hj).1, fun x H' y => ?_⟩
    obtain ⟨rfl, c', h1, rfl⟩ := y
    rw [hj] at h1
    cases h1
    exact ⟨Ext.refl, R, .str _⟩
theorem s_iter (hK : A.K = X.K) (hW : A.w = X.w) (h : PE X e (tE A E fo)) : PI X tg e (tI A E fun σ S => (fo σ S).bind fun x S => .at S (walkOf x S)) :=
  PIi (pi_any h) fun σ H Q ⟨m, S, σD, R, Rs, p⟩ => ⟨m, S, σD, R, Rs, p.seq.mono fun x H1 ⟨m1, S1, dx, e1, R1, rx, p1⟩ => by
    cases rx with
    | tup t l => exact .inr (.inl ⟨_, rfl, ⟨_, hK ▸ t⟩, hK ▸ (p1.ok R1 (rj_tup t l))⟩)
    | str z => exact .inr (.inr (.inl ⟨_, rfl, p1.ok R1 (rj_str z)⟩))
    | @rd kvs a hd hn hr =>
      obtain ⟨es, n, D, hk⟩ := hd
      have hk' : es.toList.map keyS = (kvs.map (·.1)).map some := by rw [hk, List.map_map]; rfl
      have D' : KDict X.K X.w a es n := by rw [← hK, ← hW]; exact D
      exact .inr (.inr (.inr ⟨a, es, n, kvs.map (·.1), rfl, D', hk', p1.ok R1 (rj_kd _)⟩))
    | rl t l => exact .inl ⟨_, rfl, ⟨_, hK ▸ t.sq⟩, hK ▸ (p1.ok R1 (rj_rl t l))⟩
    | @loc i a e =>
      simp only [walkOf] at p1
      cases hx : S1[i]? with
      | none => rw [hx] at p1; exact p1.elim
      | some c =>
        rw [hx] at p1
        cases c with
        | lst xs =>
          obtain ⟨a1, vs, m1', g1, l1⟩ := R1.lst hx
          rw [e] at m1'; cases m1'
          exact .inl ⟨_, rfl, ⟨_, SqL.of g1⟩, hK ▸ (p1.ok R1 (rj_list e))⟩
        | _ => exact p1.elim
    | _ => exact (show False from p1).elim⟩
theorem rng_of {lo hi : Int} (h : rngOk lo hi = true) : -(2 ^ 62) ≤ lo ∧ lo < 2 ^ 62 ∧ -(2 ^ 62) ≤ hi ∧ hi < 2 ^ 62 := of_decide_eq_true h
theorem s_rng1 (hg : Gl X "range") (hm : X.mg "range" = none) (h : PE X e (tE A E fo)) (hs : starEach [e] X.env = (false, eval e X.env) :: starEach [] X.env) :
    PI X tg (.Call (.Name "range" p) [e] [] pos) (tI A E fun σ S => (fo σ S).bind fun x S => match x with | .int j => if rngOk 0 j = true then .ok (.rng 0 j.toNat) S else .bad | _ => .bad) :=
  PIi (pi_range1 hg hm (pa_cons h pa_nil hs) hs) fun σ H Q ⟨m, S, σD, R, Rs, p⟩ => ⟨m, S, σD, R, Rs, p.seq.mono fun x H1 ⟨m1, S1, dx, e1, R1, rx, p1⟩ => by
    cases rx with
    | int j =>
      dsimp only at p1
      split at p1
      · rename_i hr
        have z := rng_of hr
        exact ⟨j, rfl, z.2.2.1, z.2.2.2, p1.ok R1 (rj_rng 0 j.toNat)⟩
      · exact p1.elim
    | _ => exact (show False from p1).elim⟩
theorem s_rng2 (hg : Gl X "range") (hm : X.mg "range" = none) (ha : PE X a (tE A E fa)) (hb : PE X b (tE A E fb)) (hs : starEach [a, b] X.env = (false, eval a X.env) :: starEach [b] X.env) (hs2 : starEach [b] X.env = (false, eval b X.env) :: starEach [] X.env) :
    PI X tg (.Call (.Name "range" p) [a, b] [] pos) (tI A E fun σ S => (fa σ S).bind fun x S => (fb σ S).bind fun y S => match x, y with
      | .int i, .int j => if rngOk i j = true then .ok (.rng i (j - i).toNat) S else .bad
      | _, _ => .bad) :=
  PIi (pi_range2 hg hm (pa_cons ha (pa_cons hb pa_nil hs2) hs) (by rw [hs, hs2]; rfl) hs2) fun σ H Q ⟨m, S, σD, R, Rs, p⟩ => ⟨m, S, σD, R, Rs, p.seq.mono fun x H1 ⟨m1, S1, dx, e1, R1, rx, p1⟩ => ⟨m1, S1, σD, R1, Rs.mono e1, p1.seq.mono fun y H2 ⟨m2, S2, dy, e2, R2, ry, p2⟩ => by
    cases rx with
    | int i =>
      cases ry with
      | int j =>
        dsimp only at p2
        split at p2
        · rename_i hr
          exact ⟨i, j, rfl, rng_of hr, p2.ok R2 (rj_rng i (j - i).toNat)⟩
        · exact p2.elim
      | _ => exact (show False from p2).elim
    | _ => exact (show False from p2).elim⟩⟩
theorem s_enum {elts : List Expr} {kk : Nat} {tpos : Pos} (hK : A.K = X.K) (hg : Gl X "enumerate") (hm : X.mg "enumerate" = none) (h : PE X e (tE A E fo)) (hs : starEach [e] X.env = (false, eval e X.env) :: starEach [] X.env) :
    PI X (.Tuple elts kk tpos) (.Call (.Name "enumerate" p) [e] [] pos) (tI A E fun σ S => (fo σ S).bind fun x S => match walkL x S with | some w => .ok (.en w) S | none => .bad) :=
  PIi (pi_enumA hg hm (pa_cons h pa_nil hs) hs) fun σ H Q ⟨m, S, σD, R, Rs, p⟩ => ⟨m, S, σD, R, Rs, p.seq.mono fun x H1 ⟨m1, S1, dx, e1, R1, rx, p1⟩ => by
    cases rx with
    | tup t l => exact ⟨_, rfl, .inr ⟨⟨_, hK ▸ t⟩, hK ▸ (p1.ok R1 (rj_enT t l))⟩⟩
    | rl t l => exact ⟨_, rfl, .inl ⟨⟨_, hK ▸ t.sq⟩, hK ▸ (p1.ok R1 (rj_en (rj_rl t l)))⟩⟩
    | @loc i a e =>
      simp only [walkL] at p1
      cases hx : S1[i]? with
      | none => rw [hx] at p1; exact p1.elim
      | some c =>
        rw [hx] at p1
        cases c with
        | lst xs =>
          obtain ⟨a1, vs, m1', g1, l1⟩ := R1.lst hx
          rw [e] at m1'; cases m1'
          exact ⟨_, rfl, .inl ⟨⟨_, SqL.of g1⟩, hK ▸ (p1.ok R1 (rj_en (rj_list e)))⟩⟩
        | _ => exact p1.elim
    | _ => exact (show False from p1).elim⟩
end
end DI

set_option Elab.async false
set_option linter.all false
set_option maxRecDepth 100000
set_option maxHeartbeats 4000000
/-! Targets, comprehensions. -/
namespace DI
open L2 PySem PySem.Spec PyProof.Rows
def EF : XK := fun _ _ _ => False
def gNames : List Nat → TGs
  | [] => gNil
  | i :: is => gCons (gName i) (gNames is)
def gOf (K : PySem.W.Frag) : Tg → TG
  | .nm i => gName i
  | .tp is => gTup K is.length (gNames is)
def Tg.slots : Tg → List Nat
  | .nm i => [i]
  | .tp is => is
section
variable {X : Cx} {A : Ad} {E : XK} {m : List Addr} {H : Hp}
theorem gNames_in (inv : L2.St → Prop) (Q : L2.St → Hp → Prop) : ∀ (is : List Nat) (ds : List D) (vs : List V) (σD σD' : Sl) (σ : L2.St), setTs is ds σD = some σD' → RepL A m H ds vs → RepS A m H σD σ →
    (∀ τ i v, i ∈ is → inv τ → inv (τ.set i (some v))) → inv σ → (∀ σ', RepS A m H σD' σ' → inv σ' → Q σ' H) → gNames is vs σ H Q
  | [], [], _, σD, σD', σ, h, .nil, Rs, hi, i0, k => by simp only [setTs] at h; cases h; exact ⟨rfl, k σ Rs i0⟩
  | [], d :: ds, _, σD, σD', σ, h, _, Rs, hi, i0, k => by simp only [setTs] at h; cases h
  | i :: is, [], _, σD, σD', σ, h, _, Rs, hi, i0, k => by simp only [setTs] at h; cases h
  | i :: is, d :: ds, _, σD, σD', σ, h, .cons a b, Rs, hi, i0, k => by
    simp only [setTs] at h
    exact ⟨_, _, rfl, gNames_in inv Q is ds _ _ σD' _ h b (Rs.set a i) (fun τ j v hj => hi τ j v (List.mem_cons_of_mem _ hj)) (hi _ _ _ List.mem_cons_self i0) k⟩
theorem gOf_in {K : PySem.W.Frag} (hK : A.K = K) (inv : L2.St → Prop) (Q : L2.St → Hp → Prop) {tg : Tg} {d : D} {v : V} {σD σD' : Sl} {σ : L2.St} (h : setTg tg d σD = some σD') (r : RepD A m H d v) (Rs : RepS A m H σD σ)
    (hi : ∀ τ i v, i ∈ tg.slots → inv τ → inv (τ.set i (some v))) (i0 : inv σ) (k : ∀ σ', RepS A m H σD' σ' → inv σ' → Q σ' H) : gOf K tg v σ H Q := by
  cases tg with
  | nm i =>
    simp only [setTg] at h; cases h
    exact k _ (Rs.set r i) (hi _ _ _ List.mem_cons_self i0)
  | tp is =>
    cases r with
    | tup t l =>
      simp only [setTg] at h
      refine ⟨_, _, rfl, hK ▸ t, ?_, gNames_in inv Q is _ _ _ _ _ h l Rs hi i0 k⟩
      rw [l.length]
      clear t l hi k i0 Rs
      revert h
      rename_i xs _ _
      induction is generalizing xs σD with
      | nil => intro h; cases xs <;> simp_all [setTs]
      | cons i is ih => intro h; cases xs with
        | nil => simp [setTs] at h
        | cons x xs => simp only [setTs] at h; rw [List.length_cons, List.length_cons, ih h]
    | _ => simp only [setTg] at h; cases h
theorem wipe_set {vs : List Nat} {i : Nat} {y : Option V} (h : i ∈ vs) : ∀ τ : L2.St, L2.wipe (τ.set i y) vs = L2.wipe τ vs := by
  induction vs with
  | nil => cases h
  | cons v vs ih =>
    intro τ
    have hw : ∀ (ws : List Nat) (τ : L2.St) (j : Nat) (y : Option V), L2.wipe (τ.set j y) ws = (L2.wipe τ ws).set j (if j ∈ ws then none else y) := by
      intro ws
      induction ws with
      | nil => intro τ j y; simp [L2.wipe]
      | cons w ws ih2 =>
        intro τ j y
        show (L2.wipe (τ.set j y) ws).set w none = ((L2.wipe τ ws).set w none).set j _
        rw [ih2]
        by_cases e : w = j
        · subst e
          rw [List.set_set, if_pos List.mem_cons_self, List.set_set]
        · rw [List.set_comm _ _ e]
          congr 1
          by_cases e2 : j ∈ ws
          · rw [if_pos e2, if_pos (List.mem_cons_of_mem _ e2)]
          · rw [if_neg e2, if_neg (by rw [List.mem_cons]; rintro (z | z); exact e z.symm; exact e2 z)]
    show (L2.wipe (τ.set i y) vs).set v none = (L2.wipe τ vs).set v none
    by_cases e : i ∈ vs
    · rw [ih e]
    · have e2 : i = v := by
        rcases List.mem_cons.mp h with z | z
        · exact z
        · exact absurd z e
      subst e2
      rw [hw, List.set_set]
theorem wipe_wipe (vs : List Nat) : ∀ τ : L2.St, L2.wipe (L2.wipe τ vs) vs = L2.wipe τ vs := by
  have : ∀ ws : List Nat, (∀ w ∈ ws, w ∈ vs) → ∀ τ : L2.St, L2.wipe (L2.wipe τ ws) vs = L2.wipe τ vs := by
    intro ws
    induction ws with
    | nil => intro _ τ; rfl
    | cons w ws ih =>
      intro h τ
      show L2.wipe ((L2.wipe τ ws).set w none) vs = _
      rw [wipe_set (h w List.mem_cons_self), ih (fun z hz => h z (List.mem_cons_of_mem _ hz))]
  exact fun τ => this vs (fun _ h => h) τ
def RE {α : Type} : List Addr → Hp → α → α → Prop := fun _ _ d b => d = b
theorem Post.tstb {m : List Addr} {H : Hp} {o : Out D} {Q : Bool → Hp → Prop} (p : Post A E RE m H (tstO o) Q) : Post A E RB m H o Q := by
  cases o with
  | ok d S1 =>
    intro m1 H1 x e1 R1 rx
    have e : d = .bl x := rx
    subst e
    exact p m1 H1 x e1 R1 rfl
  | err c fs S1 => exact p
  | bad => exact p
theorem s_pts0 : PTs X [] (tG A E RE fun _ S => .ok true S) := ⟨fun pins s σ H Q I hw => pts_nil.run pins s σ H Q I (let ⟨_, _, _, R, _, p⟩ := hw; p.ok R rfl)⟩
theorem s_pts1 {c : Expr} {fa : Sl → Sto → Out D} (h : PT X c (tT A E fa)) : PTs X [c] (tG A E RE fun σ S => tstO (fa σ S)) :=
  ⟨fun pins s σ H Q I hw => (pts_one h).run pins s σ H Q I (let ⟨m, S, σD, R, Rs, p⟩ := hw; ⟨m, S, σD, R, Rs, p.tstb⟩)⟩
theorem lc_in (hK : A.K = X.K) {fi : Sl → Sto → Out Walk} {tg : Tg} {ft : Sl → Sto → Out Bool} {fe : Sl → Sto → Out D} {vs : List Nat} (htg : ∀ i ∈ tg.slots, i ∈ vs) :
    ∀ σ H Q, tE A E (fun σ S => (fi σ S).bind fun w S => (lcLoop w tg (wipeD σ vs) S.length ft fe (wlen w S) 0 (S ++ [.lst []])).bind fun _ S' => .ok (.loc S.length) S') σ H Q →
      tLc (tI A E fi) (gOf X.K tg) (tG A EF RE ft) (tE A EF fe) vs σ H Q := by
  intro σ H Q ⟨m, S, σD, R, Rs, p⟩
  refine ⟨m, S, σD, R, Rs, p.seq.mono fun J H1 ⟨m1, S1, w, e1, R1, rj, p1⟩ D hD => ?_⟩
  obtain ⟨Ra, ea, ra⟩ := newCell (c := .lst []) (o := .lst []) R1 hD (.lst upd_same .nil)
  cases ra with
  | loc eD =>
  have Rw := (Rs.mono (e1.trans ea)).wipe vs
  refine ⟨fun i k H => ∃ m S', Ext A (m1 ++ [D]) (upd H1 D (.lst [])) m H ∧ Rep A m S' H ∧ Post A E (RepD A) m H ((lcLoop w tg (wipeD σD vs) S1.length ft fe k i S').bind fun _ S' => .ok (.loc S1.length) S') Q,
    ⟨wlen w S1, _, _, Ext.refl, Ra, Post.base p1 ea⟩, ?_⟩
  rintro i k H2 ⟨m2, S2, e2, R2, p2⟩
  have fin : ∀ {z : Out Unit}, z = .ok () S2 → Post A E (RepD A) m2 H2 (z.bind fun _ S' => .ok (.loc S1.length) S') Q → Q (.ref D) H2 := by
    intro z hz p
    subst hz
    exact p m2 H2 _ Ext.refl R2 (.loc (e2.loc _ _ eD))
  have hbad : ∀ {z : Out Unit} {m : List Addr} {H : Hp}, z = .bad → Post A E (RepD A) m H (z.bind fun _ S' => .ok (.loc S1.length) S') Q → False := by
    intro z m H hz p
    subst hz
    exact p
  have z := rj i m2 S2 H2 (ea.trans e2) R2
  cases hw : wgo w i S2 with
  | none =>
    exfalso
    cases k with
    | zero => exact hbad (by simp only [lcLoop, hw]) p2
    | succ k => exact hbad (by simp only [lcLoop, hw]) p2
  | some o =>
    rw [hw] at z
    cases o with
    | none =>
      refine .inl ⟨z, ?_⟩
      cases k with
      | zero => exact fin (by simp only [lcLoop, hw]) p2
      | succ k => exact fin (by simp only [lcLoop, hw]) p2
    | some d =>
      cases k with
      | zero => exact (hbad (by simp only [lcLoop, hw]) p2).elim
      | succ k =>
        obtain ⟨z1, z2⟩ := z
        refine .inr ⟨z1, _, fun H' hN => ⟨k, Nat.lt_succ_self k, hN⟩, fun x H3 hy => ?_⟩
        obtain ⟨e3, R3, rx⟩ := z2 x H3 hy
        have p3 := Post.base p2 e3
        simp only [lcLoop, hw] at p3
        cases hs : setTg tg d (wipeD σD vs) with
        | none => rw [hs] at p3; exact p3.elim
        | some σ' =>
          rw [hs] at p3
          dsimp only at p3
          refine gOf_in hK (fun τ => L2.wipe τ vs = L2.wipe σ vs) _ hs rx (Rw.mono (e2.trans e3)) (fun τ j v hj hτ => by rw [wipe_set (htg j hj)]; exact hτ) (wipe_wipe vs σ) fun σ2 Rs2 hw2 => ?_
          refine ⟨hw2, m2, S2, σ', R3, Rs2, ?_⟩
          revert p3
          cases ft σ' S2 with
          | err c fs S3 => exact fun p3 => p3.elim
          | bad => exact fun p3 => p3.elim
          | ok t S3 =>
            intro p3 m4 H4 b e4 R4 hb
            obtain rfl : t = b := hb
            have p4 := Post.base p3 e4
            cases t with
            | false => exact iteF ⟨m4, S3, (e2.trans e3).trans e4, R4, p4⟩
            | true =>
              refine iteT ⟨m4, S3, σ', R4, Rs2.mono e4, ?_⟩
              dsimp only at p4
              revert p4
              cases fe σ' S3 with
              | err c fs S5 => exact fun p4 => p4.elim
              | bad => exact fun p4 => p4.elim
              | ok v S5 =>
                intro p4 m6 H6 y e6 R6 ry
                have p6 := Post.base p4 e6
                dsimp only at p6
                have ex6 := ((e2.trans e3).trans e4).trans e6
                cases hn : S5[S1.length]? with
                | none => rw [hn] at p6; exact p6.elim
                | some c =>
                  rw [hn] at p6
                  cases c with
                  | lst acc =>
                    dsimp only at p6
                    obtain ⟨a1, ws, g0, g1, l1⟩ := R6.lst hn
                    rw [ex6.loc _ _ eD] at g0; cases g0
                    split at p6
                    · rename_i hl
                      obtain ⟨Rn, en⟩ := R6.setLst (ex6.loc _ _ eD) g1 (l1.app (.cons ry .nil))
                      exact ⟨ws, g1, by rw [l1.length]; exact hl, m6, _, ex6.trans en, Rn, Post.base p6 en⟩
                    · exact p6.elim
                  | _ => exact p6.elim
end
end DI

set_option Elab.async false
set_option linter.all false
set_option maxRecDepth 100000
set_option maxHeartbeats 4000000
/-! Calls with keywords, of defs without defaults. -/
namespace DI
open L2 PySem PySem.Spec PyProof.Rows
theorem repL_app {A : Ad} {m : List Addr} {H : Hp} : ∀ {ds dz : List D} {vs vz : List V}, RepL A m H ds vs → RepL A m H dz vz → RepL A m H (ds ++ dz) (vs ++ vz)
  | _, _, _, _, .nil, b => b
  | _, _, _, _, .cons h t, b => .cons h (repL_app t b)
theorem pmL_rel {A : Ad} {m : List Addr} {H : Hp} : ∀ (pm : List Nat) {ds : List D} {vs : List V}, RepL A m H ds vs → RepL A m H (pmL pm ds) (pmL pm vs)
  | [], _, _, _ => .nil
  | i :: pm, ds, vs, r => by
    unfold pmL
    rw [List.filterMap_cons, List.filterMap_cons]
    cases h : ds[i]? with
    | none =>
      have : vs[i]? = none := by
        rw [List.getElem?_eq_none_iff] at h ⊢
        rw [r.length]; exact h
      rw [this]
      exact pmL_rel pm r
    | some d =>
      obtain ⟨v, h1, h2⟩ := r.get h
      rw [h1]
      exact .cons h2 (pmL_rel pm r)
theorem vals_len {vs : List V} {us : List Value} (r : Vals vs us) : vs.length = us.length := r.length
theorem vals_get {vs : List V} {us : List Value} (r : Vals vs us) (i : Nat) : (vs[i]? = none ∧ us[i]? = none) ∨ ∃ v u, vs[i]? = some v ∧ us[i]? = some u ∧ RelV v u := by
  induction r generalizing i with
  | nil => exact .inl ⟨rfl, rfl⟩
  | @cons v u vs us h t ih =>
    cases i with
    | zero => exact .inr ⟨v, u, rfl, rfl, h⟩
    | succ i => simpa using ih i
theorem pmL_vals : ∀ (pm : List Nat) {vs : List V} {us : List Value}, Vals vs us → Vals (pmL pm vs) (pmL pm us)
  | [], _, _, _ => .nil
  | i :: pm, vs, us, r => by
    unfold pmL
    rw [List.filterMap_cons, List.filterMap_cons]
    rcases vals_get r i with ⟨h1, h2⟩ | ⟨v, u, h1, h2, h3⟩
    · rw [h1, h2]; exact pmL_vals pm r
    · rw [h1, h2]; exact .cons h3 (pmL_vals pm r)
theorem vals_app {vs zs : List V} {us ws : List Value} (a : Vals vs us) (b : Vals zs ws) : Vals (vs ++ zs) (us ++ ws) := by
  induction a with
  | nil => exact b
  | cons h _ ih => exact .cons h ih
/-- a shape of a call binds -/
abbrev KB (K : PySem.W.Frag) (fd : FuncData) (ps : List Str) (n : Nat) (ks : List Str) (pm : List Nat) : Prop := KBn K fd ps n ks (fun us ws => pmL pm (us ++ ws)) (fun vs zs => pmL pm (vs ++ zs))
theorem kb_of {K : PySem.W.Frag} {x qual : Str} {params : Arguments} {body : List Stmt} {scope : Scope} {kws : List (Str × V)} {f : Addr} {fd : FuncData} {ps ks : List Str} {n : Nat} {pm : List Nat} (F : FunD K x qual params body scope [] kws f fd)
    (h : ∀ (kV doc pmv : Value) (an : Option Addr) (cdv ct : Value) (us ws : List Value), us.length = n → ws.length = ks.length → bindArgs (PySem.W.fnOf x qual params body scope .none kV doc pmv an cdv ct) ⟨us, ks.zip ws⟩ = pure (ps.zip (pmL pm (us ++ ws)))) : KB K fd ps n ks pm := by
  obtain ⟨oc, od, dV, kV, doc, pmv, an, cdv, ct, osl, rfl, lk, hcd, hD, hK⟩ := F.ex
  rcases hD with ⟨_, rfl⟩ | ⟨e, _⟩
  · exact ⟨fun s us ws X l1 l2 => .of_eq (h kV doc pmv an cdv ct us ws l1 l2), fun r1 r2 => pmL_vals pm (vals_app r1 r2)⟩
  · exact absurd rfl e
section
variable {X : Cx} {A : Ad} {E : XK} {k n : Nat} {f : Addr} {fd : FuncData} {ps ks : List Str} {pm : List Nat} {g : List D → Sto → Out D} {fs fz : Sl → Sto → Out (List D)} {fo : Sl → Sto → Out D} {x mn : Str} {p pos apos kpos : Pos} {e o : Expr} {es : List Expr} {kws : List Keyword} {nm : Option Str} {t t' : TA} {fa : Sl → Sto → Out D}
theorem PKi (h : PK X kws t) (i : ∀ σ H Q, t' σ H Q → t σ H Q) : PK X kws t' := ⟨fun pos pins s σ H Q I q => h.run pos pins s σ H Q I (i σ H Q q)⟩
theorem k_nil : PK X [] (tAs A E fun _ S => .ok [] S) := PKi pk_nil fun σ H Q ⟨m, S, σD, R, Rs, p⟩ => p.ok R .nil
theorem k_cons (ha : PE X e (tE A E fa)) (hs : PK X kws (tAs A E fz)) : PK X (⟨nm, e, kpos⟩ :: kws) (tAs A E fun σ S => (fa σ S).bind fun d S => (fz σ S).bind fun ds S => .ok (d :: ds) S) :=
  PKi (pk_cons ha hs) fun σ H Q ⟨m, S, σD, R, Rs, p⟩ => ⟨m, S, σD, R, Rs, p.seq.mono fun v H1 ⟨m1, S1, d, e1, R1, r1, p1⟩ =>
    ⟨m1, S1, σD, R1, Rs.mono e1, p1.seq.mono fun vs H2 ⟨m2, S2, ds, e2, R2, r2, p2⟩ => p2.ok R2 (.cons (r1.mono e2) r2)⟩⟩
abbrev tCalK (A : Ad) (E : XK) (n nz : Nat) (pm : List Nat) (fs fz : Sl → Sto → Out (List D)) (g : List D → Sto → Out D) : TE := tE A E fun σ S => (fs σ S).bind fun ds S => (fz σ S).bind fun zs S => if ds.length = n ∧ zs.length = nz then g (pmL pm (ds ++ zs)) S else .bad
theorem calK_in (har : ∀ ds S, ds.length ≠ ps.length → g ds S = .bad) {t tk : TA} (ht : ∀ σ H Q, tAs A E fs σ H Q → t σ H Q) (htk : ∀ σ H Q, tAs A E fz σ H Q → tk σ H Q) : ∀ σ H Q, tCalK A E n ks.length pm fs fz g σ H Q → tCallN n ks.length (spC A ps.length g) (fun vs zs => pmL pm (vs ++ zs)) E t tk σ H Q :=
  fun σ H Q ⟨m, S, σD, R, Rs, p⟩ => ht σ H _ ⟨m, S, σD, R, Rs, p.seq.mono fun vs H1 ⟨m1, S1, ds, e1, R1, rl, p1⟩ => htk σ H1 _ ⟨m1, S1, σD, R1, Rs.mono e1, p1.seq.mono fun zs H2 ⟨m2, S2, dz, e2, R2, rz, p2⟩ => by
    split at p2
    · rename_i c
      refine ⟨by rw [rl.length]; exact c.1, by rw [rz.length]; exact c.2, m2, S2, _, R2, pmL_rel pm (repL_app (rl.mono e2) rz), ?_, p2⟩
      by_cases c : (pmL pm (ds ++ dz)).length = ps.length
      · exact c
      · rw [har _ S2 c] at p2; exact p2.elim
    · exact p2.elim⟩⟩
theorem s_callK (gd : X.A.guards = some []) (F : FnG X.prog X.w X.K X.mg X.base (L2.CX X.prog X.w) k f fd ps (spC A ps.length g)) (hr : Room k X.A) (hg : Gl X x) (hm : X.mg x = some (.ref f)) (hk : PySem.W.keepIn X.K (.ref f) = true) (hb : KB X.K fd ps n ks pm)
    (tk : Takes X (fun cls d _ H => E cls d H)) (har : ∀ ds S, ds.length ≠ ps.length → g ds S = .bad) (ha : PA X (e :: es) (tAs A E fs)) (hz : PK X kws (tAs A E fz)) (hdb : (x == ("__debug__" : Str)) = false)
    (hall : (backToKw pos (keywordEach kws X.env)).all (·.1.isSome) = true) (hks : (backToKw pos (keywordEach kws X.env)).filterMap (·.1) = ks)
    (he : starEach (e :: es) X.env = (false, eval e X.env) :: starEach es X.env) (hpl : ((backTo pos (starEach (e :: es) X.env)).any (·.1) || (backToKw pos (keywordEach kws X.env)).any (·.1.isNone)) = false) :
    PE X (.Call (.Name x p) (e :: es) kws pos) (tCalK A E n ks.length pm fs fz g) := by
  refine PEi (t := tCallN n ks.length (spC A ps.length g) (fun vs zs => pmL pm (vs ++ zs)) E (tAs A E fs) (tAs A E fz)) ⟨fun pz t τ HH Q J h => ?_⟩ (calK_in har (fun _ _ _ h => h) fun _ _ _ h => h)
  refine wpAny_Call_Name_kw (ld_glob J hg hm ?_ hdb)
  refine PySem.W.callWith_KW (h₀ := X.base) J.ok.mod.kin hk hall (thn (ha.run pos pz t τ HH _ J h) fun us t1 ⟨vs, H1, J1, r, q⟩ => ?_) hpl he
  refine thn (hz.run pos pz t1 τ H1 _ J1 q) fun ws t2 ⟨zs, H2, J2, rz, l1, l2, q2⟩ => ⟨J2.kIn, ?_⟩
  rw [hks]
  exact runG_kw F gd hr hb (passes_call tk fun _ _ _ _ h => h) J2 r rz l1 l2 q2
theorem s_callK0 (gd : X.A.guards = some []) (F : FnG X.prog X.w X.K X.mg X.base (L2.CX X.prog X.w) k f fd ps (spC A ps.length g)) (hr : Room k X.A) (hg : Gl X x) (hm : X.mg x = some (.ref f)) (hk : PySem.W.keepIn X.K (.ref f) = true) (hb : KB X.K fd ps n ks pm)
    (tk : Takes X (fun cls d _ H => E cls d H)) (har : ∀ ds S, ds.length ≠ ps.length → g ds S = .bad) (hz : PK X kws (tAs A E fz)) (hdb : (x == ("__debug__" : Str)) = false)
    (hall : (backToKw pos (keywordEach kws X.env)).all (·.1.isSome) = true) (hks : (backToKw pos (keywordEach kws X.env)).filterMap (·.1) = ks)
    (hpl : ((backTo pos (starEach [] X.env)).any (·.1) || (backToKw pos (keywordEach kws X.env)).any (·.1.isNone)) = false) :
    PE X (.Call (.Name x p) [] kws pos) (tCalK A E n ks.length pm (fun _ S => .ok [] S) fz g) := by
  refine PEi (t := tCallN n ks.length (spC A ps.length g) (fun vs zs => pmL pm (vs ++ zs)) E tNil (tAs A E fz)) ⟨fun pins s σ H Q I h => ?_⟩ (calK_in har (fun σ H Q ⟨m, S, σD, R, Rs, p⟩ => p.ok R .nil) fun _ _ _ h => h)
  refine wpAny_Call_Name_kw (ld_glob I hg hm ?_ hdb)
  refine PySem.W.callWith_KW0 (h₀ := X.base) I.ok.mod.kin hk hall (thn (hz.run pos pins s σ H _ I h) fun ws s2 ⟨zs, H2, I2, rz, l1, l2, q2⟩ => ⟨I2.kIn, ?_⟩) hpl
  rw [hks]
  exact runG_kw F gd hr hb (passes_call tk fun _ _ _ _ h => h) I2 .nil rz l1 l2 q2
abbrev tMtK (A : Ad) (E : XK) (c : Nat) (mn : Str) (n nz : Nat) (pm : List Nat) (fo : Sl → Sto → Out D) (fs fz : Sl → Sto → Out (List D)) (g : List D → Sto → Out D) : TE :=
  tE A E fun σ S => (fo σ S).bind fun x S => match x with
    | .loc a => match S[a]? with
      | some (.ins c' fs') => if c' = c ∧ fs'.lookup mn = none then (fs σ S).bind fun ds S => (fz σ S).bind fun zs S => if ds.length + 1 = n ∧ zs.length = nz then g (pmL pm (x :: ds ++ zs)) S else .bad else .bad
      | _ => .bad
    | _ => .bad
theorem mtK_in {c : Nat} (har : ∀ ds S, ds.length ≠ ps.length → g ds S = .bad) {t tk : TA} (ht : ∀ σ H Q, tAs A E fs σ H Q → t σ H Q) (htk : ∀ σ H Q, tAs A E fz σ H Q → tk σ H Q) :
    ∀ σ H Q, tMtK A E c mn n ks.length pm fo fs fz g σ H Q → tE A E fo σ H fun x H1 => ∃ a dx ws, x = .ref a ∧ H1 a = some (.ins (A.cl c) dx ws) ∧ ws.lookup mn = none ∧ t σ H1 fun vs H2 => tk σ H2 fun zs H3 => (V.ref a :: vs).length = n ∧ zs.length = ks.length ∧ spC A ps.length g (pmL pm ((V.ref a :: vs) ++ zs)) H3 Q E :=
  fun σ H Q ⟨m, S, σD, R, Rs, p⟩ => ⟨m, S, σD, R, Rs, p.seq.mono fun x H1 ⟨m1, S1, dx, e1, R1, rx, p1⟩ => by
    cases rx with
    | @loc i a e =>
      dsimp only at p1
      split at p1
      · rename_i c' fs' hx
        split at p1
        · rename_i hc
          obtain ⟨rfl, hc2⟩ := hc
          obtain ⟨a1, dx, ws, m1', g1, l1⟩ := R1.ins hx
          rw [e] at m1'; cases m1'
          refine ⟨_, dx, ws, rfl, g1, ?_, ht σ H1 _ ⟨m1, S1, σD, R1, Rs.mono e1, p1.seq.mono fun vs H2 ⟨m2, S2, ds, e2, R2, rl, p2⟩ => htk σ H2 _ ⟨m2, S2, σD, R2, (Rs.mono e1).mono e2, p2.seq.mono fun zs H3 ⟨m3, S3, dz, e3, R3, rz, p3⟩ => ?_⟩⟩⟩
          · rcases l1.lookup (f := mn) with ⟨d', v, h1, h2, h3⟩ | ⟨_, h2⟩
            · rw [hc2] at h1; cases h1
            · exact h2
          · split at p3
            · rename_i cc
              refine ⟨by rw [List.length_cons, rl.length]; exact cc.1, by rw [rz.length]; exact cc.2, m3, S3, _, R3, pmL_rel pm (repL_app (.cons (.loc ((e2.trans e3).loc _ _ e)) (rl.mono e3)) rz), ?_, p3⟩
              by_cases c : (pmL pm (D.loc i :: ds ++ dz)).length = ps.length
              · exact c
              · rw [har _ S3 c] at p3; exact p3.elim
            · exact p3.elim
        · exact p1.elim
      · exact p1.elim
    | _ => exact (show False from p1).elim⟩
theorem s_methK {c : Nat} {pl : Sem Bool} (he0 : PE X o (tE A E fo)) (cl : Cls X.K (A.cl c)) (hme : Meth X.K (A.cl c) mn f) (gd : X.A.guards = some []) (F : FnG X.prog X.w X.K X.mg X.base (L2.CX X.prog X.w) k f fd ps (spC A ps.length g)) (hr : Room k X.A) (hb : KB X.K fd ps n ks pm)
    (tk : Takes X (fun cls d _ H => E cls d H)) (har : ∀ ds S, ds.length ≠ ps.length → g ds S = .bad) (ha : PA X (e :: es) (tAs A E fs)) (hz : PK X kws (tAs A E fz))
    (hall : (backToKw pos (keywordEach kws X.env)).all (·.1.isSome) = true) (hks : (backToKw pos (keywordEach kws X.env)).filterMap (·.1) = ks)
    (he : starEach (e :: es) X.env = (false, eval e X.env) :: starEach es X.env) (hpl : ((backTo pos (starEach (e :: es) X.env)).any (·.1) || (backToKw pos (keywordEach kws X.env)).any (·.1.isNone)) = false)
    (ht : eval (.Call (.Attribute o mn apos) (e :: es) kws pos) X.env = (do
      let ov ← eval o X.env
      standAt apos.atName
      let (f, first) ← holding [ov] (getMethod ov mn pl)
      callWith pos f first (backTo pos (starEach (e :: es) X.env)) (backToKw pos (keywordEach kws X.env)))) :
    PE X (.Call (.Attribute o mn apos) (e :: es) kws pos) (tMtK A E c mn n ks.length pm fo fs fz g) := by
  refine ⟨fun pins s σ H Q I h => ?_⟩
  have h2 := mtK_in (ks := ks) har (fun _ _ _ h => h) (fun _ _ _ h => h) σ H Q h
  refine PySem.W.methodCall_KW (pl := pl) (thn (he0.run pins s σ H _ I h2) fun u s1 ⟨x, H1, I1, rx, a, dx, fs, ex, ea, l, q⟩ => ?_) ht
  subst ex
  obtain rfl : u = Value.ref a := rx
  refine getmeth_ok I1 ea cl hme l ?_
  refine PySem.W.callWith_KW (first := [.ref a]) (h₀ := X.base) I.ok.mod.kin hme.kp hall (thn (ha.run pos pins s1 σ H1 _ I1 q) fun us s2 ⟨vs, H2, I2, r, q2⟩ => ?_) hpl he
  refine thn (hz.run pos pins s2 σ H2 _ I2 q2) fun ws s3 ⟨zs, H3, I3, rz, l1, l2, q3⟩ => ⟨I3.kIn, ?_⟩
  rw [hks]
  exact runG_kw (ys := .ref a :: us) (xs := .ref a :: vs) F gd hr hb (passes_call tk fun _ _ _ _ h => h) I3 (.cons rfl r) rz l1 l2 q3
theorem s_methK0 {c : Nat} {pl : Sem Bool} (he0 : PE X o (tE A E fo)) (cl : Cls X.K (A.cl c)) (hme : Meth X.K (A.cl c) mn f) (gd : X.A.guards = some []) (F : FnG X.prog X.w X.K X.mg X.base (L2.CX X.prog X.w) k f fd ps (spC A ps.length g)) (hr : Room k X.A) (hb : KB X.K fd ps n ks pm)
    (tk : Takes X (fun cls d _ H => E cls d H)) (har : ∀ ds S, ds.length ≠ ps.length → g ds S = .bad) (hz : PK X kws (tAs A E fz))
    (hall : (backToKw pos (keywordEach kws X.env)).all (·.1.isSome) = true) (hks : (backToKw pos (keywordEach kws X.env)).filterMap (·.1) = ks)
    (hpl : ((backTo pos (starEach [] X.env)).any (·.1) || (backToKw pos (keywordEach kws X.env)).any (·.1.isNone)) = false)
    (ht : eval (.Call (.Attribute o mn apos) [] kws pos) X.env = (do
      let ov ← eval o X.env
      standAt apos.atName
      let (f, first) ← holding [ov] (getMethod ov mn pl)
      callWith pos f first (backTo pos (starEach [] X.env)) (backToKw pos (keywordEach kws X.env)))) :
    PE X (.Call (.Attribute o mn apos) [] kws pos) (tMtK A E c mn n ks.length pm fo (fun _ S => .ok [] S) fz g) := by
  refine ⟨fun pins s σ H Q I h => ?_⟩
  have h2 := mtK_in (t := tNil) (ks := ks) har (fun σ H Q ⟨m, S, σD, R, Rs, p⟩ => p.ok R .nil) (fun _ _ _ h => h) σ H Q h
  refine PySem.W.methodCall_KW (pl := pl) (thn (he0.run pins s σ H _ I h2) fun u s1 ⟨x, H1, I1, rx, a, dx, fs, ex, ea, l, q⟩ => ?_) ht
  subst ex
  obtain rfl : u = Value.ref a := rx
  refine getmeth_ok I1 ea cl hme l ?_
  refine PySem.W.callWith_KW0 (first := [.ref a]) I1.kIn hme.kp hall (thn (hz.run pos pins s1 σ H1 _ I1 q) fun ws s3 ⟨zs, H3, I3, rz, l1, l2, q3⟩ => ⟨I3.kIn, ?_⟩) hpl
  rw [hks]
  exact runG_kw (ys := [.ref a]) (xs := [.ref a]) F gd hr hb (passes_call tk fun _ _ _ _ h => h) I3 (.cons rfl .nil) rz l1 l2 q3
end
/-! ### list(range(a, b)) -/
theorem lrg_rep {A : Ad} {m : List Addr} {H : Hp} (i j : Int) : RepL A m H (lrgD i j) (rgV i j) := by
  unfold lrgD rgV
  generalize List.range (j - i).toNat = l
  induction l with
  | nil => exact .nil
  | cons n l ih => exact .cons (.int _) ih
theorem lrg_of {lo hi : Int} (h : lrgOk lo hi = true) : RgOk lo hi := by
  unfold lrgOk at h
  have := of_decide_eq_true h
  exact this
theorem s_lrg {X : Cx} {A : Ad} {E : XK} {a b : Expr} {fa fb : Sl → Sto → Out D} {p p2 pos pos2 : Pos} (hc : X.calm = true) (hgl : Gl X "list") (hml : X.mg "list" = none) (hg : Gl X "range") (hm : X.mg "range" = none) (ha : PE X a (tE A E fa)) (hb : PE X b (tE A E fb))
    (hs : starEach [a, b] X.env = (false, eval a X.env) :: starEach [b] X.env) (hs2 : starEach [b] X.env = (false, eval b X.env) :: starEach [] X.env) (hs3 : starEach [Expr.Call (.Name "range" p) [a, b] [] pos] X.env = (false, eval (.Call (.Name "range" p) [a, b] [] pos) X.env) :: starEach [] X.env) :
    PE X (.Call (.Name "list" p2) [.Call (.Name "range" p) [a, b] [] pos] [] pos2) (tE A E fun σ S => (fa σ S).bind fun x S => (fb σ S).bind fun y S => match x, y with
      | .int i, .int j => if lrgOk i j = true then .ok (.loc S.length) (S ++ [.lst (lrgD i j)]) else .bad
      | _, _ => .bad) :=
  PEi (pe_listRg hc hgl hml (prg_2 hg hm ha hb hs hs2 (by rw [hs2]; rfl)) hs3) fun σ H Q ⟨m, S, σD, R, Rs, p⟩ => ⟨m, S, σD, R, Rs, p.seq.mono fun x H1 ⟨m1, S1, dx, e1, R1, rx, p1⟩ => ⟨m1, S1, σD, R1, Rs.mono e1, p1.seq.mono fun y H2 ⟨m2, S2, dy, e2, R2, ry, p2⟩ => by
    cases rx with
    | int i =>
      cases ry with
      | int j =>
        dsimp only at p2
        split at p2
        · rename_i hr
          refine ⟨i, j, rfl, rfl, lrg_of hr, fun q hq => ?_⟩
          obtain ⟨Rn, en, rn⟩ := newLst R2 (lrg_rep i j) hq
          exact p2 _ _ _ en Rn rn
        · exact p2.elim
      | _ => exact (show False from p2).elim
    | _ => exact (show False from p2).elim⟩⟩
end DI

set_option Elab.async false
set_option linter.all false
set_option maxRecDepth 100000
set_option maxHeartbeats 4000000
/-! More expressions: dict displays, get and pop, lists turned round, join, calls of held defs. -/
namespace DI
open L2 PySem PySem.Spec PyProof.Rows
section
variable {X : Cx} {A : Ad} {E : XK} {e o : Expr} {es : List Expr} {fo fa fb : Sl → Sto → Out D} {fs : Sl → Sto → Out (List D)} {p pos apos : Pos} {x : Str}
theorem s_rev (hK : A.K = X.K) {k : Nat} {p1 p2 p3 : Pos} (h : PE X e (tE A E fo)) : PE X (.Subscript e (.Slice none none (some (.UnaryOp .USub (.Constant (.int 1) k p1) p2)) p3) pos)
    (tE A E fun σ S => (fo σ S).bind fun x S => match listD x S with
      | some xs => .ok (.loc S.length) (S ++ [.lst xs.reverse])
      | none => .bad) :=
  PEi (pe_revL h) fun σ H Q ⟨m, S, σD, R, Rs, p⟩ => ⟨m, S, σD, R, Rs, p.seq.mono fun v H1 ⟨m1, S1, d, e1, R1, r1, p1⟩ => by
    cases hd : listD d S1 with
    | none => rw [hd] at p1; exact p1.elim
    | some xs =>
      rw [hd] at p1
      obtain ⟨a, vs, rfl, hs, l⟩ := list_of R1 r1 hd
      refine ⟨a, vs, rfl, hK ▸ hs, fun q hq => ?_⟩
      obtain ⟨Rn, en, rn⟩ := newLst R1 l.rev hq
      exact p1 _ _ _ en Rn rn⟩
theorem s_calV {k : Nat} {C : Nat → List D → Sto → Out D} {js : List Nat} {i : Nat} (gd : X.A.guards = some []) (hr : Room k X.A) (hN : X.N[i]? = some x) (hv : Vis X.env.scope x)
    (fns : ∀ j ∈ js, PySem.W.keepIn X.K (.ref (A.fn j)) = true ∧ ∃ fd ps, FnG X.prog X.w X.K X.mg X.base (L2.CX X.prog X.w) k (A.fn j) fd ps (spC A ps.length (C j)) ∧ Binds X.K fd ps [] ∧ (∀ ds S, ds.length ≠ ps.length → C j ds S = .bad))
    (tk : Takes X (fun cls d _ H => E cls d H)) (ha : PA X (e :: es) (tAs A E fs)) (hdb : (x == ("__debug__" : Str)) = false) (hcd : (x == ("__classdict__" : Str)) = false)
    (he : starEach (e :: es) X.env = (false, eval e X.env) :: starEach es X.env) (hpl : (backTo pos (starEach es X.env)).any (·.1) = false) :
    PE X (.Call (.Name x p) (e :: es) [] pos) (tE A E fun σ S => match σ[i]? with
      | some (some (.fn j)) => if j ∈ js then (fs σ S).bind fun ds S => C j ds S else .bad
      | _ => .bad) := by
  refine ⟨fun pz t τ HH Q J h => ?_⟩
  obtain ⟨m, S, σD, R, Rs, pp⟩ := h
  dsimp only at pp
  split at pp
  · rename_i j hj
    split at pp
    · rename_i hm
      obtain ⟨hk, fd, ps, F, hb, har⟩ := fns j hm
      obtain ⟨v, hv1, hv2⟩ := Rs.2 i _ hj
      cases hv2
      refine wpAny_Call_Name_kw (thn ((pe_var (pos := p) hN hv hdb hcd).run pz t τ HH (fun v H1 => v = .ref (A.fn j) ∧ H1 = HH) J ⟨_, hv1, rfl, rfl⟩) fun u t1 ⟨v, H1, J1, r1, q1⟩ => ?_)
      obtain ⟨rfl, rfl⟩ := q1
      cases r1
      have hc := cal_in (E := E) (fs := fs) har (t := tAs A E fs) (fun _ _ _ h => h) τ H1 Q ⟨m, S, σD, R, Rs, pp⟩
      refine PySem.W.callWith_K (h₀ := X.base) J.ok.mod.kin hk (thn (ha.run pos pz t1 τ _ _ J1 hc) fun us t2 ⟨vs, H2, J2, r, q⟩ => ⟨J2.kIn, ?_⟩) he hpl
      exact runG F gd hr hb (passes_call tk fun _ _ _ _ h => h) J2 r (List.append_nil vs ▸ q)
    · exact pp.elim
  · exact pp.elim
theorem isD_of {m : List Addr} {S : Sto} {H : Hp} (R : Rep A m S H) {i : Nat} {a : Addr} {c : Cell} (hc : S[i]? = some c) (hm : m[i]? = some a) (hd : isDk c = true) : IsD H a := by
  obtain ⟨a1, m1, rc⟩ := R.cell _ _ hc
  rw [hm] at m1; cases m1
  cases rc with
  | dk g _ => exact .inl ⟨_, .inl g⟩
  | fk g _ => exact .inl ⟨_, .inr ⟨_, g⟩⟩
  | _ => cases hd
theorem s_dget1 (hu : X.A.units + 1 < cLine) (ho : PE X o (tE A E fo)) (he : PE X e (tE A E fa)) (m1 : M1 X o "get" apos e pos) : PE X (.Call (.Attribute o "get" apos) [e] [] pos)
    (tE A E fun σ S => (fo σ S).bind fun x S => match x with
      | .loc a => match S[a]? with
        | some c => if isDk c = true then (fa σ S).bind fun y S => match S[a]? with
            | some c => .at S ((dictAt c y).map fun o => o.getD .non)
            | none => .bad
          else .bad
        | none => .bad
      | _ => .bad) :=
  PEi (pe_dget1 hu ho he m1) fun σ H Q ⟨m, S, σD, R, Rs, p⟩ => ⟨m, S, σD, R, Rs, p.seq.mono fun v H1 ⟨m1, S1, d, e1, R1, r1, p1⟩ => by
    cases r1 with
    | @loc i a hm =>
      dsimp only at p1
      split at p1
      · rename_i c hc
        split at p1
        · rename_i hd
          refine ⟨a, rfl, isD_of R1 hc hm hd, m1, S1, σD, R1, Rs.mono e1, p1.seq.mono fun y H2 ⟨m2, S2, dy, e2, R2, r2, p2⟩ => ?_⟩
          split at p2
          · rename_i c2 hc2
            cases hk : dictAt c2 dy with
            | none => rw [hk] at p2; exact p2.elim
            | some o =>
              rw [hk] at p2
              obtain ⟨w, g, hw⟩ := dget_of R2 hc2 (e2.loc _ _ hm) hk r2
              refine ⟨w, g, p2.ok R2 ?_⟩
              rcases hw with ⟨d', z, rfl, rfl, rz⟩ | ⟨rfl, rfl⟩
              · exact rz
              · exact .non
          · exact p2.elim
        · exact p1.elim
      · exact p1.elim
    | _ => exact (show False from p1).elim⟩
theorem s_dget2 (hu : X.A.units + 1 < cLine) {f : Expr} (ho : PE X o (tE A E fo)) (he : PE X e (tE A E fa)) (hf : PE X f (tE A E fb)) (m1 : M2 X o "get" apos e f pos) : PE X (.Call (.Attribute o "get" apos) [e, f] [] pos)
    (tE A E fun σ S => (fo σ S).bind fun x S => match x with
      | .loc a => match S[a]? with
        | some c => if isDk c = true then (fa σ S).bind fun y S => (fb σ S).bind fun z S => match S[a]? with
            | some c => .at S ((dictAt c y).map fun o => o.getD z)
            | none => .bad
          else .bad
        | none => .bad
      | _ => .bad) :=
  PEi (pe_dget2 hu ho he hf m1) fun σ H Q ⟨m, S, σD, R, Rs, p⟩ => ⟨m, S, σD, R, Rs, p.seq.mono fun v H1 ⟨m1, S1, d, e1, R1, r1, p1⟩ => by
    cases r1 with
    | @loc i a hm =>
      dsimp only at p1
      split at p1
      · rename_i c hc
        split at p1
        · rename_i hd
          refine ⟨a, rfl, isD_of R1 hc hm hd, m1, S1, σD, R1, Rs.mono e1, p1.seq.mono fun y H2 ⟨m2, S2, dy, e2, R2, r2, p2⟩ => ⟨m2, S2, σD, R2, (Rs.mono e1).mono e2, p2.seq.mono fun z H3 ⟨m3, S3, dz, e3, R3, r3, p3⟩ => ?_⟩⟩
          split at p3
          · rename_i c2 hc2
            cases hk : dictAt c2 dy with
            | none => rw [hk] at p3; exact p3.elim
            | some o =>
              rw [hk] at p3
              obtain ⟨w, g, hw⟩ := dget_of R3 hc2 ((e2.trans e3).loc _ _ hm) hk (r2.mono e3)
              refine ⟨w, g, p3.ok R3 ?_⟩
              rcases hw with ⟨d', z', rfl, rfl, rz⟩ | ⟨rfl, rfl⟩
              · exact rz
              · exact r3
          · exact p3.elim
        · exact p1.elim
      · exact p1.elim
    | _ => exact (show False from p1).elim⟩
theorem RepK.drop {κ : Type} [DecidableEq κ] {m : List Addr} {H : Hp} {k : κ} : ∀ {kvs : List (κ × D)} {ws : List (κ × V)}, RepK A m H kvs ws → RepK A m H (dropD kvs k) (dropK ws k)
  | _, _, .nil => .nil
  | p :: kvs, q :: ws, .cons a b => by
    have ih := RepK.drop (k := k) b
    unfold dropD dropK at ih ⊢
    by_cases c : p.1 = k
    · rw [List.filter_cons_of_neg (by simpa using c), List.filter_cons_of_neg (by simpa using (a.1 ▸ c))]
      exact ih
    · rw [List.filter_cons_of_pos (by simpa using c), List.filter_cons_of_pos (by simpa using (fun z => c (a.1.trans z)))]
      exact .cons a ih
theorem s_dpop2 {f : Expr} (ho : PE X o (tE A E fo)) (he : PE X e (tE A E fa)) (hf : PE X f (tE A E fb)) (m1 : M2 X o "pop" apos e f pos) : PE X (.Call (.Attribute o "pop" apos) [e, f] [] pos)
    (tE A E fun σ S => (fo σ S).bind fun x S => match x with
      | .loc a => match S[a]? with
        | some c => if isDk c = true then (fa σ S).bind fun y S => (fb σ S).bind fun z S => match S[a]?, keyD y with
            | some (.dk kvs), some key => match lookK kvs key with
              | some v => .ok v (S.set a (.dk (dropD kvs key)))
              | none => .ok z S
            | _, _ => .bad
          else .bad
        | none => .bad
      | _ => .bad) :=
  PEi (pe_dpop2 ho he hf m1) fun σ H Q ⟨m, S, σD, R, Rs, p⟩ => ⟨m, S, σD, R, Rs, p.seq.mono fun v H1 ⟨m1, S1, d, e1, R1, r1, p1⟩ => by
    cases r1 with
    | @loc i a hm =>
      dsimp only at p1
      split at p1
      · rename_i c hc
        split at p1
        · rename_i hd
          refine ⟨a, rfl, isD_of R1 hc hm hd, m1, S1, σD, R1, Rs.mono e1, p1.seq.mono fun y H2 ⟨m2, S2, dy, e2, R2, r2, p2⟩ => ⟨m2, S2, σD, R2, (Rs.mono e1).mono e2, p2.seq.mono fun z H3 ⟨m3, S3, dz, e3, R3, r3, p3⟩ => ?_⟩⟩
          have hm3 := (e2.trans e3).loc _ _ hm
          split at p3
          · rename_i kvs key hx hkey
            obtain ⟨a1, ws, ma, g1, l1⟩ := R3.dk hx
            rw [hm3] at ma; cases ma
            refine ⟨ws, key, g1, kV_of hkey (r2.mono e3), fun v hv => ?_, fun hv => ?_⟩
            · rcases l1.look (k := key) with ⟨d', v', h1, h2, h3⟩ | ⟨h1, h2⟩
              · rw [h1] at p3
                rw [hv] at h2; cases h2
                have ew : Ext A m3 H3 m3 (upd H3 a (.dK (dropK ws key))) := Ext.write g1 (fun _ z => nomatch z) (fun _ _ z => nomatch z)
                exact p3 m3 _ v ew (R3.write hm3 ew (.dk upd_same (RepK.mono ew l1.drop))) (h3.mono ew)
              · rw [hv] at h2; cases h2
            · rcases l1.look (k := key) with ⟨d', v', h1, h2, h3⟩ | ⟨h1, h2⟩
              · rw [hv] at h2; cases h2
              · rw [h1] at p3
                exact p3.ok R3 r3
          · exact p3.elim
        · exact p1.elim
      · exact p1.elim
    | _ => exact (show False from p1).elim⟩
theorem strs_of {m : List Addr} {H : Hp} : ∀ {ds : List D} {vs : List V} {ys : List Str}, strsD ds = some ys → RepL A m H ds vs → vs = ys.map V.str
  | [], _, _, h, .nil => by cases h; rfl
  | .str z :: ds, _, _, h, .cons (.str _) b => by
    simp only [strsD, Option.map_eq_some_iff] at h
    obtain ⟨ys, h1, rfl⟩ := h
    rw [List.map_cons, strs_of h1 b]
theorem s_join (hK : A.K = X.K) (ho : PE X o (tE A E fo)) (he : PE X e (tE A E fa)) (hs : starEach [e] X.env = [(false, eval e X.env)]) (hbase : attributeBase o "join" X.env (eval o X.env) = eval o X.env) (hline : (apos.endLine == pos.line) = true) :
    PE X (.Call (.Attribute o "join" apos) [e] [] pos) (tE A E fun σ S => (fo σ S).bind fun x S => match x with
      | .str z => (fa σ S).bind fun y S => match (seqD y S).bind strsD with
        | some ys => if (ys.map (·.length)).sum + ys.length * z.length ≤ 16777216 then .ok (.str (Txt.join z ys)) S else .bad
        | none => .bad
      | _ => .bad) :=
  PEi (pe_join ho he hs hbase hline) fun σ H Q ⟨m, S, σD, R, Rs, p⟩ => ⟨m, S, σD, R, Rs, p.seq.mono fun v H1 ⟨m1, S1, d, e1, R1, r1, p1⟩ => by
    cases r1 with
    | str z =>
      refine ⟨⟨z, rfl⟩, m1, S1, σD, R1, Rs.mono e1, p1.seq.mono fun y H2 ⟨m2, S2, dy, e2, R2, r2, p2⟩ => ?_⟩
      split at p2
      · rename_i ys hy
        obtain ⟨ds, h1, h2⟩ := Option.bind_eq_some_iff.mp hy
        obtain ⟨a, vs, rfl, hsq, l⟩ := seq_of R2 r2 h1
        have hvs := strs_of h2 l
        subst hvs
        split at p2
        · rename_i hz
          exact ⟨z, a, ys, rfl, rfl, hK ▸ hsq, hz, p2.ok R2 (.str _)⟩
        · exact p2.elim
      · exact p2.elim
    | _ => exact (show False from p1).elim⟩
/-! ### dict displays -/
theorem RepK.merge {m : List Addr} {H : Hp} : ∀ {more : List (Key × D)} {rs : List (Key × V)} {kvs : List (Key × D)} {ws : List (Key × V)}, RepK A m H more rs → RepK A m H kvs ws → RepK A m H (mergeD kvs more) (mergeK ws rs)
  | _, _, _, _, .nil, q => q
  | p :: more, r :: rs, kvs, ws, .cons a b, q => by
    show RepK A m H (mergeD (putD kvs p.1 p.2) more) (mergeK (putK ws r.1 r.2) rs)
    rw [← a.1]
    exact RepK.merge b (q.put a.2)
theorem RepK.zips {m : List Addr} {H : Hp} : ∀ {ks : List Str} {ds : List D} {vs : List V}, RepL A m H ds vs → RepK A m H ((ks.map (Sum.inr : Str → Key)).zip ds) ((ks.map (Sum.inr : Str → Key)).zip vs)
  | [], _, _, _ => .nil
  | _ :: _, _, _, .nil => .nil
  | k :: ks, _, _, .cons a b => .cons ⟨rfl, a⟩ (RepK.zips b)
theorem zip_kV : ∀ (ks : List Str) (vs : List V), (ks.map V.str).zip vs = ((ks.map (Sum.inr : Str → Key)).zip vs).map fun kv => (kV kv.1, kv.2)
  | [], _ => rfl
  | _ :: _, [] => rfl
  | k :: ks, v :: vs => by
    rw [List.map_cons, List.map_cons, List.zip_cons_cons, List.zip_cons_cons, List.map_cons, zip_kV ks vs]
    rfl
/-- a display's pairs, by the list of its values -/
def PDs (X : Cx) (A : Ad) (E : XK) (pos : Pos) (ks : List Str) (keys : List (Option Expr)) (es : List Expr) (f : Sl → Sto → Out (List D)) : Prop :=
  ∃ trs, PPs X pos keys es trs ∧ ∀ σ H Q, tAs A E f σ H (fun vs H' => Q ((ks.map V.str).zip vs) H') → tPairs trs σ H Q
theorem pds_nil : PDs X A E pos [] [] [] (fun _ S => .ok [] S) := ⟨[], pps_nil, fun σ H Q ⟨m, S, σD, R, Rs, p⟩ => p.ok (b := []) R .nil⟩
theorem pds_cons {k : Str} {ks : List Str} {j : Nat} {p2 : Pos} {keys : List (Option Expr)} (he : PE X e (tE A E fa)) (h : PDs X A E pos ks keys es fs) :
    PDs X A E pos (k :: ks) (some (.Constant (.str k) j p2) :: keys) (e :: es) (fun σ S => (fa σ S).bind fun d S => (fs σ S).bind fun ds S => .ok (d :: ds) S) := by
  obtain ⟨trs, h1, h2⟩ := h
  refine ⟨(tC (.str k), tE A E fa) :: trs, pps_cons pe_str he h1, fun σ H Q ⟨m, S, σD, R, Rs, p⟩ => ?_⟩
  show tE A E fa σ H fun y H2 => tPairs trs σ H2 fun ps H3 => Q ((.str k, y) :: ps) H3
  exact ⟨m, S, σD, R, Rs, p.seq.mono fun y H1 ⟨m1, S1, d, e1, R1, r1, p1⟩ => h2 _ _ _ ⟨m1, S1, σD, R1, Rs.mono e1, p1.seq.mono fun vs H2 ⟨m2, S2, ds, e2, R2, rl, p2⟩ => p2.ok (b := y :: vs) R2 (.cons (r1.mono e2) rl)⟩⟩
theorem s_dctK {ks : List Str} {keys : List (Option Expr)} (h : PDs X A E pos ks keys es fs) (hall : keys.all (·.isSome) = true) (hl : keys.length = es.length) (h0 : keys ≠ []) (h15 : keys.length ≤ 15) :
    PE X (.Dict keys es pos) (tE A E fun σ S => (fs σ (S ++ [.dk []])).bind fun ds S2 => match S2[S.length]? with
      | some (.dk []) => if ds.length = ks.length ∧ ks.length ≤ 15 then .ok (.loc S.length) (S2.set S.length (.dk (mergeD [] ((ks.map Sum.inr).zip ds)))) else .bad
      | _ => .bad) := by
  obtain ⟨trs, h1, h2⟩ := h
  refine PEi (pe_disp h1 hall hl h0 h15) fun σ H Q ⟨m, S, σD, R, Rs, p⟩ => fun q hq => ?_
  obtain ⟨Rn, en, rn⟩ := newDk (kvs := []) (ws := []) R .nil hq
  refine h2 σ _ _ ⟨_, _, σD, Rn, Rs.mono en, (p.base en).seq.mono fun vs H2 ⟨m2, S2, ds, e2, R2, rl, p2⟩ => ?_⟩
  split at p2
  · rename_i hx
    split at p2
    · rename_i hz
      obtain ⟨a1, ws, ma, g1, l1⟩ := R2.dk hx
      cases l1
      cases rn with
      | loc hm =>
      have hm2 := e2.loc _ _ hm
      rw [hm2] at ma; cases ma
      refine ⟨g1, (ks.map Sum.inr).zip vs, zip_kV ks vs, ?_, ?_⟩
      · rw [List.length_zip, List.length_map]; omega
      · have ew : Ext A m2 H2 m2 (upd H2 q (.dK (mergeK [] ((ks.map Sum.inr).zip vs)))) := Ext.write g1 (fun _ z => nomatch z) (fun _ _ z => nomatch z)
        exact p2 m2 _ _ ew (R2.write hm2 ew (.dk upd_same (RepK.mono ew (RepK.merge (RepK.zips rl) .nil)))) (.loc hm2)
    · exact p2.elim
  · exact p2.elim
theorem s_dct1 {ke : Expr} {fk : Sl → Sto → Out D} (hk : PE X ke (tE A E fk)) (he : PE X e (tE A E fa)) :
    PE X (.Dict [some ke] [e] pos) (tE A E fun σ S => (fk σ (S ++ [.dk []])).bind fun x S1 => (fa σ S1).bind fun y S2 => match S2[S.length]?, keyD x with
      | some (.dk []), some key => .ok (.loc S.length) (S2.set S.length (.dk [(key, y)]))
      | _, _ => .bad) := by
  refine PEi (pe_disp (pps_cons hk he pps_nil) rfl rfl (by simp) (by show 1 ≤ 15; omega)) fun σ H Q ⟨m, S, σD, R, Rs, p⟩ => fun q hq => ?_
  obtain ⟨Rn, en, rn⟩ := newDk (kvs := []) (ws := []) R .nil hq
  show tE A E fk σ _ fun x H1 => tE A E fa σ H1 fun y H2 => _
  refine ⟨_, _, σD, Rn, Rs.mono en, (p.base en).seq.mono fun x H1 ⟨m1, S1, dx, e1, R1, r1, p1⟩ => ⟨m1, S1, σD, R1, (Rs.mono en).mono e1, p1.seq.mono fun y H2 ⟨m2, S2, dy, e2, R2, r2, p2⟩ => ?_⟩⟩
  split at p2
  · rename_i key hx hkey
    obtain ⟨a1, ws, ma, g1, l1⟩ := R2.dk hx
    cases l1
    cases rn with
    | loc hm =>
    have hm2 := e2.loc _ _ (e1.loc _ _ hm)
    rw [hm2] at ma; cases ma
    have hxk : x = kV key := kV_of hkey r1
    subst hxk
    refine ⟨g1, [(key, y)], rfl, by show 1 ≤ 15; omega, ?_⟩
    have ew : Ext A m2 H2 m2 (upd H2 q (.dK (mergeK [] [(key, y)]))) := Ext.write g1 (fun _ z => nomatch z) (fun _ _ z => nomatch z)
    exact p2 m2 _ _ ew (R2.write hm2 ew (.dk upd_same (RepK.mono ew (.cons ⟨rfl, r2⟩ .nil)))) (.loc hm2)
  · exact p2.elim
end
end DI

set_option Elab.async false
set_option linter.all false
set_option maxRecDepth 100000
set_option maxHeartbeats 4000000
/-! Own exceptions that keep one value: raised, and told by an except suite. -/
namespace DI
open L2 PySem PySem.Spec PyProof.Rows
/-- what the written part says of such a class C over BC, whose __init__ stands at fI and whose value is named f -/
def xinB (K : PySem.W.Frag) (C BC fI : Addr) (f : Str) : Bool :=
  (match K.lookup C with
    | some ⟨.type t, _, .cls cd, sl⟩ => decide (t = "type") && (match cd.mro, sl.toList with
      | .ref C' :: bm, [_, _, _, _, some (.builtin n), _] => C' == C && (n == "ValueError.__new__" && (!cd.hasDel && (cd.hasDict && HandSPX.refsVE bm)))
      | _, _ => false)
    | _ => false) &&
  (decide (PySem.W.findIn K (.ref C) "__setattr__" = some (some (.builtin "object.__setattr__"))) &&
  (decide (PySem.W.subIn K (.ref C) (.type "BaseException") = some true) &&
  (decide (PySem.W.typeIn K (.ref C) = some (.type "type")) &&
  (PySem.W.keepIn K (.ref C) &&
  (decide (PySem.W.findIn K (.ref C) "__init__" = some (some (.ref fI))) &&
  (decide (PySem.W.typeIn K (.ref fI) = some (.type "function")) &&
  (xfB K C &&
  (decide (PySem.W.findIn K (.ref C) f = some none) &&
  (decide (PySem.W.exmOne K (.ref C) (.ref C) = some true) &&
  (PySem.W.readsIn K BC (.type "type") &&
  (decide (PySem.W.specialIn K (.ref BC) "__getattribute__" = some (some (.builtin "type.__getattribute__"))) &&
  (match PySem.W.findCls K (.ref BC) (.type "type") "__init__" with
    | some (.val (.builtin n)) => n == "ValueError.__init__"
    | _ => false))))))))))))
structure Xin (K : PySem.W.Frag) (C BC fI : Addr) (f : Str) : Prop where
  oex : OexC K C
  ini : PySem.W.findIn K (.ref C) "__init__" = some (some (.ref fI))
  tI : PySem.W.typeIn K (.ref fI) = some (.type "function")
  xf : XfC K C
  no : PySem.W.findIn K (.ref C) f = some none
  exm : PySem.W.exmOne K (.ref C) (.ref C) = some true
  rd : PySem.W.readsIn K BC (.type "type") = true
  ga : PySem.W.specialIn K (.ref BC) "__getattribute__" = some (some (.builtin "type.__getattribute__"))
  vi : PySem.W.findCls K (.ref BC) (.type "type") "__init__" = some (.val (.builtin "ValueError.__init__"))
theorem xinB_ok {K : PySem.W.Frag} {C BC fI : Addr} {f : Str} (h : xinB K C BC fI f = true) : Xin K C BC fI f := by
  unfold xinB at h
  simp only [Bool.and_eq_true, decide_eq_true_eq] at h
  obtain ⟨h1, h2, h3, h4, h5, h6, h7, h8, h9, h10, h11, h12, h13⟩ := h
  refine ⟨⟨?_, h2, h3, h4, h5⟩, h6, h7, xfB_ok h8, h9, h10, h11, h12, ?_⟩
  · split at h1
    · rename_i t dd cd sl hk
      obtain ⟨ht, h1⟩ := Bool.and_eq_true_iff.mp h1
      obtain rfl := of_decide_eq_true ht
      split at h1
      · rename_i C' bm k0 k1 k2 k3 n k5 hm hs
        simp only [Bool.and_eq_true, beq_iff_eq, Bool.not_eq_true'] at h1
        obtain ⟨_, rfl, rfl, hdel, hd, hr⟩ := h1
        obtain ⟨nm, bs, mro, ns, qn, hdc, sn, sub, ab, col, del⟩ := cd
        dsimp only at hm hdel hd
        subst hm hdel hd
        have hsl : sl = #[k0, k1, k2, k3, some (.builtin "ValueError.__new__"), k5] := by
          obtain ⟨l⟩ := sl
          simp only at hs
          rw [hs]
        subst hsl
        exact ⟨nm, qn, ns, bs, bm, sn, sub, ab, col, dd, k0, k1, k2, k3, k5, hk, hr⟩
      · cases h1
    · cases h1
  · split at h13
    · rename_i n hn
      rw [hn]
      obtain rfl := beq_iff_eq.mp h13
      rfl
    · cases h13
section
variable {X : Cx} {e : Expr} {es : List Expr} {ta : TA} {b : Str} {p1 p2 pos : Pos}
/-- B.__init__(self, ..) of an own base class -/
theorem pe_veinitC {BC : Addr} {pl : Sem Bool} (hg : Gl X b) (hm : X.mg b = some (.ref BC)) (rd : PySem.W.readsIn X.K BC (.type "type") = true) (ga : PySem.W.specialIn X.K (.ref BC) "__getattribute__" = some (some (.builtin "type.__getattribute__")))
    (vi : PySem.W.findCls X.K (.ref BC) (.type "type") "__init__" = some (.val (.builtin "ValueError.__init__"))) (ha : PA X (e :: es) ta) (hdb : (b == ("__debug__" : Str)) = false)
    (hc : eval (.Call (.Attribute (.Name b p1) "__init__" p2) (e :: es) [] pos) X.env = (do
      let ov ← eval (.Name b p1) X.env
      standAt p2.atName
      let (f, first) ← holding [ov] (getMethod ov "__init__" pl)
      callWith pos f first (backTo pos (starEach (e :: es) X.env)) (backToKw pos (keywordEach [] X.env))))
    (he : starEach (e :: es) X.env = (false, eval e X.env) :: starEach es X.env) (hpl : (backTo pos (starEach es X.env)).any (·.1) = false) :
    PE X (.Call (.Attribute (.Name b p1) "__init__" p2) (e :: es) [] pos) (tVeI X.K ta) := by
  refine ⟨fun pz t τ H Q J h => ?_⟩
  refine PySem.W.methodCall_KW (ld_glob J hg hm ?_ hdb) hc
  refine PySem.W.method_cls (J.ok.mod.kin.keeps J.bk) ga (PySem.W.cls_value (J.ok.mod.kin.keeps J.bk) rd vi (by decide +kernel) ?_)
  show wpAny _ _ (callWith pos (Value.builtin "ValueError.__init__") [] (backTo pos (starEach (e :: es) X.env)) []) _ _ _
  refine PyProof.Rows.callWith_method1 (thn (ha.run pos pz _ τ H _ (J.tok _) h) fun us t1 ⟨vs, H1, J1, r1, a, C, ws, ev, hl, T, ea, q⟩ => ?_) he hpl
  subst ev
  cases r1 with
  | @cons _ u0 _ ur ra rest =>
    obtain rfl : u0 = Value.ref a := ra
    have hlen : ur.length ≤ sizeLine := by
      rw [← rest.length, sizeLine_eq]
      omega
    exact oinit_ok T J1 ea hlen fun s' J' => ⟨.non, H1, J', rfl, q⟩
end
/-- what such an __init__ promises -/
def spIni (C : Addr) (f : Str) : Sp := fun vs H Q _ => ∃ a v, vs = [.ref a, v] ∧ H a = some (exo a C none) ∧ ∀ dx, H dx = none → dx ≠ a → Q .non (upd (upd H dx (exd dx [(f, v)])) a (exo a C (some dx)))
end DI

set_option Elab.async false
set_option linter.all false
set_option maxRecDepth 100000
set_option maxHeartbeats 4000000
/-! When a text of the model is one of the language, and that it does then what the language says: expressions. -/
namespace DI
open L2 PySem PySem.Spec PyProof.Rows

/-- the program's names -/
structure PN where
  nfn : Nat
  fnl : List (Nat × Str)
  cls : List Nat
  cll : List (Nat × Str)
  mts : List (Nat × Str × Nat)
  inis : List (Nat × Nat)
  flds : List (Nat × Str)
  free : List Str
  xcs : List (Nat × Str)
  kbs : List (Nat × Nat × List Str × List Nat) := []
  xns : List (Nat × Str × Str) := []
structure CC where
  N : List Str
  sc : Scope
  fn : Str → Bool
  pn : PN
  stm : Bool := true
/-- what the head says of the program's names -/
structure Facts (A : Ad) (P : Pg) (pn : PN) (K : PySem.W.Frag) (mg : Str → Option Value) : Prop where
  fn : ∀ p ∈ pn.fnl, mg p.2 = some (.ref (A.fn p.1)) ∧ PySem.W.keepIn K (.ref (A.fn p.1)) = true
  cls : ∀ c ∈ pn.cls, Cls K (A.cl c)
  cll : ∀ p ∈ pn.cll, mg p.2 = some (.ref (A.cl p.1))
  mt : ∀ p ∈ pn.mts, Meth K (A.cl p.1) p.2.1 (A.fn p.2.2)
  ini : ∀ p ∈ pn.inis, Mk K (A.cl p.1) (A.fn p.2)
  fld : ∀ p ∈ pn.flds, NoAttr K (A.cl p.1) p.2
  free : ∀ x ∈ pn.free, mg x = none
  xc : ∀ p ∈ pn.xcs, mg p.2 = some (.ref (A.cl p.1)) ∧ PySem.W.excIn K (A.cl p.1) [.type "ValueError", .type "Exception", .type "BaseException", .type "object"] "ValueError.__new__" = true ∧ PySem.W.keepIn K (.ref (A.cl p.1)) = true ∧ PySem.W.subIn K (.ref (A.cl p.1)) (.type "BaseException") = some true ∧ PySem.W.typeIn K (.ref (A.cl p.1)) = some (.type "type")
  dat : ∀ (x : Str) (d : D), P.glo x = some d → ∃ v u, mg x = some u ∧ RelV v u ∧ ∀ m H, RepD A m H d v
def vis (sc : Scope) (x : Str) : Bool := match sc.names.lookup x with | some .local => true | some .cell => true | some .free => true | _ => false
def lcl (cc : CC) (x : Str) : Bool := match cc.sc.names.lookup x with | some .local => true | some .cell => cc.fn x | _ => false
def glb (sc : Scope) (x : Str) : Bool := match sc.names.lookup x with | some .globalImplicit => true | _ => false
def okBase : Expr → Bool | .Call (.Attribute _ _ _) [] [] _ => true | .Call _ [] [] _ => false | _ => true
def notStar : Expr → Bool | .Starred _ _ => false | _ => true
def notSlice : Expr → Bool | .Slice _ _ _ _ => false | _ => true
def notSet : Expr → Bool | .Set _ _ _ => false | _ => true
def isBO : Expr → Bool | .BoolOp _ _ _ => true | _ => false
def CC.blk (cc : CC) (scope : Scope) : CC := { cc with sc := relS scope cc.sc, fn := (fun x => scope.names.lookup x == some .cell), stm := false }
def chkLit : Lit → Const → Bool
  | .non, .none => true
  | .bl b, .bool c => b == c
  | .int i, .int j => decide (i = j)
  | .str x, .str y => decide (x = y)
  | _, _ => false
def chkNm (cc : CC) (i : Nat) : Expr → Bool
  | .Name x _ => decide (cc.N[i]? = some x) && lcl cc x
  | _ => false
def chkNms (cc : CC) : List Nat → List Expr → Bool
  | [], [] => true
  | i :: is, e :: es => chkNm cc i e && chkNms cc is es
  | _, _ => false
def chkTg (cc : CC) : Tg → Expr → Bool
  | .nm i, e => chkNm cc i e
  | .tp is, .Tuple es _ _ => chkNms cc is es
  | _, _ => false
def noDbg (x : Str) : Bool := !(x == ("__debug__" : Str)) && !(x == ("__classdict__" : Str)) && !(x == ("__name__" : Str))
def isTup : Expr → Bool | .Tuple _ _ _ => true | _ => false
def call1 : Expr → Option (Str × Expr) | .Call (.Name x _) [e] [] _ => some (x, e) | _ => none
def call2 : Expr → Option (Str × Expr × Expr) | .Call (.Name x _) [e, e2] [] _ => some (x, e, e2) | _ => none
theorem call1_eq {e a : Expr} {x : Str} (h : call1 e = some (x, a)) : ∃ p pos, e = .Call (.Name x p) [a] [] pos := by
  unfold call1 at h
  split at h
  · cases h; exact ⟨_, _, rfl⟩
  · cases h
theorem call2_eq {e a b : Expr} {x : Str} (h : call2 e = some (x, a, b)) : ∃ p pos, e = .Call (.Name x p) [a, b] [] pos := by
  unfold call2 at h
  split at h
  · cases h; exact ⟨_, _, rfl⟩
  · cases h
def isM1 : Expr → Bool
  | .UnaryOp .USub (.Constant (.int i) _ _) _ => decide (i = 1)
  | _ => false
theorem isM1_eq {e : Expr} (h : isM1 e = true) : ∃ k p1 p2, e = .UnaryOp .USub (.Constant (.int 1) k p1) p2 := by
  unfold isM1 at h
  split at h
  · obtain rfl := of_decide_eq_true h
    exact ⟨_, _, _, rfl⟩
  · cases h
mutual
def chk (cc : CC) : Ex → Expr → Bool
  | .cst l, .Constant c _ _ => chkLit l c
  | .var i, .Name x _ => decide (cc.N[i]? = some x) && vis cc.sc x && noDbg x
  | .glo y, .Name x _ => decide (x = y) && glb cc.sc x && noDbg x
  | .bty n, .Name x _ => decide (x = n) && glb cc.sc x && noDbg x && decide (x ∈ cc.pn.free) && decide (bootBuiltins x = some (.type n))
  | .bin o a b, .BinOp l op r _ => decide (o = op) && chk cc a l && chk cc b r
  | .neg a, .UnaryOp .USub e _ => chk cc a e
  | .cmp o a b, .Compare l [op] [r] _ => decide (o = op) && chk cc a l && chk cc b r && !(behindInMarks op r)
  | .chn o o' a b c, .Compare l [op, op'] [r, r'] _ => decide (o = op) && decide (o' = op') && chk cc a l && chk cc b r && chk cc c r' && !(lastMarks [op, op'] [r, r'])
  | .and_ a b, .BoolOp .And (e :: es) pos => chk cc a e && (match es with | [e2] => chk cc b e2 | e2 :: e3 :: r => chk cc b (.BoolOp .And (e2 :: e3 :: r) pos) | [] => false)
  | .or_ a b, .BoolOp .Or (e :: es) pos => chk cc a e && (match es with | [e2] => chk cc b e2 | e2 :: e3 :: r => chk cc b (.BoolOp .Or (e2 :: e3 :: r) pos) | [] => false)
  | .not_ a, .UnaryOp .Not e _ => chk cc a e
  | .ite t a b, .IfExp c x y _ => chk cc t c && chk cc a x && chk cc b y
  | .fld c o f, .Attribute e f' _ => decide (f = f') && decide (c ∈ cc.pn.cls) && decide ((c, f) ∈ cc.pn.flds) && okBase e && chk cc o e
  | .ix o i, .Subscript e s _ => notSlice s && chk cc o e && chk cc i s
  | .sl o lo hi, .Subscript e (.Slice l h none _) _ => chk cc o e && chkO cc lo l && chkO cc hi h
  | .tup es, .Tuple l _ _ => chks cc es l
  | .lst es, .List l _ => chks cc es l
  | .dct0 _, .Dict [] [] _ => true
  | .cal j es, .Call (.Name x _) l [] _ => decide ((j, x) ∈ cc.pn.fnl) && decide (j < cc.pn.nfn) && glb cc.sc x && noDbg x && chks cc es l
  | .mk c j es, .Call (.Name x _) l [] _ => decide ((c, x) ∈ cc.pn.cll) && decide ((c, j) ∈ cc.pn.inis) && decide (j < cc.pn.nfn) && glb cc.sc x && noDbg x && chks cc es l
  | .mth c j o m es, .Call (.Attribute e m' apos) l [] pos => decide (m = m') && decide ((c, m, j) ∈ cc.pn.mts) && decide (c ∈ cc.pn.cls) && decide (j < cc.pn.nfn) && okBase e && (apos.endLine == pos.line) && decide (l.length < 30) && chk cc o e && chks cc es l
  | .bi b es, .Call (.Name x _) l [] _ => decide (x = b.name) && decide (x ∈ cc.pn.free) && glb cc.sc x && !l.isEmpty && chks cc es l
  | .bm b o es, .Call (.Attribute e m' apos) l [] pos => decide (m' = b.name) && okBase e && (apos.endLine == pos.line) && decide (l.length < 30) && chk cc o e && chks cc es l
  | .lc own tg it ifs elt, .ListComp e [⟨t, iter, fs, a⟩] scope _ => decide (a = 0) && blkC cc.N cc.sc scope own && chkTg (cc.blk scope) tg t && tg.slots.all (fun i => decide (i ∈ own.map (·.2))) && notSet iter && chkI cc it t iter && chkF (cc.blk scope) ifs fs && chk (cc.blk scope) elt e
  | .lrg a b, .Call (.Name x _) [e] [] _ => decide (x = "list") && decide (x ∈ cc.pn.free) && glb cc.sc x && notStar e && (match call2 e with
    | some (y, u, v) => decide (y = "range") && decide (y ∈ cc.pn.free) && glb cc.sc y && notStar u && notStar v && chk cc a u && chk cc b v
    | none => false)
  | .dctK ks es, .Dict keys vals _ => chkD cc ks es keys vals && !keys.isEmpty && decide (keys.length ≤ 15)
  | .calV js i es, .Call (.Name x _) l [] _ => decide (cc.N[i]? = some x) && vis cc.sc x && noDbg x && js.all (fun j => decide (j < cc.pn.nfn) && cc.pn.fnl.any (fun p => p.1 == j)) && chks cc es l && !l.isEmpty
  | .dget1 o k, .Call (.Attribute e m apos) [a] [] pos => decide (m = "get") && okBase e && (apos.endLine == pos.line) && notStar a && chk cc o e && chk cc k a
  | .dget2 o k d, .Call (.Attribute e m apos) [a, b] [] pos => decide (m = "get") && okBase e && (apos.endLine == pos.line) && notStar a && notStar b && chk cc o e && chk cc k a && chk cc d b
  | .dpop2 o k d, .Call (.Attribute e m apos) [a, b] [] pos => decide (m = "pop") && okBase e && (apos.endLine == pos.line) && notStar a && notStar b && chk cc o e && chk cc k a && chk cc d b
  | .rev e, .Subscript e' (.Slice none none (some st) _) _ => isM1 st && chk cc e e'
  | .join o k, .Call (.Attribute e m apos) [a] [] pos => decide (m = "join") && okBase e && (apos.endLine == pos.line) && notStar a && chk cc o e && chk cc k a
  | .calK j n ks pm es kes, .Call (.Name x _) l kws pos => decide ((j, x) ∈ cc.pn.fnl) && decide (j < cc.pn.nfn) && decide ((j, n, ks, pm) ∈ cc.pn.kbs) && glb cc.sc x && noDbg x && chks cc es l && chkK cc ks kes kws && !kws.isEmpty
  | .mthK c j o m n ks pm es kes, .Call (.Attribute e m' apos) l kws pos => decide (m = m') && decide ((c, m, j) ∈ cc.pn.mts) && decide (c ∈ cc.pn.cls) && decide (j < cc.pn.nfn) && decide ((j, n, ks, pm) ∈ cc.pn.kbs) && okBase e && (apos.endLine == pos.line) && decide (l.length + kws.length < 29) && chk cc o e && chks cc es l && chkK cc ks kes kws && !kws.isEmpty
  | .dct1 k e, .Dict [some ke] [ve] _ => chk cc k ke && chk cc e ve
  | _, _ => false
def chkK (cc : CC) : List Str → Exs → List Keyword → Bool
  | [], .nil, [] => true
  | k :: ks, .cons t ts, ⟨nm, e, _⟩ :: kws => decide (nm = some k) && notStar e && chk cc t e && chkK cc ks ts kws
  | _, _, _ => false
def chkD (cc : CC) : List Str → Exs → List (Option Expr) → List Expr → Bool
  | [], .nil, [], [] => true
  | k :: ks, .cons t ts, some (.Constant (.str x) _ _) :: keys, e :: es => decide (x = k) && chk cc t e && chkD cc ks ts keys es
  | _, _, _, _ => false
def chks (cc : CC) : Exs → List Expr → Bool
  | .nil, [] => true
  | .cons t ts, e :: es => notStar e && chk cc t e && chks cc ts es
  | _, _ => false
def chkF (cc : CC) : Exs → List Expr → Bool
  | .nil, [] => true
  | .cons t .nil, [e] => chk cc t e
  | _, _ => false
def chkO (cc : CC) : Ox → Option Expr → Bool
  | .no, none => true
  | .so t, some e => chk cc t e
  | _, _ => false
def chkI (cc : CC) : Ir → Expr → Expr → Bool
  | .ex t, _, e => chk cc t e
  | .rng1 t, _, e => match call1 e with
    | some (x, e) => decide (x = "range") && decide (x ∈ cc.pn.free) && glb cc.sc x && notStar e && chk cc t e
    | none => false
  | .rng2 t u, _, e => match call2 e with
    | some (x, e, e2) => decide (x = "range") && decide (x ∈ cc.pn.free) && glb cc.sc x && notStar e && notStar e2 && chk cc t e && chk cc u e2
    | none => false
  | .enum t, tg, e => match call1 e with
    | some (x, e) => decide (x = "enumerate") && decide (x ∈ cc.pn.free) && glb cc.sc x && isTup tg && notStar e && chk cc t e
    | none => false
end
structure Good (A : Ad) (P : Pg) (C : Nat → List D → Sto → Out D) (X : Cx) (E : XK) (k : Nat) (cc : CC) : Prop where
  hK : A.K = X.K
  hW : A.w = X.w
  gd : X.A.guards = some []
  calm : X.calm = true
  hy : SysK X.K
  room : Room (k + 2) X.A
  nd : X.N.Nodup
  tk : Takes X (fun cls d _ H => E cls d H)
  pass : PassesOwn (model X.prog X.w) X.A X.env X.xe
  facts : Facts A P cc.pn X.K X.mg
  fns : ∀ j, j < cc.pn.nfn → ∃ fd ps, FnG X.prog X.w X.K X.mg X.base (L2.CX X.prog X.w) k (A.fn j) fd ps (spC A ps.length (C j)) ∧ Binds X.K fd ps [] ∧ (∀ ds S, ds.length ≠ ps.length → C j ds S = .bad) ∧ ∀ n ks pm, (j, n, ks, pm) ∈ cc.pn.kbs → KB X.K fd ps n ks pm
  hN : X.N = cc.N
  sc : X.env.scope = cc.sc
  fn : X.fn = cc.fn
  stm : cc.stm = true → X.stack = X.env :: X.outer ∧ X.env.frame = some X.env.locals
  xfn : ∀ q ∈ cc.pn.xns, X.mg q.2.1 = some (.ref (A.cl q.1)) ∧ ∃ BC fI fd ps, Xin X.K (A.cl q.1) BC fI q.2.2 ∧ FnOk X.prog X.w X.K X.mg X.base (L2.CX X.prog X.w) 1 fI fd ps (spIni (A.cl q.1) q.2.2) ∧ Binds X.K fd ps []
section
variable {A : Ad} {P : Pg} {C : Nat → List D → Sto → Out D} {X : Cx} {E : XK} {k : Nat} {cc : CC}
theorem Good.blk (G : Good A P C X E k cc) (s : Shared) (H : Hp) (scope : Scope) (Ca : Addr) (cl : List (Str × Addr)) (fp : List Addr) : Good A P C (X.blk s H scope (compEnvC scope cl Ca X.env) fp) EF k (cc.blk scope) where
  hK := G.hK
  hW := G.hW
  gd := G.gd
  calm := G.calm
  hy := G.hy
  room := G.room
  nd := G.nd
  tk := takes0
  pass := PassesOwn.never
  facts := G.facts
  fns := G.fns
  hN := G.hN
  sc := by
    show relabel scope X.env = relS scope cc.sc
    rw [← G.sc] <;> rfl
  fn := rfl
  stm := fun h => by cases h
  xfn := G.xfn
theorem Good.hu (G : Good A P C X E k cc) : X.A.units + 64 < cLine := G.room.units
theorem Good.vis (G : Good A P C X E k cc) {x : Str} (h : vis cc.sc x = true) : Vis X.env.scope x := by
  rw [G.sc]
  unfold DI.vis at h
  split at h
  · exact .inl (by assumption)
  · exact .inr (.inl (by assumption))
  · exact .inr (.inr (by assumption))
  · cases h
theorem Good.glb (G : Good A P C X E k cc) {x : Str} (h : glb cc.sc x = true) : Gl X x := by
  show X.env.scope.names.lookup x = _
  rw [G.sc]
  unfold DI.glb at h
  split at h
  · assumption
  · cases h
theorem Good.lcl (G : Good A P C X E k cc) {x : Str} (h : lcl cc x = true) : Loc X.env.scope x ∧ (X.fn x = true ∨ X.env.scope.names.lookup x = some .local) := by
  rw [G.sc, G.fn]
  unfold DI.lcl at h
  split at h
  · exact ⟨.inl (by assumption), .inr (by assumption)⟩
  · exact ⟨.inr (by assumption), .inl h⟩
  · cases h
theorem noDbg_ {x : Str} (h : noDbg x = true) : (x == ("__debug__" : Str)) = false ∧ (x == ("__classdict__" : Str)) = false ∧ x ≠ "__name__" := by
  simp only [noDbg, Bool.and_eq_true, Bool.not_eq_true', beq_eq_false_iff_ne] at h
  exact ⟨beq_eq_false_iff_ne.mpr h.1.1, beq_eq_false_iff_ne.mpr h.1.2, h.2⟩
theorem base_ok {o : Expr} {f : Str} {env : Env} {w : Sem Value} (h : okBase o = true) : attributeBase o f env w = w := by
  cases o <;> first | rfl | skip
  rename_i fn args kws pos
  cases args with
  | nil => cases kws with
    | nil => cases fn <;> first | rfl | cases h
    | cons _ _ => cases fn <;> rfl
  | cons _ _ => cases fn <;> rfl
theorem star_ok {e : Expr} {es : List Expr} {env : Env} (h : notStar e = true) : starEach (e :: es) env = (false, eval e env) :: starEach es env := by
  cases e <;> first | rfl | cases h
theorem slice_ok {e : Expr} (h : notSlice e = true) : PlainIx e := by
  intro o i
  cases e <;> first | rfl | cases h
theorem set_ok {e : Expr} {env : Env} (h : notSet e = true) : ∀ x, foldedSetIterable e env x = pure x := by
  intro x
  cases e <;> first | rfl | cases h
theorem chks_star : ∀ {ts : Exs} {es : List Expr}, chks cc ts es = true → ∀ e ∈ es, notStar e = true
  | .nil, [], _, e, he => by cases he
  | .nil, _ :: _, h, _, _ => by simp [chks] at h
  | .cons _ _, [], h, _, _ => by simp [chks] at h
  | .cons t ts, e :: es, h, x, hx => by
    simp only [chks, Bool.and_eq_true] at h
    rcases List.mem_cons.mp hx with rfl | hx
    · exact h.1.1
    · exact chks_star h.2 x hx
theorem star_any : ∀ {es : List Expr} {env : Env} {pos : Pos}, (∀ e ∈ es, notStar e = true) → (backTo pos (starEach es env)).any (·.1) = false
  | [], _, _, _ => rfl
  | e :: es, env, pos, h => by
    rw [star_ok (h e List.mem_cons_self)]
    show (false || (backTo pos (starEach es env)).any (·.1)) = false
    rw [star_any fun x hx => h x (List.mem_cons_of_mem _ hx)] <;> rfl
theorem star_all : ∀ {es : List Expr} {env : Env} {pos : Pos}, (∀ e ∈ es, notStar e = true) → (backTo pos (starEach es env)).all (fun x => !x.1) = true
  | [], _, _, _ => rfl
  | e :: es, env, pos, h => by
    rw [star_ok (h e List.mem_cons_self)]
    show (true && (backTo pos (starEach es env)).all (fun x => !x.1)) = true
    rw [star_all fun x hx => h x (List.mem_cons_of_mem _ hx)] <;> rfl
theorem few_ok {es : List Expr} {env : Env} {pos : Pos} (h : ∀ e ∈ es, notStar e = true) (hl : es.length < 30) :
    ((backTo pos (starEach es env)).all (fun x => !x.1) && (backToKw pos (keywordEach [] env)).all (fun x => x.1.isSome)
      && decide (es.length + ([] : List Keyword).length + (if ([] : List Keyword).isEmpty then 0 else 1) < 30)) = true := by
  rw [star_all h]
  show (true && true && decide (es.length < 30)) = true
  rw [decide_eq_true hl] <;> rfl
theorem meth_ok {o : Expr} {m : Str} {apos pos : Pos} {es : List Expr} {env : Env} (hb : okBase o = true) (hl : (apos.endLine == pos.line) = true) (hs : ∀ e ∈ es, notStar e = true) (hn : es.length < 30) :
    eval (.Call (.Attribute o m apos) es [] pos) env = (do
      let ov ← eval o env
      standAt apos.atName
      let (f, first) ← holding [ov] (getMethod ov m (plainOf o env))
      callWith pos f first (backTo pos (starEach es env)) (backToKw pos (keywordEach [] env))) := by
  have hf : methodCallForm (es.length + ([] : List Keyword).length) (backTo pos (starEach es env)) (backToKw pos (keywordEach [] env)) = true := by
    unfold methodCallForm
    rw [star_all hs]
    show (true && true && decide (es.length < 30)) = true
    rw [decide_eq_true hn] <;> rfl
  show (do
    let ov ← attributeBase o m env (eval o env)
    standAt apos.atName
    methodCall o m apos pos env ov (es.length + ([] : List Keyword).length) (backTo pos (starEach es env)) (backToKw pos (keywordEach [] env))) = _
  rw [base_ok hb]
  congr 1
  funext ov
  congr 1
  funext _
  exact mcall_line hf hl
theorem trees1 {e : Expr} {env : Env} {pos : Pos} (h : notStar e = true) : backTo pos (starEach [e] env) = [(false, eval e env)] := by
  rw [star_ok h] <;> rfl
theorem trees2 {e f : Expr} {env : Env} {pos : Pos} (h : notStar e = true) (g : notStar f = true) : backTo pos (starEach [e, f] env) = [(false, eval e env), (false, eval f env)] := by
  rw [star_ok h, star_ok g] <;> rfl
theorem m1_ok {X : Cx} {o e : Expr} {m : Str} {apos pos : Pos} (hb : okBase o = true) (hl : (apos.endLine == pos.line) = true) (h : notStar e = true) : M1 X o m apos e pos :=
  ⟨base_ok hb, few_ok (fun z hz => by rw [List.mem_singleton] at hz; subst hz; exact h) (by show 1 < 30; decide), hl, trees1 h⟩
theorem m2_ok {X : Cx} {o e f : Expr} {m : Str} {apos pos : Pos} (hb : okBase o = true) (hl : (apos.endLine == pos.line) = true) (h : notStar e = true) (g : notStar f = true) : M2 X o m apos e f pos :=
  ⟨base_ok hb, few_ok (fun z hz => by
    rcases List.mem_cons.mp hz with rfl | hz
    · exact h
    · rw [List.mem_singleton] at hz; subst hz; exact g) (by show 2 < 30; decide), hl, trees2 h g⟩
theorem chkD_keys {cc : CC} : ∀ {ks : List Str} {ts : Exs} {keys : List (Option Expr)} {es : List Expr}, chkD cc ks ts keys es = true → keys.all (·.isSome) = true ∧ keys.length = es.length
  | [], .nil, [], [], _ => ⟨rfl, rfl⟩
  | k :: ks, .cons t ts, some (.Constant (.str x) _ _) :: keys, e :: es, h => by
    simp only [chkD, Bool.and_eq_true] at h
    obtain ⟨i1, i2⟩ := chkD_keys h.2
    exact ⟨by rw [List.all_cons, i1] <;> rfl, by rw [List.length_cons, List.length_cons, i2]⟩
theorem kw_names {cc : CC} {env : Env} {pos : Pos} : ∀ {ks : List Str} {ts : Exs} {kws : List Keyword}, chkK cc ks ts kws = true → (backToKw pos (keywordEach kws env)).all (·.1.isSome) = true ∧ (backToKw pos (keywordEach kws env)).filterMap (·.1) = ks ∧ (backToKw pos (keywordEach kws env)).any (·.1.isNone) = false
  | [], .nil, [], _ => ⟨rfl, rfl, rfl⟩
  | k :: ks, .cons t ts, ⟨nm, e, p⟩ :: kws, h => by
    simp only [chkK, Bool.and_eq_true, decide_eq_true_eq] at h
    obtain ⟨⟨⟨rfl, h2⟩, h3⟩, h4⟩ := h
    obtain ⟨i1, i2, i3⟩ := kw_names (env := env) (pos := pos) h4
    refine ⟨?_, ?_, ?_⟩
    · show (true && (backToKw pos (keywordEach kws env)).all (·.1.isSome)) = true
      rw [i1]; rfl
    · show k :: (backToKw pos (keywordEach kws env)).filterMap (·.1) = k :: ks
      rw [i2]
    · show (false || (backToKw pos (keywordEach kws env)).any (·.1.isNone)) = false
      rw [i3]; rfl
  | [], .nil, _ :: _, h => by simp [chkK] at h
  | [], .cons _ _, _, h => by simp [chkK] at h
  | _ :: _, .nil, _, h => by simp [chkK] at h
  | _ :: _, .cons _ _, [], h => by simp [chkK] at h
theorem meth_okK {o : Expr} {m : Str} {apos pos : Pos} {es : List Expr} {kws : List Keyword} {env : Env} (hb : okBase o = true) (hl : (apos.endLine == pos.line) = true) (hs : ∀ e ∈ es, notStar e = true) (hn : es.length + kws.length < 29) (hk : (backToKw pos (keywordEach kws env)).all (·.1.isSome) = true) :
    eval (.Call (.Attribute o m apos) es kws pos) env = (do
      let ov ← eval o env
      standAt apos.atName
      let (f, first) ← holding [ov] (getMethod ov m (plainOf o env))
      callWith pos f first (backTo pos (starEach es env)) (backToKw pos (keywordEach kws env))) := by
  have hf : methodCallForm (es.length + kws.length) (backTo pos (starEach es env)) (backToKw pos (keywordEach kws env)) = true := by
    unfold methodCallForm
    rw [star_all hs, hk]
    show (true && true && decide (es.length + kws.length + (if (backToKw pos (keywordEach kws env)).isEmpty = true then 0 else 1) < 30)) = true
    rw [decide_eq_true (by split <;> omega)] <;> rfl
  show (do
    let ov ← attributeBase o m env (eval o env)
    standAt apos.atName
    methodCall o m apos pos env ov (es.length + kws.length) (backTo pos (starEach es env)) (backToKw pos (keywordEach kws env))) = _
  rw [base_ok hb]
  congr 1
  funext ov
  congr 1
  funext _
  exact mcall_line hf hl
theorem tg_nm (G : Good A P C X E k cc) {i : Nat} {e : Expr} (h : chkNm cc i e = true) : PG X e (gName i) ∧ ∀ es env, assignEach (e :: es) env = (false, assign e env) :: assignEach es env := by
  cases e <;> simp only [chkNm, Bool.and_eq_true, decide_eq_true_eq] at h <;> first | (cases h; done) | skip
  obtain ⟨h1, h2⟩ := G.lcl h.2
  exact ⟨pg_name G.nd (by rw [G.hN]; exact h.1) h1 h2, fun _ _ => rfl⟩
theorem tg_nms (G : Good A P C X E k cc) : ∀ {is : List Nat} {es : List Expr}, chkNms cc is es = true → PGs X es (gNames is) ∧ ∀ env, (assignEach es env).length = is.length ∧ (assignEach es env).findIdx? (·.1) = none
  | [], [], _ => ⟨pgs_nil, fun _ => ⟨rfl, rfl⟩⟩
  | [], _ :: _, h => by simp [chkNms] at h
  | _ :: _, [], h => by simp [chkNms] at h
  | i :: is, e :: es, h => by
    simp only [chkNms, Bool.and_eq_true] at h
    obtain ⟨a1, a2⟩ := tg_nm G h.1
    obtain ⟨b1, b2⟩ := tg_nms G h.2
    refine ⟨pgs_cons a1 b1 ?_, fun env => ?_⟩
    · rw [a2] <;> rfl
    · rw [a2]
      obtain ⟨c1, c2⟩ := b2 env
      refine ⟨by rw [List.length_cons, List.length_cons, c1], ?_⟩
      rw [List.findIdx?_cons]
      simp [c2]
theorem s_tg (G : Good A P C X E k cc) {tg : Tg} {e : Expr} (h : chkTg cc tg e = true) : PG X e (gOf X.K tg) := by
  cases tg with
  | nm i => exact (tg_nm G h).1
  | tp is =>
    cases e <;> first | (cases h; done) | skip
    obtain ⟨b1, b2⟩ := tg_nms G h
    exact pg_tup G.calm b1 (b2 _).1 (b2 _).2
end
end DI

set_option Elab.async false
set_option linter.all false
set_option maxRecDepth 100000
set_option maxHeartbeats 4000000
/-! Every text of the language does what the language says: expressions. -/
namespace DI
open L2 PySem PySem.Spec PyProof.Rows
section
variable {A : Ad} {P : Pg} {C : Nat → List D → Sto → Out D}
abbrev Trip (A : Ad) (P : Pg) (C : Nat → List D → Sto → Out D) (X : Cx) (E : XK) (t : Ex) (e : Expr) : Prop :=
  PE X e (tE A E (de P C t false)) ∧ PT X e (tT A E (de P C t true)) ∧ (isBO e = true → PW X e (tT A E (de P C t true)))
theorem trip {X : Cx} {E : XK} {t : Ex} {e : Expr} {f : Sl → Sto → Out D} (hK : A.K = X.K) (h : PE X e (tE A E f)) (he : ∀ whole, isTrue e X.env whole = (do let v ← whole; standAt e.pos; holding [v] (truthy v))) (hb : isBO e = false)
    (ht : ∀ b, de P C t b = fun σ S => fin b (f σ S)) : Trip A P C X E t e := by
  refine ⟨?_, ?_, fun z => by rw [hb] at z; cases z⟩
  · rw [ht]; exact h
  · rw [ht]; exact s_plain hK h he
theorem chks_nil {cc : CC} {es : Exs} (h : chks cc es [] = true) : es = .nil := by
  cases es with
  | nil => rfl
  | cons _ _ => simp [chks] at h
theorem chks_des0 {cc : CC} {es : Exs} (h : chks cc es [] = true) : des P C es = fun _ S => .ok [] S := by
  rw [chks_nil h]; funext σ S; simp only [des]
/-- what is shown of each part of a text -/
def ME (A : Ad) (P : Pg) (C : Nat → List D → Sto → Out D) (t : Ex) : Prop := ∀ {X : Cx} {E : XK} {k : Nat} {cc : CC} {e : Expr}, Good A P C X E k cc → chk cc t e = true → Trip A P C X E t e
def MS (A : Ad) (P : Pg) (C : Nat → List D → Sto → Out D) (ts : Exs) : Prop :=
  (∀ {X : Cx} {E : XK} {k : Nat} {cc : CC} {es : List Expr}, Good A P C X E k cc → chks cc ts es = true → PA X es (tAs A E (des P C ts))) ∧
  (∀ {X : Cx} {E : XK} {k : Nat} {cc : CC} {es : List Expr}, Good A P C X E k cc → chkF cc ts es = true → PTs X es (tG A E RE (deT P C ts))) ∧
  ∀ {X : Cx} {E : XK} {k : Nat} {cc : CC} {ks : List Str} {kws : List Keyword}, Good A P C X E k cc → chkK cc ks ts kws = true → PK X kws (tAs A E (des P C ts))
/-- .. and of a display's pairs -/
def MD (A : Ad) (P : Pg) (C : Nat → List D → Sto → Out D) (ts : Exs) : Prop := ∀ {X : Cx} {E : XK} {k : Nat} {cc : CC} {ks : List Str} {keys : List (Option Expr)} {es : List Expr} {pos : Pos}, Good A P C X E k cc → chkD cc ks ts keys es = true → PDs X A E pos ks keys es (des P C ts)
def MSS (A : Ad) (P : Pg) (C : Nat → List D → Sto → Out D) (ts : Exs) : Prop := MS A P C ts ∧ MD A P C ts
def MO (A : Ad) (P : Pg) (C : Nat → List D → Sto → Out D) (o : Ox) : Prop := ∀ {X : Cx} {E : XK} {k : Nat} {cc : CC} {e : Option Expr}, Good A P C X E k cc → chkO cc o e = true → L2.PO X e (tOx A E (deO P C o))
def MI (A : Ad) (P : Pg) (C : Nat → List D → Sto → Out D) (it : Ir) : Prop := ∀ {X : Cx} {E : XK} {k : Nat} {cc : CC} {tg e : Expr}, Good A P C X E k cc → chkI cc it tg e = true → PI X tg e (tI A E (deI P C it))
theorem c_cst (l : Lit) : ME A P C (.cst l) := by
    intro X E k cc e G h
    cases e <;> (try simp only [chk] at h) <;> first | (cases h; done) | skip
    rename_i c j pos
    refine trip (f := fun _ S => .ok l.d S) G.hK ?_ (fun _ => rfl) rfl (fun b => by funext σ S; simp only [de] <;> rfl)
    cases l <;> cases c <;> (try simp only [chkLit, decide_eq_true_eq, beq_iff_eq] at h) <;> first | (cases h; done) | skip
    · exact s_cst pe_non fun _ _ => .non
    · subst h; exact s_cst pe_bl fun _ _ => .bl _
    · subst h; exact s_cst pe_int fun _ _ => .int _
    · subst h; exact s_cst pe_str fun _ _ => .str _
theorem c_var (i : Nat) : ME A P C (.var i) := by
    intro X E k cc e G h
    cases e <;> (try simp only [chk, Bool.and_eq_true, decide_eq_true_eq] at h) <;> first | (cases h; done) | skip
    obtain ⟨⟨h1, h2⟩, h3⟩ := h
    obtain ⟨n1, n2, n3⟩ := noDbg_ h3
    exact trip G.hK (s_var (pe_var (by rw [G.hN]; exact h1) (G.vis h2) n1 n2)) (fun _ => rfl) rfl (fun b => by funext σ S; simp only [de] <;> rfl)
theorem c_glo (y : Str) : ME A P C (.glo y) := by
    intro X E k cc e G h
    cases e <;> (try simp only [chk, Bool.and_eq_true, decide_eq_true_eq] at h) <;> first | (cases h; done) | skip
    obtain ⟨⟨rfl, h2⟩, h3⟩ := h
    obtain ⟨n1, n2, n3⟩ := noDbg_ h3
    rename_i x pos
    cases hd : P.glo x with
    | none =>
      refine trip (f := fun _ S => .bad) G.hK ⟨fun _ _ _ _ _ _ ⟨_, _, _, _, _, p⟩ => p.elim⟩ (fun _ => rfl) rfl (fun b => by funext σ S; simp only [de, hd] <;> rfl)
    | some d =>
      obtain ⟨v, u, g1, g2, g3⟩ := G.facts.dat x d hd
      exact trip G.hK (s_cst (pe_glob (G.glb h2) g1 g2 n1) g3) (fun _ => rfl) rfl (fun b => by funext σ S; simp only [de, hd] <;> rfl)
theorem c_bty (n : String) : ME A P C (.bty n) := by
    intro X E k cc e G h
    cases e <;> (try simp only [chk, Bool.and_eq_true, decide_eq_true_eq] at h) <;> first | (cases h; done) | skip
    obtain ⟨⟨⟨⟨rfl, h2⟩, h3⟩, h4⟩, h5⟩ := h
    obtain ⟨n1, n2, n3⟩ := noDbg_ h3
    exact trip G.hK (s_cst (pe_bltn (v := .ty n) (G.glb h2) (G.facts.free _ h4) h5 rfl n3 n1) fun _ _ => .ty n) (fun _ => rfl) rfl (fun b => by funext σ S; simp only [de] <;> rfl)
theorem c_bin (o : Operator) {a : Ex} {b : Ex} (i_a : ME A P C a) (i_b : ME A P C b) : ME A P C (.bin o a b) := by
    intro X E k cc e G h
    cases e <;> (try simp only [chk, Bool.and_eq_true, decide_eq_true_eq] at h) <;> first | (cases h; done) | skip
    obtain ⟨⟨rfl, h1⟩, h2⟩ := h
    exact trip G.hK (s_bin G.hK (i_a G h1).1 (i_b G h2).1) (fun _ => rfl) rfl (fun b => by funext σ S; simp only [de] <;> rfl)
theorem c_neg  {a : Ex} (i_a : ME A P C a) : ME A P C (.neg a) := by
    intro X E k cc e G h
    cases e <;> (try simp only [chk] at h) <;> first | (cases h; done) | skip
    rename_i op e pos
    cases op <;> (try simp only [chk] at h) <;> first | (cases h; done) | skip
    exact trip G.hK (s_neg (i_a G h).1) (fun _ => rfl) rfl (fun b => by funext σ S; simp only [de] <;> rfl)
theorem c_cmp (o : CmpOp) {a : Ex} {b : Ex} (i_a : ME A P C a) (i_b : ME A P C b) : ME A P C (.cmp o a b) := by
    intro X E k cc e G h
    cases e <;> (try simp only [chk] at h) <;> first | (cases h; done) | skip
    rename_i l ops rs pos
    match ops, rs, h with
    | [op], [r], h =>
      simp only [chk, Bool.and_eq_true, decide_eq_true_eq, Bool.not_eq_true'] at h
      obtain ⟨⟨⟨rfl, h1⟩, h2⟩, h3⟩ := h
      refine ⟨?_, ?_, fun z => by cases z⟩
      · have e1 : de P C (.cmp o a b) false = fun σ S => (de P C a false σ S).bind fun x S => (de P C b false σ S).bind fun y S => .at S ((cmpSem o x y S).map D.bl) := by funext σ S; simp only [de] <;> rfl
        rw [e1]; exact s_cmp G.hK G.hW G.hu (i_a G h1).1 (i_b G h2).1 h3
      · have e1 : de P C (.cmp o a b) true = fun σ S => (de P C a false σ S).bind fun x S => (de P C b false σ S).bind fun y S => .at S ((cmpSem o x y S).map D.bl) := by funext σ S; simp only [de] <;> rfl
        rw [e1]; exact s_cmpT G.hK G.hW G.hu (i_a G h1).1 (i_b G h2).1 h3
    | [], _, h => simp [chk] at h
    | _ :: _ :: _, _, h => simp [chk] at h
    | [_], [], h => simp [chk] at h
    | [_], _ :: _ :: _, h => simp [chk] at h
theorem c_chn (o o' : CmpOp) {a : Ex} {b : Ex} {c : Ex} (i_a : ME A P C a) (i_b : ME A P C b) (i_c : ME A P C c) : ME A P C (.chn o o' a b c) := by
    intro X E k cc e G h
    cases e <;> (try simp only [chk] at h) <;> first | (cases h; done) | skip
    rename_i l ops rs pos
    match ops, rs, h with
    | [op, op'], [r, r'], h =>
      simp only [chk, Bool.and_eq_true, decide_eq_true_eq, Bool.not_eq_true'] at h
      obtain ⟨⟨⟨⟨⟨rfl, rfl⟩, h1⟩, h2⟩, h3⟩, h4⟩ := h
      refine ⟨?_, ?_, fun z => by cases z⟩
      · have e1 : de P C (.chn o o' a b c) false = fun σ S => (de P C a false σ S).bind fun x S => (de P C b false σ S).bind fun y S => match cmpSem o x y S with
          | some true => (de P C c false σ S).bind fun z S => .at S ((cmpSem o' y z S).map D.bl)
          | some false => .ok (.bl false) S
          | none => .bad := by funext σ S; simp only [de] <;> rfl
        rw [e1]; exact s_chn G.hK G.hW G.hu (i_a G h1).1 (i_b G h2).1 (i_c G h3).1 h4
      · have e1 : de P C (.chn o o' a b c) true = fun σ S => (de P C a false σ S).bind fun x S => (de P C b false σ S).bind fun y S => match cmpSem o x y S with
          | some true => (de P C c false σ S).bind fun z S => .at S ((cmpSem o' y z S).map D.bl)
          | some false => .ok (.bl false) S
          | none => .bad := by funext σ S; simp only [de] <;> rfl
        rw [e1]; exact s_chnT G.hK G.hW G.hu (i_a G h1).1 (i_b G h2).1 (i_c G h3).1 h4
    | [], _, h => simp [chk] at h
    | [_], _, h => simp [chk] at h
    | _ :: _ :: _ :: _, _, h => simp [chk] at h
    | [_, _], [], h => simp [chk] at h
    | [_, _], [_], h => simp [chk] at h
    | [_, _], _ :: _ :: _ :: _, h => simp [chk] at h
theorem c_and_  {a : Ex} {b : Ex} (i_a : ME A P C a) (i_b : ME A P C b) : ME A P C (.and_ a b) := by
    intro X E k cc e G h
    cases e <;> (try simp only [chk] at h) <;> first | (cases h; done) | skip
    rename_i op es pos
    have e1 : ∀ k, de P C (.and_ a b) k = fun σ S => (de P C a k σ S).bind fun x S => match truSem x S with | some true => de P C b k σ S | some false => .ok x S | none => .bad := fun k => by funext σ S; simp only [de] <;> rfl
    match op, es, h with
    | .Or, _, h => simp [chk] at h
    | .And, [], h => simp [chk] at h
    | .And, [_], h => simp [chk] at h
    | .And, [e, e2], h =>
      simp only [chk, Bool.and_eq_true] at h
      have ha := i_a G h.1
      have hb := i_b G h.2
      have hw := s_andT (pos := pos) ha.2.1 (PWi (pw_and1 hb.2.1) fun σ H Q z => z)
      refine ⟨?_, ?_, fun _ => ?_⟩
      · rw [e1]; exact s_and G.hK ha.1 (pe_one hb.1)
      · rw [e1]; exact hw.pt
      · rw [e1]; exact hw
    | .And, e :: e2 :: e3 :: r, h =>
      simp only [chk, Bool.and_eq_true] at h
      have ha := i_a G h.1
      have hb := i_b G h.2
      have hw := s_andT ha.2.1 (hb.2.2 rfl)
      refine ⟨?_, ?_, fun _ => ?_⟩
      · rw [e1]; exact s_and G.hK ha.1 hb.1
      · rw [e1]; exact hw.pt
      · rw [e1]; exact hw
theorem c_or_  {a : Ex} {b : Ex} (i_a : ME A P C a) (i_b : ME A P C b) : ME A P C (.or_ a b) := by
    intro X E k cc e G h
    cases e <;> (try simp only [chk] at h) <;> first | (cases h; done) | skip
    rename_i op es pos
    have e1 : ∀ k, de P C (.or_ a b) k = fun σ S => (de P C a k σ S).bind fun x S => match truSem x S with | some true => .ok x S | some false => de P C b k σ S | none => .bad := fun k => by funext σ S; simp only [de] <;> rfl
    match op, es, h with
    | .And, _, h => simp [chk] at h
    | .Or, [], h => simp [chk] at h
    | .Or, [_], h => simp [chk] at h
    | .Or, [e, e2], h =>
      simp only [chk, Bool.and_eq_true] at h
      have ha := i_a G h.1
      have hb := i_b G h.2
      have hw := s_orT (pos := pos) ha.2.1 (PWi (pw_or1 hb.2.1) fun σ H Q z => z)
      refine ⟨?_, ?_, fun _ => ?_⟩
      · rw [e1]; exact s_or G.hK ha.1 (pe_one hb.1)
      · rw [e1]; exact hw.pt
      · rw [e1]; exact hw
    | .Or, e :: e2 :: e3 :: r, h =>
      simp only [chk, Bool.and_eq_true] at h
      have ha := i_a G h.1
      have hb := i_b G h.2
      have hw := s_orT ha.2.1 (hb.2.2 rfl)
      refine ⟨?_, ?_, fun _ => ?_⟩
      · rw [e1]; exact s_or G.hK ha.1 hb.1
      · rw [e1]; exact hw.pt
      · rw [e1]; exact hw
theorem c_not_  {a : Ex} (i_a : ME A P C a) : ME A P C (.not_ a) := by
    intro X E k cc e G h
    cases e <;> (try simp only [chk] at h) <;> first | (cases h; done) | skip
    rename_i op e pos
    cases op <;> (try simp only [chk] at h) <;> first | (cases h; done) | skip
    have e1 : ∀ k, de P C (.not_ a) k = fun σ S => (de P C a k σ S).bind fun x S => .at S ((truSem x S).map fun b => D.bl (!b)) := fun k => by funext σ S; simp only [de] <;> rfl
    have ha := i_a G h
    refine ⟨?_, ?_, fun z => by cases z⟩
    · rw [e1]; exact s_not G.hK ha.1
    · rw [e1]; exact s_notT ha.2.1
theorem c_ite  {t : Ex} {a : Ex} {b : Ex} (i_t : ME A P C t) (i_a : ME A P C a) (i_b : ME A P C b) : ME A P C (.ite t a b) := by
    intro X E k cc e G h
    cases e <;> (try simp only [chk, Bool.and_eq_true] at h) <;> first | (cases h; done) | skip
    have ht := i_t G h.1.1
    have ha := i_a G h.1.2
    have hb := i_b G h.2
    have e1 : ∀ k, de P C (.ite t a b) k = fun σ S => (tstO (de P C t true σ S)).bind fun t S => if t = true then de P C a k σ S else de P C b k σ S := fun k => by funext σ S; simp only [de] <;> rfl
    refine ⟨?_, ?_, fun z => by cases z⟩
    · rw [e1]; exact s_ite ht.2.1 ha.1 hb.1
    · rw [e1]; exact s_iteT ht.2.1 ha.2.1 hb.2.1
theorem c_fld (c : Nat) (f : Str) {o : Ex} (i_o : ME A P C o) : ME A P C (.fld c o f) := by
    intro X E k cc e G h
    cases e <;> (try simp only [chk, Bool.and_eq_true, decide_eq_true_eq] at h) <;> first | (cases h; done) | skip
    obtain ⟨⟨⟨⟨rfl, h1⟩, h2⟩, h3⟩, h4⟩ := h
    exact trip G.hK (s_fld (G.facts.cls c h1) (G.facts.fld _ h2) (i_o G h4).1 (base_ok h3)) (fun _ => rfl) rfl (fun b => by funext σ S; simp only [de] <;> rfl)
theorem c_ix  {o : Ex} {i : Ex} (i_o : ME A P C o) (i_i : ME A P C i) : ME A P C (.ix o i) := by
    intro X E k cc e G h
    cases e <;> (try simp only [chk, Bool.and_eq_true] at h) <;> first | (cases h; done) | skip
    exact trip G.hK (s_ix G.hK G.hW G.hu (i_o G h.1.2).1 (i_i G h.2).1 (slice_ok h.1.1)) (fun _ => rfl) rfl (fun b => by funext σ S; simp only [de] <;> rfl)
theorem c_sl  {o : Ex} {lo : Ox} {hi : Ox} (i_o : ME A P C o) (i_lo : MO A P C lo) (i_hi : MO A P C hi) : ME A P C (.sl o lo hi) := by
    intro X E k cc e G h
    cases e <;> (try simp only [chk] at h) <;> first | (cases h; done) | skip
    rename_i e s pos
    cases s <;> (try simp only [chk] at h) <;> first | (cases h; done) | skip
    rename_i l u st p2
    cases st <;> (try simp only [chk, Bool.and_eq_true] at h) <;> first | (cases h; done) | skip
    exact trip G.hK (s_slice G.hK (i_o G h.1.1).1 (i_lo G h.1.2) (i_hi G h.2)) (fun _ => rfl) rfl (fun b => by funext σ S; simp only [de] <;> rfl)
theorem c_tup  {es : Exs} (i_es : MS A P C es) : ME A P C (.tup es) := by
    intro X E k cc e G h
    cases e <;> (try simp only [chk] at h) <;> first | (cases h; done) | skip
    exact trip G.hK (s_tup (i_es.1 G h)) (fun _ => rfl) rfl (fun b => by funext σ S; simp only [de] <;> rfl)
theorem c_lst  {es : Exs} (i_es : MS A P C es) : ME A P C (.lst es) := by
    intro X E k cc e G h
    cases e <;> (try simp only [chk] at h) <;> first | (cases h; done) | skip
    exact trip G.hK (s_lst (i_es.1 G h)) (fun _ => rfl) rfl (fun b => by funext σ S; simp only [de] <;> rfl)
theorem c_dct0 (t : Bool) : ME A P C (.dct0 t) := by
    intro X E k cc e G h
    cases e <;> (try simp only [chk] at h) <;> first | (cases h; done) | skip
    rename_i ks vs pos
    match ks, vs, h with
    | [], [], h => exact trip G.hK (s_dct0 t) (fun _ => rfl) rfl (fun b => by funext σ S; simp only [de] <;> rfl)
    | _ :: _, _, h => simp [chk] at h
    | [], _ :: _, h => simp [chk] at h
theorem c_cal (j : Nat) {es : Exs} (i_es : MS A P C es) : ME A P C (.cal j es) := by
    intro X E k cc e G h
    cases e <;> (try simp only [chk] at h) <;> first | (cases h; done) | skip
    rename_i fn l kws pos
    cases fn <;> (try simp only [chk] at h) <;> first | (cases h; done) | skip
    rename_i x p
    cases kws <;> (try simp only [chk, Bool.and_eq_true, decide_eq_true_eq] at h) <;> first | (cases h; done) | skip
    obtain ⟨⟨⟨⟨h1, h2⟩, h3⟩, h4⟩, h5⟩ := h
    obtain ⟨n1, n2, n3⟩ := noDbg_ h4
    obtain ⟨m1, m2⟩ := G.facts.fn _ h1
    obtain ⟨fd, ps, F, hb, har, _⟩ := G.fns j h2
    have hr : Room k X.A := G.room.mono (Nat.le_add_right _ 2)
    cases l with
    | nil =>
      refine trip G.hK (s_call0 G.gd F hr (G.glb h3) m1 m2 hb G.tk har n1) (fun _ => rfl) rfl (fun b => by funext σ S; simp only [de, chks_des0 h5] <;> rfl)
    | cons e l =>
      have hs := chks_star h5
      exact trip G.hK (s_call G.gd F hr (G.glb h3) m1 m2 hb G.tk har (i_es.1 G h5) n1 (star_ok (hs e List.mem_cons_self)) (star_any fun z hz => hs z (List.mem_cons_of_mem _ hz))) (fun _ => rfl) rfl (fun b => by funext σ S; simp only [de] <;> rfl)
theorem c_mk (c j : Nat) {es : Exs} (i_es : MS A P C es) : ME A P C (.mk c j es) := by
    intro X E k cc e G h
    cases e <;> (try simp only [chk] at h) <;> first | (cases h; done) | skip
    rename_i fn l kws pos
    cases fn <;> (try simp only [chk] at h) <;> first | (cases h; done) | skip
    rename_i x p
    cases kws <;> (try simp only [chk, Bool.and_eq_true, decide_eq_true_eq] at h) <;> first | (cases h; done) | skip
    obtain ⟨⟨⟨⟨⟨h1, h2⟩, h2'⟩, h3⟩, h4⟩, h5⟩ := h
    obtain ⟨n1, n2, n3⟩ := noDbg_ h4
    have m1 := G.facts.cll _ h1
    have M := G.facts.ini _ h2
    obtain ⟨fd, ps, F, hb, har, _⟩ := G.fns j h2'
    cases l with
    | nil =>
      refine trip G.hK (s_make0 M G.gd F (G.room.mono (Nat.le_succ _)) (G.glb h3) m1 hb G.tk har n1) (fun _ => rfl) rfl (fun b => by funext σ S; simp only [de, chks_des0 h5] <;> rfl)
    | cons e l =>
      have hs := chks_star h5
      exact trip G.hK (s_make M G.gd F (G.room.mono (Nat.le_succ _)) (G.glb h3) m1 hb G.tk har (i_es.1 G h5) n1 (star_ok (hs e List.mem_cons_self)) (star_any fun z hz => hs z (List.mem_cons_of_mem _ hz))) (fun _ => rfl) rfl (fun b => by funext σ S; simp only [de] <;> rfl)
theorem c_mth (c j : Nat) (m : Str) {o : Ex} {es : Exs} (i_o : ME A P C o) (i_es : MS A P C es) : ME A P C (.mth c j o m es) := by
    intro X E k cc e G h
    cases e <;> (try simp only [chk] at h) <;> first | (cases h; done) | skip
    rename_i fn l kws pos
    cases fn <;> (try simp only [chk] at h) <;> first | (cases h; done) | skip
    rename_i e0 m' apos
    cases kws <;> (try simp only [chk, Bool.and_eq_true, decide_eq_true_eq] at h) <;> first | (cases h; done) | skip
    obtain ⟨⟨⟨⟨⟨⟨⟨⟨rfl, h1⟩, h2⟩, h3⟩, h4⟩, h5⟩, h6⟩, h7⟩, h8⟩ := h
    have m2 := G.facts.cls c h2
    have M := G.facts.mt _ h1
    obtain ⟨fd, ps, F, hb, har, _⟩ := G.fns j h3
    have hr : Room k X.A := G.room.mono (Nat.le_add_right _ 2)
    have hs := chks_star h8
    cases l with
    | nil =>
      refine trip G.hK (s_meth0 (i_o G h7).1 m2 M G.gd F hr hb G.tk har (meth_ok h4 h5 hs h6)) (fun _ => rfl) rfl (fun b => by funext σ S; simp only [de, chks_des0 h8] <;> rfl)
    | cons e l =>
      exact trip G.hK (s_meth (i_o G h7).1 m2 M G.gd F hr hb G.tk har (i_es.1 G h8) (star_ok (hs e List.mem_cons_self)) (star_any fun z hz => hs z (List.mem_cons_of_mem _ hz)) (meth_ok h4 h5 hs h6)) (fun _ => rfl) rfl (fun b => by funext σ S; simp only [de] <;> rfl)
theorem c_bi (f : BI) {es : Exs} (i_es : MS A P C es) : ME A P C (.bi f es) := by
    intro X E k cc e G h
    cases e <;> (try simp only [chk] at h) <;> first | (cases h; done) | skip
    rename_i fn l kws pos
    cases fn <;> (try simp only [chk] at h) <;> first | (cases h; done) | skip
    rename_i x p
    cases kws <;> (try simp only [chk, Bool.and_eq_true, decide_eq_true_eq, Bool.not_eq_true'] at h) <;> first | (cases h; done) | skip
    obtain ⟨⟨⟨⟨rfl, h2⟩, h3⟩, h4⟩, h5⟩ := h
    cases l with
    | nil => cases h4
    | cons e l =>
      have hs := chks_star h5
      exact trip G.hK (s_bi f G.hK G.calm G.hy G.gd G.hu (G.glb h3) (G.facts.free _ h2) (i_es.1 G h5) (star_ok (hs e List.mem_cons_self)) (star_any fun z hz => hs z (List.mem_cons_of_mem _ hz))) (fun _ => rfl) rfl (fun b => by funext σ S; simp only [de] <;> rfl)
theorem c_bm (f : BM) {o : Ex} {es : Exs} (i_o : ME A P C o) (i_es : MS A P C es) : ME A P C (.bm f o es) := by
    intro X E k cc e G h
    cases e <;> (try simp only [chk] at h) <;> first | (cases h; done) | skip
    rename_i fn l kws pos
    cases fn <;> (try simp only [chk] at h) <;> first | (cases h; done) | skip
    rename_i e0 m' apos
    cases kws <;> (try simp only [chk, Bool.and_eq_true, decide_eq_true_eq] at h) <;> first | (cases h; done) | skip
    obtain ⟨⟨⟨⟨⟨rfl, h4⟩, h5⟩, h6⟩, h7⟩, h8⟩ := h
    have hs := chks_star h8
    cases l with
    | nil =>
      refine trip G.hK (s_bm0 f (i_o G h7).1 (base_ok h4) h5) (fun _ => rfl) rfl (fun b => by funext σ S; simp only [de, chks_des0 h8] <;> rfl)
    | cons e l =>
      exact trip G.hK (s_bm f (i_o G h7).1 (i_es.1 G h8) (base_ok h4) (few_ok hs h6) h5 (star_ok (hs e List.mem_cons_self)) (star_any fun z hz => hs z (List.mem_cons_of_mem _ hz))) (fun _ => rfl) rfl (fun b => by funext σ S; simp only [de] <;> rfl)
theorem c_lc (own : List (Str × Nat)) (tg : Tg) {it : Ir} {ifs : Exs} {elt : Ex} (i_it : MI A P C it) (i_ifs : MS A P C ifs) (i_elt : ME A P C elt) : ME A P C (.lc own tg it ifs elt) := by
    intro X E k cc e G h
    cases e <;> (try simp only [chk] at h) <;> first | (cases h; done) | skip
    rename_i e gs scope pos
    match gs, h with
    | [⟨t, iter, fs, a⟩], h =>
      simp only [chk, Bool.and_eq_true, decide_eq_true_eq] at h
      obtain ⟨⟨⟨⟨⟨⟨⟨rfl, h1⟩, h2⟩, h3⟩, h4⟩, h5⟩, h6⟩, h7⟩ := h
      have hB : BlkOk X.N X.env.scope scope own := by rw [G.hN, G.sc]; exact blkOk_by h1
      have htg : ∀ i ∈ tg.slots, i ∈ own.map (·.2) := fun i hi => of_decide_eq_true (List.all_eq_true.mp h3 i hi)
      exact trip G.hK (PEi (pe_lc G.calm G.nd (i_it (tg := t) G h5) hB (fun s H Ca cl fp => s_tg (G.blk s H scope Ca cl fp) h2) (fun s H Ca cl fp => i_ifs.2.1 (G.blk s H scope Ca cl fp) h6) (fun s H Ca cl fp => (i_elt (G.blk s H scope Ca cl fp) h7).1) (set_ok h4))
        (lc_in G.hK htg)) (fun _ => rfl) rfl (fun b => by funext σ S; simp only [de] <;> rfl)
    | [], h => simp [chk] at h
    | _ :: _ :: _, h => simp [chk] at h
theorem c_lrg {a b : Ex} (i_a : ME A P C a) (i_b : ME A P C b) : ME A P C (.lrg a b) := by
    intro X E k cc e G h
    cases e <;> (try simp only [chk] at h) <;> first | (cases h; done) | skip
    rename_i fn l kws pos
    cases fn <;> (try simp only [chk] at h) <;> first | (cases h; done) | skip
    rename_i x p
    match l, kws, h with
    | [e], [], h =>
      simp only [chk, Bool.and_eq_true, decide_eq_true_eq] at h
      obtain ⟨⟨⟨⟨rfl, h2⟩, h3⟩, h4⟩, h5⟩ := h
      cases hc : call2 e with
      | none => rw [hc] at h5; cases h5
      | some xa =>
        obtain ⟨y, u, v⟩ := xa
        obtain ⟨p', pos', rfl⟩ := call2_eq hc
        rw [hc] at h5
        simp only [Bool.and_eq_true, decide_eq_true_eq] at h5
        obtain ⟨⟨⟨⟨⟨⟨rfl, k2⟩, k3⟩, k4⟩, k5⟩, k6⟩, k7⟩ := h5
        exact trip G.hK (s_lrg G.calm (G.glb h3) (G.facts.free _ h2) (G.glb k3) (G.facts.free _ k2) (i_a G k6).1 (i_b G k7).1 (star_ok k4) (star_ok k5) (star_ok h4)) (fun _ => rfl) rfl (fun b => by funext σ S; simp only [de] <;> rfl)
    | [], _, h => simp [chk] at h
    | [_], _ :: _, h => simp [chk] at h
    | _ :: _ :: _, _, h => simp [chk] at h
theorem c_calK (j n : Nat) (ks : List Str) (pm : List Nat) {es kes : Exs} (i_es : MS A P C es) (i_kes : MS A P C kes) : ME A P C (.calK j n ks pm es kes) := by
    intro X E k cc e G h
    cases e <;> (try simp only [chk] at h) <;> first | (cases h; done) | skip
    rename_i fn l kws pos
    cases fn <;> (try simp only [chk] at h) <;> first | (cases h; done) | skip
    rename_i x p
    simp only [Bool.and_eq_true, decide_eq_true_eq] at h
    obtain ⟨⟨⟨⟨⟨⟨⟨h1, h2⟩, hq⟩, h3⟩, h4⟩, h5⟩, h6⟩, _⟩ := h
    obtain ⟨n1, n2, n3⟩ := noDbg_ h4
    obtain ⟨m1, m2⟩ := G.facts.fn _ h1
    obtain ⟨fd, ps, F, hb, har, hkb⟩ := G.fns j h2
    have hr : Room k X.A := G.room.mono (Nat.le_add_right _ 2)
    obtain ⟨w1, w2, w3⟩ := kw_names (env := X.env) (pos := pos) h6
    subst w2
    cases l with
    | nil =>
      refine trip G.hK (s_callK0 G.gd F hr (G.glb h3) m1 m2 (hkb _ _ _ hq) G.tk har (i_kes.2.2 G h6) n1 w1 rfl (by rw [w3]; rfl)) (fun _ => rfl) rfl (fun b => by funext σ S; simp only [de, chks_des0 h5] <;> rfl)
    | cons e l =>
      have hs := chks_star h5
      exact trip G.hK (s_callK G.gd F hr (G.glb h3) m1 m2 (hkb _ _ _ hq) G.tk har (i_es.1 G h5) (i_kes.2.2 G h6) n1 w1 rfl (star_ok (hs e List.mem_cons_self)) (by rw [star_any hs, w3]; rfl)) (fun _ => rfl) rfl (fun b => by funext σ S; simp only [de] <;> rfl)
theorem c_mthK (c j : Nat) (m : Str) (n : Nat) (ks : List Str) (pm : List Nat) {o : Ex} {es kes : Exs} (i_o : ME A P C o) (i_es : MS A P C es) (i_kes : MS A P C kes) : ME A P C (.mthK c j o m n ks pm es kes) := by
    intro X E k cc e G h
    cases e <;> (try simp only [chk] at h) <;> first | (cases h; done) | skip
    rename_i fn l kws pos
    cases fn <;> (try simp only [chk] at h) <;> first | (cases h; done) | skip
    rename_i e0 m' apos
    simp only [Bool.and_eq_true, decide_eq_true_eq] at h
    obtain ⟨⟨⟨⟨⟨⟨⟨⟨⟨⟨⟨rfl, h1⟩, h2⟩, h3⟩, hq⟩, h4⟩, h5⟩, h6⟩, h7⟩, h8⟩, h9⟩, _⟩ := h
    have m2 := G.facts.cls c h2
    have M := G.facts.mt _ h1
    obtain ⟨fd, ps, F, hb, har, hkb⟩ := G.fns j h3
    have hr : Room k X.A := G.room.mono (Nat.le_add_right _ 2)
    have hs := chks_star h8
    obtain ⟨w1, w2, w3⟩ := kw_names (env := X.env) (pos := pos) h9
    subst w2
    cases l with
    | nil =>
      refine trip G.hK (s_methK0 (i_o G h7).1 m2 M G.gd F hr (hkb _ _ _ hq) G.tk har (i_kes.2.2 G h9) w1 rfl (by rw [w3]; rfl) (meth_okK h4 h5 hs h6 w1)) (fun _ => rfl) rfl (fun b => by funext σ S; simp only [de, chks_des0 h8] <;> rfl)
    | cons e l =>
      exact trip G.hK (s_methK (i_o G h7).1 m2 M G.gd F hr (hkb _ _ _ hq) G.tk har (i_es.1 G h8) (i_kes.2.2 G h9) w1 rfl (star_ok (hs e List.mem_cons_self)) (by rw [star_any hs, w3]; rfl) (meth_okK h4 h5 hs h6 w1)) (fun _ => rfl) rfl (fun b => by funext σ S; simp only [de] <;> rfl)
theorem c_nil : MS A P C .nil := by
  refine ⟨?_, ?_, ?_⟩
  · intro X E k cc es G h
    cases es with
    | nil =>
      have e1 : des P C .nil = fun _ S => .ok [] S := by funext σ S; simp only [des] <;> rfl
      rw [e1]; exact s_nil
    | cons _ _ => simp [chks] at h
  · intro X E k cc es G h
    cases es with
    | nil =>
      have e1 : deT P C .nil = fun _ S => .ok true S := by funext σ S; simp only [deT] <;> rfl
      rw [e1]; exact s_pts0
    | cons _ _ => simp [chkF] at h
  · intro X E k cc ks kws G h
    have e1 : des P C .nil = fun _ S => .ok [] S := by funext σ S; simp only [des] <;> rfl
    match ks, kws, h with
    | [], [], h => rw [e1]; exact k_nil
    | [], _ :: _, h => simp [chkK] at h
    | _ :: _, _, h => simp [chkK] at h
theorem c_cons {t : Ex} {ts : Exs} (i_t : ME A P C t) (i_ts : MS A P C ts) : MS A P C (.cons t ts) := by
  refine ⟨?_, ?_, ?_⟩
  · intro X E k cc es G h
    cases es with
    | nil => simp [chks] at h
    | cons e es =>
      simp only [chks, Bool.and_eq_true] at h
      have e1 : des P C (.cons t ts) = fun σ S => (de P C t false σ S).bind fun d S => (des P C ts σ S).bind fun ds S => .ok (d :: ds) S := by funext σ S; simp only [des] <;> rfl
      rw [e1]; exact s_cons (i_t G h.1.2).1 (i_ts.1 G h.2) (star_ok h.1.1)
  · intro X E k cc es G h
    cases ts with
    | cons _ _ => simp [chkF] at h
    | nil =>
    match es, h with
    | [e], h =>
      simp only [chkF] at h
      have e1 : deT P C (.cons t .nil) = fun σ S => tstO (de P C t true σ S) := by funext σ S; simp only [deT] <;> rfl
      rw [e1]; exact s_pts1 (i_t G h).2.1
    | [], h => simp [chkF] at h
    | _ :: _ :: _, h => simp [chkF] at h
  · intro X E k cc ks kws G h
    have e1 : des P C (.cons t ts) = fun σ S => (de P C t false σ S).bind fun d S => (des P C ts σ S).bind fun ds S => .ok (d :: ds) S := by funext σ S; simp only [des] <;> rfl
    match ks, kws, h with
    | k1 :: ks, ⟨nm, e, p⟩ :: kws, h =>
      simp only [chkK, Bool.and_eq_true, decide_eq_true_eq] at h
      rw [e1]; exact k_cons (i_t G h.1.2).1 (i_ts.2.2 G h.2)
    | [], _, h => simp [chkK] at h
    | _ :: _, [], h => simp [chkK] at h
theorem c_nilS : MSS A P C .nil := ⟨c_nil, by
  intro X E k cc ks keys es pos G h
  have e1 : des P C .nil = fun _ S => .ok [] S := by funext σ S; simp only [des] <;> rfl
  match ks, keys, es, h with
  | [], [], [], _ => rw [e1]; exact pds_nil
  | _ :: _, _, _, h => simp [chkD] at h
  | [], _ :: _, _, h => simp [chkD] at h
  | [], [], _ :: _, h => simp [chkD] at h⟩
theorem c_consS {t : Ex} {ts : Exs} (i_t : ME A P C t) (i_ts : MSS A P C ts) : MSS A P C (.cons t ts) := ⟨c_cons i_t i_ts.1, by
  intro X E k cc ks keys es pos G h
  have e1 : des P C (.cons t ts) = fun σ S => (de P C t false σ S).bind fun d S => (des P C ts σ S).bind fun ds S => .ok (d :: ds) S := by funext σ S; simp only [des] <;> rfl
  unfold chkD at h
  split at h
  · rename_i hq; cases hq
  · rename_i hq
    cases hq
    simp only [Bool.and_eq_true, decide_eq_true_eq] at h
    obtain ⟨⟨rfl, h2⟩, h3⟩ := h
    rw [e1]; exact pds_cons (i_t G h2).1 (i_ts.2 G h3)
  · cases h⟩
theorem c_dctK (ks : List Str) {es : Exs} (i_es : MSS A P C es) : ME A P C (.dctK ks es) := by
    intro X E k cc e G h
    cases e <;> (try simp only [chk] at h) <;> first | (cases h; done) | skip
    rename_i keys vals pos
    simp only [Bool.and_eq_true, decide_eq_true_eq, Bool.not_eq_true', List.isEmpty_eq_false_iff] at h
    obtain ⟨⟨h1, h2⟩, h3⟩ := h
    obtain ⟨w1, w2⟩ := chkD_keys h1
    exact trip G.hK (s_dctK (i_es.2 G h1) w1 w2 h2 h3) (fun _ => rfl) rfl (fun b => by funext σ S; simp only [de] <;> rfl)
theorem c_dct1 {t u : Ex} (i_t : ME A P C t) (i_u : ME A P C u) : ME A P C (.dct1 t u) := by
    intro X E k cc e G h
    cases e <;> (try simp only [chk] at h) <;> first | (cases h; done) | skip
    rename_i keys vals pos
    match keys, vals, h with
    | [some ke], [ve], h =>
      simp only [chk, Bool.and_eq_true] at h
      exact trip G.hK (s_dct1 (i_t G h.1).1 (i_u G h.2).1) (fun _ => rfl) rfl (fun b => by funext σ S; simp only [de] <;> rfl)
theorem c_calV (js : List Nat) (i : Nat) {es : Exs} (i_es : MS A P C es) : ME A P C (.calV js i es) := by
    intro X E k cc e G h
    cases e <;> (try simp only [chk] at h) <;> first | (cases h; done) | skip
    rename_i fn l kws pos
    cases fn <;> (try simp only [chk] at h) <;> first | (cases h; done) | skip
    rename_i x p
    cases kws <;> (try simp only [chk, Bool.and_eq_true, decide_eq_true_eq, Bool.not_eq_true'] at h) <;> first | (cases h; done) | skip
    obtain ⟨⟨⟨⟨⟨h1, h2⟩, h3⟩, h4⟩, h5⟩, h6⟩ := h
    obtain ⟨n1, n2, n3⟩ := noDbg_ h3
    cases l with
    | nil => cases h6
    | cons e l =>
      have hs := chks_star h5
      refine trip G.hK (s_calV (js := js) G.gd (G.room.mono (Nat.le_add_right _ 2)) (by rw [G.hN]; exact h1) (G.vis h2) (fun j hj => ?_) G.tk (i_es.1 G h5) n1 n2 (star_ok (hs e List.mem_cons_self)) (star_any fun z hz => hs z (List.mem_cons_of_mem _ hz))) (fun _ => rfl) rfl (fun b => by funext σ S; simp only [de] <;> rfl)
      have hj2 := List.all_eq_true.mp h4 j hj
      simp only [Bool.and_eq_true, decide_eq_true_eq, List.any_eq_true, beq_iff_eq] at hj2
      obtain ⟨j1, q, hq, rfl⟩ := hj2
      obtain ⟨fd, ps, F, hb, har, _⟩ := G.fns q.1 j1
      exact ⟨(G.facts.fn q hq).2, fd, ps, F, hb, har⟩
theorem c_dget1 {o q : Ex} (i_o : ME A P C o) (i_q : ME A P C q) : ME A P C (.dget1 o q) := by
    intro X E k cc e G h
    cases e <;> (try simp only [chk] at h) <;> first | (cases h; done) | skip
    rename_i fn l kws pos
    cases fn <;> (try simp only [chk] at h) <;> first | (cases h; done) | skip
    rename_i e0 m apos
    match l, kws, h with
    | [a], [], h =>
      simp only [chk, Bool.and_eq_true, decide_eq_true_eq] at h
      obtain ⟨⟨⟨⟨⟨rfl, h2⟩, h3⟩, h4⟩, h5⟩, h6⟩ := h
      exact trip G.hK (s_dget1 (by have := G.hu; omega) (i_o G h5).1 (i_q G h6).1 (m1_ok h2 h3 h4)) (fun _ => rfl) rfl (fun b => by funext σ S; simp only [de] <;> rfl)
    | [], _, h => simp [chk] at h
    | [_], _ :: _, h => simp [chk] at h
    | _ :: _ :: _, _, h => simp [chk] at h
theorem c_dget2 {o q r : Ex} (i_o : ME A P C o) (i_q : ME A P C q) (i_r : ME A P C r) : ME A P C (.dget2 o q r) := by
    intro X E k cc e G h
    cases e <;> (try simp only [chk] at h) <;> first | (cases h; done) | skip
    rename_i fn l kws pos
    cases fn <;> (try simp only [chk] at h) <;> first | (cases h; done) | skip
    rename_i e0 m apos
    match l, kws, h with
    | [a, b], [], h =>
      simp only [chk, Bool.and_eq_true, decide_eq_true_eq] at h
      obtain ⟨⟨⟨⟨⟨⟨⟨rfl, h2⟩, h3⟩, h4⟩, h4'⟩, h5⟩, h6⟩, h7⟩ := h
      exact trip G.hK (s_dget2 (by have := G.hu; omega) (i_o G h5).1 (i_q G h6).1 (i_r G h7).1 (m2_ok h2 h3 h4 h4')) (fun _ => rfl) rfl (fun b => by funext σ S; simp only [de] <;> rfl)
    | [], _, h => simp [chk] at h
    | [_], _, h => simp [chk] at h
    | [_, _], _ :: _, h => simp [chk] at h
    | _ :: _ :: _ :: _, _, h => simp [chk] at h
theorem c_dpop2 {o q r : Ex} (i_o : ME A P C o) (i_q : ME A P C q) (i_r : ME A P C r) : ME A P C (.dpop2 o q r) := by
    intro X E k cc e G h
    cases e <;> (try simp only [chk] at h) <;> first | (cases h; done) | skip
    rename_i fn l kws pos
    cases fn <;> (try simp only [chk] at h) <;> first | (cases h; done) | skip
    rename_i e0 m apos
    match l, kws, h with
    | [a, b], [], h =>
      simp only [chk, Bool.and_eq_true, decide_eq_true_eq] at h
      obtain ⟨⟨⟨⟨⟨⟨⟨rfl, h2⟩, h3⟩, h4⟩, h4'⟩, h5⟩, h6⟩, h7⟩ := h
      exact trip G.hK (s_dpop2 (i_o G h5).1 (i_q G h6).1 (i_r G h7).1 (m2_ok h2 h3 h4 h4')) (fun _ => rfl) rfl (fun b => by funext σ S; simp only [de] <;> rfl)
    | [], _, h => simp [chk] at h
    | [_], _, h => simp [chk] at h
    | [_, _], _ :: _, h => simp [chk] at h
    | _ :: _ :: _ :: _, _, h => simp [chk] at h
theorem c_rev {o : Ex} (i_o : ME A P C o) : ME A P C (.rev o) := by
    intro X E k cc e G h
    cases e <;> (try simp only [chk] at h) <;> first | (cases h; done) | skip
    rename_i e' s pos
    cases s <;> (try simp only [chk] at h) <;> first | (cases h; done) | skip
    rename_i lo hi st p2
    cases lo <;> cases hi <;> cases st <;> (try simp only [chk] at h) <;> first | (cases h; done) | skip
    simp only [Bool.and_eq_true] at h
    obtain ⟨k', p1, p3, rfl⟩ := isM1_eq h.1
    exact trip G.hK (s_rev G.hK (i_o G h.2).1) (fun _ => rfl) rfl (fun b => by funext σ S; simp only [de] <;> rfl)
theorem c_join {o q : Ex} (i_o : ME A P C o) (i_q : ME A P C q) : ME A P C (.join o q) := by
    intro X E k cc e G h
    cases e <;> (try simp only [chk] at h) <;> first | (cases h; done) | skip
    rename_i fn l kws pos
    cases fn <;> (try simp only [chk] at h) <;> first | (cases h; done) | skip
    rename_i e0 m apos
    match l, kws, h with
    | [a], [], h =>
      simp only [chk, Bool.and_eq_true, decide_eq_true_eq] at h
      obtain ⟨⟨⟨⟨⟨rfl, h2⟩, h3⟩, h4⟩, h5⟩, h6⟩ := h
      exact trip G.hK (s_join G.hK (i_o G h5).1 (i_q G h6).1 (by rw [star_ok h4] <;> rfl) (base_ok h2) h3) (fun _ => rfl) rfl (fun b => by funext σ S; simp only [de] <;> rfl)
    | [], _, h => simp [chk] at h
    | [_], _ :: _, h => simp [chk] at h
    | _ :: _ :: _, _, h => simp [chk] at h
theorem c_no : MO A P C .no := by
    intro X E k cc e G h
    cases e with
    | none =>
      have e1 : deO P C .no = fun _ S => .ok none S := by funext σ S; simp only [deO] <;> rfl
      rw [e1]; exact s_po0
    | some _ => simp [chkO] at h
theorem c_so {t : Ex} (i_t : ME A P C t) : MO A P C (.so t) := by
    intro X E k cc e G h
    cases e with
    | none => simp [chkO] at h
    | some e =>
      simp only [chkO] at h
      have e1 : deO P C (.so t) = fun σ S => (de P C t false σ S).bind fun d S => cutOf d S := by funext σ S; simp only [deO] <;> rfl
      rw [e1]; exact s_po1 (i_t G h).1
theorem c_iex {t : Ex} (i_t : ME A P C t) : MI A P C (.ex t) := by
    intro X E k cc tg e G h
    simp only [chkI] at h
    have e1 : deI P C (.ex t) = fun σ S => (de P C t false σ S).bind fun x S => .at S (walkOf x S) := by funext σ S; simp only [deI] <;> rfl
    rw [e1]; exact s_iter G.hK G.hW (i_t G h).1
theorem c_irng1 {t : Ex} (i_t : ME A P C t) : MI A P C (.rng1 t) := by
  intro X E k cc tg e G h
  simp only [chkI] at h
  cases hc : call1 e with
  | none => rw [hc] at h; cases h
  | some xa =>
    obtain ⟨x, a⟩ := xa
    obtain ⟨p, pos, rfl⟩ := call1_eq hc
    rw [hc] at h
    simp only [Bool.and_eq_true, decide_eq_true_eq] at h
    obtain ⟨⟨⟨⟨rfl, h2⟩, h3⟩, h4⟩, h5⟩ := h
    have e1 : deI P C (.rng1 t) = fun σ S => (de P C t false σ S).bind fun x S => match x with | .int j => if rngOk 0 j = true then .ok (.rng 0 j.toNat) S else .bad | _ => .bad := by funext σ S; simp only [deI] <;> rfl
    rw [e1]; exact s_rng1 (G.glb h3) (G.facts.free _ h2) (i_t G h5).1 (star_ok h4)
theorem c_irng2 {t u : Ex} (i_t : ME A P C t) (i_u : ME A P C u) : MI A P C (.rng2 t u) := by
  intro X E k cc tg e G h
  simp only [chkI] at h
  cases hc : call2 e with
  | none => rw [hc] at h; cases h
  | some xa =>
    obtain ⟨x, a, b⟩ := xa
    obtain ⟨p, pos, rfl⟩ := call2_eq hc
    rw [hc] at h
    simp only [Bool.and_eq_true, decide_eq_true_eq] at h
    obtain ⟨⟨⟨⟨⟨⟨rfl, h2⟩, h3⟩, h4⟩, h4'⟩, h5⟩, h6⟩ := h
    have e1 : deI P C (.rng2 t u) = fun σ S => (de P C t false σ S).bind fun x S => (de P C u false σ S).bind fun y S => match x, y with
      | .int i, .int j => if rngOk i j = true then .ok (.rng i (j - i).toNat) S else .bad
      | _, _ => .bad := by funext σ S; simp only [deI] <;> rfl
    rw [e1]; exact s_rng2 (G.glb h3) (G.facts.free _ h2) (i_t G h5).1 (i_u G h6).1 (star_ok h4) (star_ok h4')
theorem c_ienum {t : Ex} (i_t : ME A P C t) : MI A P C (.enum t) := by
  intro X E k cc tg e G h
  simp only [chkI] at h
  cases hc : call1 e with
  | none => rw [hc] at h; cases h
  | some xa =>
    obtain ⟨x, a⟩ := xa
    obtain ⟨p, pos, rfl⟩ := call1_eq hc
    rw [hc] at h
    simp only [Bool.and_eq_true, decide_eq_true_eq] at h
    obtain ⟨⟨⟨⟨⟨rfl, h2⟩, h3⟩, h3'⟩, h4⟩, h5⟩ := h
    cases tg <;> first | (cases h3'; done) | skip
    have e1 : deI P C (.enum t) = fun σ S => (de P C t false σ S).bind fun x S => match walkL x S with | some w => .ok (.en w) S | none => .bad := by funext σ S; simp only [deI] <;> rfl
    rw [e1]; exact s_enum G.hK (G.glb h3) (G.facts.free _ h2) (i_t G h5).1 (star_ok h4)
theorem sAll : (∀ t, ME A P C t) ∧ (∀ ts, MSS A P C ts) ∧ (∀ o, MO A P C o) ∧ ∀ it, MI A P C it := by
  refine ⟨fun t => ?_, fun t => ?_, fun t => ?_, fun t => ?_⟩
  · exact @Ex.rec (ME A P C) (MSS A P C) (MO A P C) (MI A P C) (fun l => c_cst l) (fun i => c_var i) (fun x => c_glo x) (fun n => c_bty n) (fun o _ _ a b => c_bin o a b) (fun _ a => c_neg a) (fun o _ _ a b => c_cmp o a b) (fun o o' _ _ _ a b c => c_chn o o' a b c) (fun _ _ a b => c_and_ a b) (fun _ _ a b => c_or_ a b) (fun _ a => c_not_ a) (fun _ _ _ t a b => c_ite t a b) (fun c _ f o => c_fld c f o) (fun _ _ o i => c_ix o i) (fun _ _ _ o l h => c_sl o l h) (fun _ es => c_tup es.1) (fun _ es => c_lst es.1) (fun t => c_dct0 t) (fun j _ es => c_cal j es.1) (fun c j _ es => c_mk c j es.1) (fun c j _ m _ o es => c_mth c j m o es.1) (fun b _ es => c_bi b es.1) (fun b _ _ o es => c_bm b o es.1) (fun own tg _ _ _ it ifs elt => c_lc own tg it ifs.1 elt) (fun _ _ a b => c_lrg a b) (fun ks _ es => c_dctK ks es) (fun js i _ es => c_calV js i es.1) (fun _ _ a b => c_dget1 a b) (fun _ _ _ a b c => c_dget2 a b c) (fun _ _ _ a b c => c_dpop2 a b c) (fun _ a => c_rev a) (fun _ _ a b => c_join a b) (fun j n ks pm _ _ a b => c_calK j n ks pm a.1 b.1) (fun c j _ m n ks pm _ _ o a b => c_mthK c j m n ks pm o a.1 b.1) (fun _ _ a b => c_dct1 a b) c_nilS (fun _ _ a b => c_consS a b) c_no (fun _ a => c_so a) (fun _ a => c_iex a) (fun _ a => c_irng1 a) (fun _ _ a b => c_irng2 a b) (fun _ a => c_ienum a) t
  · exact @Exs.rec (ME A P C) (MSS A P C) (MO A P C) (MI A P C) (fun l => c_cst l) (fun i => c_var i) (fun x => c_glo x) (fun n => c_bty n) (fun o _ _ a b => c_bin o a b) (fun _ a => c_neg a) (fun o _ _ a b => c_cmp o a b) (fun o o' _ _ _ a b c => c_chn o o' a b c) (fun _ _ a b => c_and_ a b) (fun _ _ a b => c_or_ a b) (fun _ a => c_not_ a) (fun _ _ _ t a b => c_ite t a b) (fun c _ f o => c_fld c f o) (fun _ _ o i => c_ix o i) (fun _ _ _ o l h => c_sl o l h) (fun _ es => c_tup es.1) (fun _ es => c_lst es.1) (fun t => c_dct0 t) (fun j _ es => c_cal j es.1) (fun c j _ es => c_mk c j es.1) (fun c j _ m _ o es => c_mth c j m o es.1) (fun b _ es => c_bi b es.1) (fun b _ _ o es => c_bm b o es.1) (fun own tg _ _ _ it ifs elt => c_lc own tg it ifs.1 elt) (fun _ _ a b => c_lrg a b) (fun ks _ es => c_dctK ks es) (fun js i _ es => c_calV js i es.1) (fun _ _ a b => c_dget1 a b) (fun _ _ _ a b c => c_dget2 a b c) (fun _ _ _ a b c => c_dpop2 a b c) (fun _ a => c_rev a) (fun _ _ a b => c_join a b) (fun j n ks pm _ _ a b => c_calK j n ks pm a.1 b.1) (fun c j _ m n ks pm _ _ o a b => c_mthK c j m n ks pm o a.1 b.1) (fun _ _ a b => c_dct1 a b) c_nilS (fun _ _ a b => c_consS a b) c_no (fun _ a => c_so a) (fun _ a => c_iex a) (fun _ a => c_irng1 a) (fun _ _ a b => c_irng2 a b) (fun _ a => c_ienum a) t
  · exact @Ox.rec (ME A P C) (MSS A P C) (MO A P C) (MI A P C) (fun l => c_cst l) (fun i => c_var i) (fun x => c_glo x) (fun n => c_bty n) (fun o _ _ a b => c_bin o a b) (fun _ a => c_neg a) (fun o _ _ a b => c_cmp o a b) (fun o o' _ _ _ a b c => c_chn o o' a b c) (fun _ _ a b => c_and_ a b) (fun _ _ a b => c_or_ a b) (fun _ a => c_not_ a) (fun _ _ _ t a b => c_ite t a b) (fun c _ f o => c_fld c f o) (fun _ _ o i => c_ix o i) (fun _ _ _ o l h => c_sl o l h) (fun _ es => c_tup es.1) (fun _ es => c_lst es.1) (fun t => c_dct0 t) (fun j _ es => c_cal j es.1) (fun c j _ es => c_mk c j es.1) (fun c j _ m _ o es => c_mth c j m o es.1) (fun b _ es => c_bi b es.1) (fun b _ _ o es => c_bm b o es.1) (fun own tg _ _ _ it ifs elt => c_lc own tg it ifs.1 elt) (fun _ _ a b => c_lrg a b) (fun ks _ es => c_dctK ks es) (fun js i _ es => c_calV js i es.1) (fun _ _ a b => c_dget1 a b) (fun _ _ _ a b c => c_dget2 a b c) (fun _ _ _ a b c => c_dpop2 a b c) (fun _ a => c_rev a) (fun _ _ a b => c_join a b) (fun j n ks pm _ _ a b => c_calK j n ks pm a.1 b.1) (fun c j _ m n ks pm _ _ o a b => c_mthK c j m n ks pm o a.1 b.1) (fun _ _ a b => c_dct1 a b) c_nilS (fun _ _ a b => c_consS a b) c_no (fun _ a => c_so a) (fun _ a => c_iex a) (fun _ a => c_irng1 a) (fun _ _ a b => c_irng2 a b) (fun _ a => c_ienum a) t
  · exact @Ir.rec (ME A P C) (MSS A P C) (MO A P C) (MI A P C) (fun l => c_cst l) (fun i => c_var i) (fun x => c_glo x) (fun n => c_bty n) (fun o _ _ a b => c_bin o a b) (fun _ a => c_neg a) (fun o _ _ a b => c_cmp o a b) (fun o o' _ _ _ a b c => c_chn o o' a b c) (fun _ _ a b => c_and_ a b) (fun _ _ a b => c_or_ a b) (fun _ a => c_not_ a) (fun _ _ _ t a b => c_ite t a b) (fun c _ f o => c_fld c f o) (fun _ _ o i => c_ix o i) (fun _ _ _ o l h => c_sl o l h) (fun _ es => c_tup es.1) (fun _ es => c_lst es.1) (fun t => c_dct0 t) (fun j _ es => c_cal j es.1) (fun c j _ es => c_mk c j es.1) (fun c j _ m _ o es => c_mth c j m o es.1) (fun b _ es => c_bi b es.1) (fun b _ _ o es => c_bm b o es.1) (fun own tg _ _ _ it ifs elt => c_lc own tg it ifs.1 elt) (fun _ _ a b => c_lrg a b) (fun ks _ es => c_dctK ks es) (fun js i _ es => c_calV js i es.1) (fun _ _ a b => c_dget1 a b) (fun _ _ _ a b c => c_dget2 a b c) (fun _ _ _ a b c => c_dpop2 a b c) (fun _ a => c_rev a) (fun _ _ a b => c_join a b) (fun j n ks pm _ _ a b => c_calK j n ks pm a.1 b.1) (fun c j _ m n ks pm _ _ o a b => c_mthK c j m n ks pm o a.1 b.1) (fun _ _ a b => c_dct1 a b) c_nilS (fun _ _ a b => c_consS a b) c_no (fun _ a => c_so a) (fun _ a => c_iex a) (fun _ a => c_irng1 a) (fun _ _ a b => c_irng2 a b) (fun _ a => c_ienum a) t
theorem sE (t : Ex) : ME A P C t := sAll.1 t
theorem sEs (ts : Exs) : MS A P C ts := (sAll.2.1 ts).1
theorem sO (o : Ox) : MO A P C o := sAll.2.2.1 o
theorem sI (it : Ir) : MI A P C it := sAll.2.2.2 it
end
end DI

set_option Elab.async false
set_option linter.all false
set_option maxRecDepth 100000
set_option maxHeartbeats 4000000
/-! Statements by what the language says: one lemma a construct. -/
namespace DI
open L2 PySem PySem.Spec PyProof.Rows

def PostS (A : Ad) (E : XK) (m : List Addr) (H : Hp) (o : OutS) (D : Ends) : Prop :=
  match o with
  | .nx σD S' => ∀ m' H' σ', Ext A m H m' H' → Rep A m' S' H' → RepS A m' H' σD σ' → D.nx σ' H'
  | .bk σD S' => ∀ m' H' σ', Ext A m H m' H' → Rep A m' S' H' → RepS A m' H' σD σ' → D.bk σ' H'
  | .ct σD S' => ∀ m' H' σ', Ext A m H m' H' → Rep A m' S' H' → RepS A m' H' σD σ' → D.ct σ' H'
  | .rt d S' => ∀ m' H' v, Ext A m H m' H' → Rep A m' S' H' → RepD A m' H' d v → D.rt v H'
  | .err c fs _ S' => ∀ m' H' dd, Ext A m H m' H' → Rep A m' S' H' → RepX A m' H' fs dd → E (.ref (A.cl c)) dd H'
  | .bad => False
def tS (A : Ad) (E : XK) (f : Sl → Sto → OutS) : TS := fun D σ H => ∃ m S σD, Rep A m S H ∧ RepS A m H σD σ ∧ PostS A E m H (f σD S) D
section
variable {A : Ad} {E : XK} {m m' : List Addr} {H H' : Hp} {De : Ends}
theorem PostS.base {o : OutS} (p : PostS A E m H o De) (e : Ext A m H m' H') : PostS A E m' H' o De := by
  cases o <;> first | exact p | exact fun m2 H2 b e2 r x => p m2 H2 b (e.trans e2) r x
theorem PostS.thn {α β : Type} {R : List Addr → Hp → α → β → Prop} {o : Out α} {σD : Sl} {f : α → Sto → OutS} (p : PostS A E m H (o.thn σD f) De) :
    Post A E R m H o (fun b H1 => ∃ m1 S1 a, Ext A m H m1 H1 ∧ Rep A m1 S1 H1 ∧ R m1 H1 a b ∧ PostS A E m1 H1 (f a S1) De) := by
  cases o with
  | ok a S => exact fun m1 H1 b e r x => ⟨m1, S, a, e, r, x, PostS.base (o := f a S) p e⟩
  | err c fs S => exact p
  | bad => exact p
theorem PostS.tst {o : Out D} {σD : Sl} {f : Bool → Sto → OutS} (p : PostS A E m H ((tstO o).thn σD f) De) :
    Post A E RB m H o (fun b H1 => ∃ m1 S1, Ext A m H m1 H1 ∧ Rep A m1 S1 H1 ∧ PostS A E m1 H1 (f b S1) De) := by
  cases o with
  | ok d S1 =>
    intro m1 H1 x e1 R1 rx
    have e : d = .bl x := rx
    subst e
    exact ⟨m1, S1, e1, R1, PostS.base (o := f x S1) p e1⟩
  | err c fs S1 => exact p
  | bad => exact p
end
section
variable {X : Cx} {A : Ad} {E : XK} {a b c e o i : Expr} {fa fb fc fe fo fi : Sl → Sto → Out D} {pos pos' : Pos} {f g : Sl → Sto → OutS}
theorem ss_nil : PSs X [] (tS A E fun σ S => .nx σ S) := PSsi pss_nil fun D σ H ⟨m, S, σD, R, Rs, p⟩ => p m H σ Ext.refl R Rs
theorem ss_cons {st : Stmt} {sts : List Stmt} (h1 : PS X st (tS A E f)) (h2 : PSs X sts (tS A E g)) : PSs X (st :: sts) (tS A E fun σ S => (f σ S).nxt g) :=
  PSsi (pss_cons h1 h2) fun D σ H ⟨m, S, σD, R, Rs, p⟩ => ⟨m, S, σD, R, Rs, by
    revert p
    dsimp only
    cases f σD S with
    | nx σ1 S1 => exact fun p m1 H1 σ' e1 R1 Rs1 => ⟨m1, S1, σ1, R1, Rs1, PostS.base (o := g σ1 S1) p e1⟩
    | rt d S1 => exact fun p => p
    | bk d S1 => exact fun p => p
    | ct d S1 => exact fun p => p
    | err c fs d S1 => exact fun p => p
    | bad => exact fun p => p⟩
theorem ss_set {x : Str} {k : Nat} (he : PS X (.Assign [.Name x pos'] e pos) (tAsg (tE A E fe) (gName k))) : PS X (.Assign [.Name x pos'] e pos) (tS A E fun σ S => (fe σ S).thn σ fun d S => .nx (σ.set k (some d)) S) :=
  PSi he fun D σ H ⟨m, S, σD, R, Rs, p⟩ => ⟨m, S, σD, R, Rs, p.thn.mono fun x H1 ⟨m1, S1, d, e1, R1, rx, p1⟩ => p1 m1 H1 _ Ext.refl R1 ((Rs.mono e1).set rx k)⟩
theorem ss_setT {t : Expr} {is : List Nat} (hK : A.K = X.K) (he : PE X e (tE A E fe)) (hg : PG X t (gOf X.K (.tp is))) (hs : swapsWithSole [t] e pos.line X.env = pure false) (hw : swappedStores [t] e X.env = pure none)
    (h1 : (assignEach [t] X.env).map (·.2) = [assign t X.env]) :
    PS X (.Assign [t] e pos) (tS A E fun σ S => (fe σ S).thn σ fun d S => match setTg (.tp is) d σ with | some σ' => .nx σ' S | none => .bad) :=
  PSi (ps_asg he hg hs hw h1) fun D σ H ⟨m, S, σD, R, Rs, p⟩ => ⟨m, S, σD, R, Rs, p.thn.mono fun x H1 ⟨m1, S1, d, e1, R1, rx, p1⟩ => by
    cases hs : setTg (.tp is) d σD with
    | none => rw [hs] at p1; exact p1.elim
    | some σ' =>
      rw [hs] at p1
      exact gOf_in hK (fun _ => True) _ hs rx (Rs.mono e1) (fun _ _ _ _ _ => trivial) trivial fun σ2 Rs2 _ => p1 m1 H1 σ2 Ext.refl R1 Rs2⟩
theorem ss_par {x y : Str} {i j : Nat} {px py pt pt2 : Pos} {kt k2 : Nat} (hc : X.calm = true) (hN : X.N.Nodup) (hi : X.N[i]? = some x) (hj : X.N[j]? = some y) (hij : i ≠ j)
    (hx : X.env.scope.names.lookup x = some .local) (hy : X.env.scope.names.lookup y = some .local) (ha : PE X a (tE A E fa)) (hb : PE X b (tE A E fb)) (s1 : starEach [a, b] X.env = (false, eval a X.env) :: starEach [b] X.env) (s2 : starEach [b] X.env = (false, eval b X.env) :: starEach [] X.env)
    (hw : swappedStores [.Tuple [.Name x px, .Name y py] kt pt] (.Tuple [a, b] k2 pt2) X.env = pure (some [x, y])) :
    PS X (.Assign [.Tuple [.Name x px, .Name y py] kt pt] (.Tuple [a, b] k2 pt2) pos) (tS A E fun σ S => (fa σ S).thn σ fun x S => (fb σ S).thn σ fun y S => .nx ((σ.set i (some x)).set j (some y)) S) :=
  PSi (ps_par hc hN hi hj hij hx hy (pa_cons ha (pa_cons hb pa_nil s2) s1) hw) fun D σ H ⟨m, S, σD, R, Rs, p⟩ =>
    ⟨m, S, σD, R, Rs, p.thn.mono fun x H1 ⟨m1, S1, d, e1, R1, rx, p1⟩ => ⟨m1, S1, σD, R1, Rs.mono e1, p1.thn.mono fun y H2 ⟨m2, S2, d2, e2, R2, ry, p2⟩ =>
      ⟨x, y, rfl, p2 m2 H2 _ Ext.refl R2 (((Rs.mono (e1.trans e2)).set (rx.mono e2) i).set ry j)⟩⟩⟩
theorem ss_fld {cI : Nat} {n : Str} (cl : Cls X.K (A.cl cI)) (na : NoAttr X.K (A.cl cI) n) (ho : PE X o (tE A E fo)) (he : PE X e (tE A E fe)) (hs : swapsWith e (some (.Attribute o n pos')) pos.line X.env = pure false) :
    PS X (.Assign [.Attribute o n pos'] e pos) (tS A E fun σ S => (fe σ S).thn σ fun d S => (fo σ S).thn σ fun x S => match putSem x cI n d S with | some S' => .nx σ S' | none => .bad) :=
  PSi (ps_fld ho he hs) fun D σ H ⟨m, S, σD, R, Rs, p⟩ => ⟨m, S, σD, R, Rs, p.thn.mono fun y H1 ⟨m1, S1, d, e1, R1, ry, p1⟩ => ⟨m1, S1, σD, R1, Rs.mono e1, p1.thn.mono fun x H2 ⟨m2, S2, dx, e2, R2, rx, p2⟩ => by
    cases hc : putSem dx cI n d S2 with
    | none => rw [hc] at p2; exact p2.elim
    | some S' =>
      rw [hc] at p2
      cases rx with
      | @loc i ad ei =>
        simp only [putSem] at hc
        split at hc
        · rename_i c' fs hx
          split at hc
          · rename_i hcc
            obtain ⟨rfl, hl⟩ := hcc
            cases hc
            obtain ⟨a1, dx, ws, m1', g1, l1⟩ := R2.ins hx
            rw [ei] at m1'; cases m1'
            have ex : Ext A m2 H2 m2 (upd H2 ad (.ins (A.cl c') dx (putF n y ws))) := Ext.write g1 (fun _ z => by cases z) fun _ _ z => by cases z
            have R' := R2.write (c := .ins c' (putA n d fs)) ei ex (.ins upd_same (RepK.mono ex (RepK.putA (ry.mono e2) l1)))
            exact ⟨_, _, dx, ws, rfl, g1, cl, na, by rw [RepK.length l1]; exact hl, p2 m2 _ σ ex R' ((Rs.mono (e1.trans e2)).mono ex)⟩
          · cases hc
        · cases hc
      | _ => cases hc⟩⟩
theorem assign_sub {o i : Expr} {pos : Pos} {env : Env} (h : notSlice i = true) : ∀ v, assign (.Subscript o i pos) env v = (do
      let ov ← holding [v] (eval o env)
      let iv ← holding [v, ov] (eval i env)
      standAt pos
      holding [v, ov, iv] (setItem ov iv v)
      release [v, ov, iv] []) := by
  intro v
  cases i <;> first | rfl | cases h
theorem ss_sub (hn : notSlice i = true) (hu : X.A.units + 1 < cLine) (ho : PE X o (tE A E fo)) (hi : PE X i (tE A E fi)) (he : PE X e (tE A E fe)) (hs : swapsWithSole [.Subscript o i pos'] e pos.line X.env = pure false) (hw : swappedStores [.Subscript o i pos'] e X.env = pure none) :
    PS X (.Assign [.Subscript o i pos'] e pos) (tS A E fun σ S => (fe σ S).thn σ fun d S => (fo σ S).thn σ fun x S => (fi σ S).thn σ fun y S => match setSem x y d S with | some S' => .nx σ S' | none => .bad) :=
  PSi (ps_asg he (pg_sub ho hi (seti_ok (A := A) hu) (assign_sub hn)) hs hw) fun D σ H ⟨m, S, σD, R, Rs, p⟩ => ⟨m, S, σD, R, Rs, p.thn.mono fun d H1 ⟨m1, S1, dd, e1, R1, rd, p1⟩ =>
    ⟨m1, S1, σD, R1, Rs.mono e1, p1.thn.mono fun x H2 ⟨m2, S2, dx, e2, R2, rx, p2⟩ => ⟨m2, S2, σD, R2, Rs.mono (e1.trans e2), p2.thn.mono fun y H3 ⟨m3, S3, dy, e3, R3, ry, p3⟩ => by
      refine ⟨m3, S3, dx, dy, dd, R3, rx.mono e3, ry, rd.mono (e2.trans e3), ?_⟩
      cases hc : setSem dx dy dd S3 with
      | none => rw [hc] at p3; exact p3.elim
      | some S' =>
        rw [hc] at p3
        exact fun m4 H4 e4 R4 => p3 m4 H4 σ e4 R4 (Rs.mono (((e1.trans e2).trans e3).trans e4))⟩⟩⟩
theorem ss_aug {x : Str} {k : Nat} {op : Operator} {h : Int → Int → Int} (hN : X.N.Nodup) (hi : X.N[k]? = some x) (hx : Loc X.env.scope x) (he : PE X e (tE A E fe)) (ho : PIp X op (ipI h)) (hf : X.fn x = true ∨ X.env.scope.names.lookup x = some .local)
    {F : D → D → Sl → Sto → OutS} (hF : ∀ x y σ S, (∃ a b, x = .int a ∧ y = .int b ∧ F x y σ S = .nx (σ.set k (some (.int (h a b)))) S) ∨ F x y σ S = .bad) :
    PS X (.AugAssign (.Name x pos') op e pos) (tS A E fun σ S => match σ[k]? with
      | some (some x) => (fe σ S).thn σ fun y S => F x y σ S
      | _ => .bad) :=
  PSi (ps_aug hN hi hx he ho hf) fun D σ H ⟨m, S, σD, R, Rs, p⟩ => by
    dsimp only at p
    split at p
    · rename_i d hd
      obtain ⟨v, h1, h2⟩ := Rs.2 k d hd
      refine ⟨v, h1, m, S, σD, R, Rs, p.thn.mono fun y H1 ⟨m1, S1, dy, e1, R1, ry, p1⟩ => ?_⟩
      rcases hF d dy σD S1 with ⟨a, b, rfl, rfl, z⟩ | z
      · rw [z] at p1
        cases h2; cases ry
        exact ⟨a, b, rfl, rfl, p1 m1 H1 _ Ext.refl R1 ((Rs.mono e1).set (.int _) k)⟩
      · rw [z] at p1; exact p1.elim
    · exact p.elim
theorem ss_exp (he : PE X e (tE A E fe)) (hs : swapsWith e none pos.line X.env = pure false) : PS X (.Expr e pos) (tS A E fun σ S => (fe σ S).thn σ fun _ S => .nx σ S) :=
  PSi (ps_expr he hs) fun D σ H ⟨m, S, σD, R, Rs, p⟩ => ⟨m, S, σD, R, Rs, p.thn.mono fun x H1 ⟨m1, S1, d, e1, R1, rx, p1⟩ => p1 m1 H1 σ Ext.refl R1 (Rs.mono e1)⟩
theorem ss_ret (he : PE X e (tE A E fe)) : PS X (.Return (some e) pos) (tS A E fun σ S => (fe σ S).thn σ fun d S => .rt d S) :=
  PSi (ps_ret he) fun D σ H ⟨m, S, σD, R, Rs, p⟩ => ⟨m, S, σD, R, Rs, p.thn.mono fun x H1 ⟨m1, S1, d, e1, R1, rx, p1⟩ => p1 m1 H1 x Ext.refl R1 rx⟩
theorem ss_retN : PS X (.Return none pos) (tS A E fun _ S => .rt .non S) := PSi ps_retN fun D σ H ⟨m, S, σD, R, Rs, p⟩ => p m H .non Ext.refl R .non
theorem ss_pass : PS X (.Pass pos) (tS A E fun σ S => .nx σ S) := PSi ps_pass fun D σ H ⟨m, S, σD, R, Rs, p⟩ => p m H σ Ext.refl R Rs
theorem ss_brk : PS X (.Break pos) (tS A E fun σ S => .bk σ S) := PSi ps_break fun D σ H ⟨m, S, σD, R, Rs, p⟩ => p m H σ Ext.refl R Rs
theorem ss_cnt : PS X (.Continue pos) (tS A E fun σ S => .ct σ S) := PSi ps_continue fun D σ H ⟨m, S, σD, R, Rs, p⟩ => p m H σ Ext.refl R Rs
theorem ss_ite {sa sb : List Stmt} (hc : PT X c (tT A E fc)) (ha : PSs X sa (tS A E f)) (hb : PSs X sb (tS A E g)) :
    PS X (.If c sa sb pos) (tS A E fun σ S => (tstO (fc σ S)).thn σ fun t S => if t = true then f σ S else g σ S) :=
  PSi (ps_if hc ha hb) fun D σ H ⟨m, S, σD, R, Rs, p⟩ => ⟨m, S, σD, R, Rs, p.tst.mono fun x H1 ⟨m1, S1, e1, R1, p1⟩ => by
    cases x with
    | true => exact iteT ⟨m1, S1, σD, R1, Rs.mono e1, p1⟩
    | false => exact iteF ⟨m1, S1, σD, R1, Rs.mono e1, p1⟩⟩
theorem ss_whl {sb : List Stmt} (hp : PassesOwn (model X.prog X.w) X.A X.env X.xe) (hc : PT X c (tT A E fc)) (hb : PSs X sb (tS A E f)) :
    PS X (.While c sb [] pos) (tS A E fun σ S => whl (fun σ S => tstO (fc σ S)) f σ S) :=
  PSi (ps_while hp hc hb) fun D σ H ⟨m, S, σD, R, Rs, p⟩ => by
    dsimp only at p
    unfold whl at p
    split at p
    · rename_i hn
      refine ⟨fun k σ H => ∃ m S σD, Rep A m S H ∧ RepS A m H σD σ ∧ PostS A E m H (whlN (fun σ S => tstO (fc σ S)) f k σD S) D, ⟨_, m, S, σD, R, Rs, p⟩, ?_⟩
      rintro k σ1 H1 ⟨m1, S1, σ1D, R1, Rs1, p1⟩
      cases k with
      | zero => exact p1.elim
      | succ k =>
        unfold whlN at p1
        refine ⟨m1, S1, σ1D, R1, Rs1, p1.tst.mono fun x H2 ⟨m2, S2, e2, R2, p2⟩ => ?_⟩
        cases x with
        | false => exact iteF (p2 m2 H2 σ1 Ext.refl R2 (Rs1.mono e2))
        | true =>
          refine iteT ⟨_, fun σ' H' hN => ⟨k, Nat.lt_succ_self k, hN⟩, m2, S2, σ1D, R2, Rs1.mono e2, ?_⟩
          have p3 : PostS A E m2 H2 (match f σ1D S2 with
            | .nx σ' S' => whlN (fun σ S => tstO (fc σ S)) f k σ' S'
            | .ct σ' S' => whlN (fun σ S => tstO (fc σ S)) f k σ' S'
            | .bk σ' S' => .nx σ' S'
            | x => x) D := p2
          revert p3
          cases f σ1D S2 with
          | nx σ3 S3 => exact fun p3 m4 H4 σ4 e4 R4 Rs4 => ⟨m4, S3, σ3, R4, Rs4, PostS.base p3 e4⟩
          | ct σ3 S3 => exact fun p3 m4 H4 σ4 e4 R4 Rs4 => ⟨m4, S3, σ3, R4, Rs4, PostS.base p3 e4⟩
          | bk σ3 S3 => exact fun p3 => p3
          | rt d S3 => exact fun p3 => p3
          | err c fs σ3 S3 => exact fun p3 => p3
          | bad => exact fun p3 => p3
    · exact p.elim
theorem ss_for {tg : Expr} {t : Tg} {it : Expr} {sb : List Stmt} {fi : Sl → Sto → Out Walk} (hK : A.K = X.K) (hp : PassesOwn (model X.prog X.w) X.A X.env X.xe) (hc : X.calm = true) (hi : PI X tg it (tI A E fi)) (hg : PG X tg (gOf X.K t)) (hb : PSs X sb (tS A E f))
    (hs : ∀ x, foldedSetIterable it X.env x = pure x) : PS X (.For tg it sb [] pos) (tS A E fun σ S => (fi σ S).thn σ fun w S => forN w t f (wlen w S) 0 σ S) :=
  PSi (ps_for hp hc hi hg hb hs) fun D σ H ⟨m, S, σD, R, Rs, p⟩ => ⟨m, S, σD, R, Rs, p.thn.mono fun J H1 ⟨m1, S1, w, e1, R1, rj, p1⟩ => by
    refine ⟨fun i k σ H => ∃ m S σD, Ext A m1 H1 m H ∧ Rep A m S H ∧ RepS A m H σD σ ∧ PostS A E m H (forN w t f k i σD S) D, ⟨wlen w S1, m1, S1, σD, Ext.refl, R1, Rs.mono e1, p1⟩, ?_⟩
    rintro i k σ2 H2 ⟨m2, S2, σ2D, e2, R2, Rs2, p2⟩
    have z := rj i m2 S2 H2 e2 R2
    cases hw : wgo w i S2 with
    | none =>
      exfalso
      cases k with
      | zero => simp only [forN, hw] at p2; exact p2
      | succ k => simp only [forN, hw] at p2; exact p2
    | some o =>
      rw [hw] at z
      cases o with
      | none =>
        refine .inl ⟨z, ?_⟩
        cases k with
        | zero => simp only [forN, hw] at p2; exact p2 m2 H2 σ2 Ext.refl R2 Rs2
        | succ k => simp only [forN, hw] at p2; exact p2 m2 H2 σ2 Ext.refl R2 Rs2
      | some d =>
        cases k with
        | zero => simp only [forN, hw] at p2; exact p2.elim
        | succ k =>
          obtain ⟨z1, z2⟩ := z
          refine .inr ⟨z1, _, fun σ' H' hN => ⟨k, Nat.lt_succ_self k, hN⟩, fun x H3 hy => ?_⟩
          obtain ⟨e3, R3, rx⟩ := z2 x H3 hy
          have p3 := PostS.base p2 e3
          simp only [forN, hw] at p3
          cases hs : setTg t d σ2D with
          | none => rw [hs] at p3; exact p3.elim
          | some σ' =>
            rw [hs] at p3
            dsimp only at p3
            refine gOf_in hK (fun _ => True) _ hs rx (Rs2.mono e3) (fun _ _ _ _ _ => trivial) trivial fun σ4 Rs4 _ => ?_
            refine ⟨m2, S2, σ', R3, Rs4, ?_⟩
            revert p3
            cases f σ' S2 with
            | nx σ5 S5 => exact fun p3 m6 H6 σ6 e6 R6 Rs6 => ⟨m6, S5, σ5, (e2.trans e3).trans e6, R6, Rs6, PostS.base p3 e6⟩
            | ct σ5 S5 => exact fun p3 m6 H6 σ6 e6 R6 Rs6 => ⟨m6, S5, σ5, (e2.trans e3).trans e6, R6, Rs6, PostS.base p3 e6⟩
            | bk σ5 S5 => exact fun p3 => p3
            | rt d S5 => exact fun p3 => p3
            | err c fs σ5 S5 => exact fun p3 => p3
            | bad => exact fun p3 => p3⟩
theorem ss_rai {c : Nat} {x ms : Str} {j : Nat} {p p2 p3 pos2 : Pos} (hc : X.calm = true) (tk : Takes X (fun cls d _ H => E cls d H)) (q : PySem.W.excIn X.K (A.cl c) [.type "ValueError", .type "Exception", .type "BaseException", .type "object"] "ValueError.__new__" = true)
    (gC : X.mg x = some (.ref (A.cl c))) (kC : PySem.W.keepIn X.K (.ref (A.cl c)) = true) (r : Raises X (.ref (A.cl c))) (hg : Gl X x) (hdb : (x == ("__debug__" : Str)) = false) :
    PS X (.Raise (some (.Call (.Name x p) [.Constant (.str ms) j p2] [] p3)) none pos2) (tS A E fun σ S => .err c none σ S) :=
  PSi (ps_raise hc tk (pmk_own PySem.F.excBase_ValueError q gC kC r hg hdb)) fun D σ H ⟨m, S, σD, R, Rs, p⟩ => p m H none Ext.refl R .no
/-! two subscripts stored at once -/
theorem swaps_subs {a i b j : Expr} {p1 p2 p3 : Pos} {kt : Nat} {v : Expr} {env : Env} : swappedStores [.Tuple [.Subscript a i p1, .Subscript b j p2] kt p3] v env = pure none := by
  cases v <;> first | rfl | skip
  rename_i vs k2 p4
  unfold swappedStores
  dsimp only
  split
  · rfl
  · split
    · rfl
    · rfl
theorem ss_sub2 {o1 i1 o2 i2 e1 e2 : Expr} {p1 p2 pt pv : Pos} {kt kv : Nat} {f1 g1 f2 g2 h1 h2 : Sl → Sto → Out D} (hK : A.K = X.K) (hc : X.calm = true) (hu : X.A.units + 1 < cLine) (n1 : notSlice i1 = true) (n2 : notSlice i2 = true)
    (ho1 : PE X o1 (tE A E f1)) (hi1 : PE X i1 (tE A E g1)) (ho2 : PE X o2 (tE A E f2)) (hi2 : PE X i2 (tE A E g2)) (he1 : PE X e1 (tE A E h1)) (he2 : PE X e2 (tE A E h2))
    (s1 : starEach [e1, e2] X.env = (false, eval e1 X.env) :: starEach [e2] X.env) (s2 : starEach [e2] X.env = (false, eval e2 X.env) :: starEach [] X.env) :
    PS X (.Assign [.Tuple [.Subscript o1 i1 p1, .Subscript o2 i2 p2] kt pt] (.Tuple [e1, e2] kv pv) pos) (tS A E fun σ S => (h1 σ S).thn σ fun d1 S => (h2 σ S).thn σ fun d2 S => (f1 σ S).thn σ fun x1 S => (g1 σ S).thn σ fun y1 S => match setSem x1 y1 d1 S with
      | some S => (f2 σ S).thn σ fun x2 S => (g2 σ S).thn σ fun y2 S => match setSem x2 y2 d2 S with | some S => .nx σ S | none => .bad
      | none => .bad) := by
  refine PSi (ps_asg (pe_tup (pa_cons he1 (pa_cons he2 pa_nil s2) s1)) (pg_tup hc (pgs_cons (pg_sub ho1 hi1 (seti_ok (A := A) hu) (assign_sub n1)) (pgs_cons (pg_sub ho2 hi2 (seti_ok (A := A) hu) (assign_sub n2)) pgs_nil))) rfl swaps_subs) fun D σ H ⟨m, S, σD, R, Rs, p⟩ => ?_
  refine ⟨m, S, σD, R, Rs, p.thn.mono fun v1 H1 ⟨m1, S1, d1, e1, R1, r1, p1⟩ => ⟨m1, S1, σD, R1, Rs.mono e1, p1.thn.mono fun v2 H2 ⟨m2, S2, d2, e2, R2, r2, p2⟩ => ⟨by show 2 ≤ sizeLine; decide, fun q hq => ?_⟩⟩⟩
  obtain ⟨R3, e3, r3⟩ := newTup R2 (ds := [d1, d2]) (vs := [v1, v2]) (.cons (r1.mono e2) (.cons r2 .nil)) hq
  have Rs3 := Rs.mono ((e1.trans e2).trans e3)
  refine ⟨q, [v1, v2], rfl, .inl (.inl upd_same), rfl, v1, [v2], rfl, m2, S2, σD, R3, Rs3, (PostS.base p2 e3).thn.mono fun x H4 ⟨m4, S4, dx, e4, R4, rx, p4⟩ => ⟨m4, S4, σD, R4, Rs3.mono e4, p4.thn.mono fun y H5 ⟨m5, S5, dy, e5, R5, ry, p5⟩ => ?_⟩⟩
  refine ⟨m5, S5, dx, dy, d1, R5, rx.mono e5, ry, r1.mono (((e2.trans e3).trans e4).trans e5), ?_⟩
  cases hs : setSem dx dy d1 S5 with
  | none => rw [hs] at p5; exact p5.elim
  | some S6 =>
    rw [hs] at p5
    intro m6 H6 e6 R6
    have Rs6 := Rs3.mono ((e4.trans e5).trans e6)
    refine ⟨v2, [], rfl, m6, S6, σD, R6, Rs6, (PostS.base p5 e6).thn.mono fun x2 H7 ⟨m7, S7, dx2, e7, R7, rx2, p7⟩ => ⟨m7, S7, σD, R7, Rs6.mono e7, p7.thn.mono fun y2 H8 ⟨m8, S8, dy2, e8, R8, ry2, p8⟩ => ?_⟩⟩
    refine ⟨m8, S8, dx2, dy2, d2, R8, rx2.mono e8, ry2, r2.mono (((((e3.trans e4).trans e5).trans e6).trans e7).trans e8), ?_⟩
    cases hs2 : setSem dx2 dy2 d2 S8 with
    | none => rw [hs2] at p8; exact p8.elim
    | some S9 =>
      rw [hs2] at p8
      exact fun m9 H9 e9 R9 => ⟨rfl, p8 m9 H9 σ e9 R9 (Rs6.mono ((e7.trans e8).trans e9))⟩
theorem ss_par3 {c : Expr} {fc : Sl → Sto → Out D} {x y z : Str} {i j l : Nat} {px py pz pt pt2 : Pos} {kt k2 : Nat} (hc : X.calm = true) (hN : X.N.Nodup) (hi : X.N[i]? = some x) (hj : X.N[j]? = some y) (hl : X.N[l]? = some z) (hij : i ≠ j) (hil : i ≠ l) (hjl : j ≠ l)
    (hx : X.env.scope.names.lookup x = some .local) (hy : X.env.scope.names.lookup y = some .local) (hz : X.env.scope.names.lookup z = some .local) (ha : PE X a (tE A E fa)) (hb : PE X b (tE A E fb)) (hcc : PE X c (tE A E fc))
    (s1 : starEach [a, b, c] X.env = (false, eval a X.env) :: starEach [b, c] X.env) (s2 : starEach [b, c] X.env = (false, eval b X.env) :: starEach [c] X.env) (s3 : starEach [c] X.env = (false, eval c X.env) :: starEach [] X.env)
    (hw : swappedStores [.Tuple [.Name x px, .Name y py, .Name z pz] kt pt] (.Tuple [a, b, c] k2 pt2) X.env = pure (some [x, y, z])) :
    PS X (.Assign [.Tuple [.Name x px, .Name y py, .Name z pz] kt pt] (.Tuple [a, b, c] k2 pt2) pos) (tS A E fun σ S => (fa σ S).thn σ fun x S => (fb σ S).thn σ fun y S => (fc σ S).thn σ fun z S => .nx (((σ.set i (some x)).set j (some y)).set l (some z)) S) :=
  PSi (ps_par3 hc hN hi hj hl hij hil hjl hx hy hz (pa_cons ha (pa_cons hb (pa_cons hcc pa_nil s3) s2) s1) hw) fun D σ H ⟨m, S, σD, R, Rs, p⟩ =>
    ⟨m, S, σD, R, Rs, p.thn.mono fun x H1 ⟨m1, S1, d, e1, R1, rx, p1⟩ => ⟨m1, S1, σD, R1, Rs.mono e1, p1.thn.mono fun y H2 ⟨m2, S2, d2, e2, R2, ry, p2⟩ =>
      ⟨m2, S2, σD, R2, Rs.mono (e1.trans e2), p2.thn.mono fun z H3 ⟨m3, S3, d3, e3, R3, rz, p3⟩ =>
      ⟨x, y, z, rfl, p3 m3 H3 _ Ext.refl R3 ((((Rs.mono ((e1.trans e2).trans e3)).set (rx.mono (e2.trans e3)) i).set (ry.mono e3) j).set rz l)⟩⟩⟩⟩
/-! three subscripts stored at once -/
theorem swaps_subs3 {a i b j c l : Expr} {p1 p2 p3 p4 : Pos} {kt : Nat} {v : Expr} {env : Env} : swappedStores [.Tuple [.Subscript a i p1, .Subscript b j p2, .Subscript c l p4] kt p3] v env = pure none := by
  cases v <;> first | rfl | skip
  rename_i vs k2 p4
  unfold swappedStores
  dsimp only
  split
  · rfl
  · split
    · rfl
    · rfl
theorem ss_sub3 {o1 i1 o2 i2 o3 i3 e1 e2 e3 : Expr} {p1 p2 p3 pt pv : Pos} {kt kv : Nat} {f1 g1 f2 g2 f3 g3 h1 h2 h3 : Sl → Sto → Out D} (hK : A.K = X.K) (hc : X.calm = true) (hu : X.A.units + 1 < cLine) (n1 : notSlice i1 = true) (n2 : notSlice i2 = true) (n3 : notSlice i3 = true)
    (ho1 : PE X o1 (tE A E f1)) (hi1 : PE X i1 (tE A E g1)) (ho2 : PE X o2 (tE A E f2)) (hi2 : PE X i2 (tE A E g2)) (ho3 : PE X o3 (tE A E f3)) (hi3 : PE X i3 (tE A E g3)) (he1 : PE X e1 (tE A E h1)) (he2 : PE X e2 (tE A E h2)) (he3 : PE X e3 (tE A E h3))
    (s1 : starEach [e1, e2, e3] X.env = (false, eval e1 X.env) :: starEach [e2, e3] X.env) (s2 : starEach [e2, e3] X.env = (false, eval e2 X.env) :: starEach [e3] X.env) (s3 : starEach [e3] X.env = (false, eval e3 X.env) :: starEach [] X.env) :
    PS X (.Assign [.Tuple [.Subscript o1 i1 p1, .Subscript o2 i2 p2, .Subscript o3 i3 p3] kt pt] (.Tuple [e1, e2, e3] kv pv) pos) (tS A E fun σ S => (h1 σ S).thn σ fun d1 S => (h2 σ S).thn σ fun d2 S => (h3 σ S).thn σ fun d3 S => (f1 σ S).thn σ fun x1 S => (g1 σ S).thn σ fun y1 S => match setSem x1 y1 d1 S with
      | some S => (f2 σ S).thn σ fun x2 S => (g2 σ S).thn σ fun y2 S => match setSem x2 y2 d2 S with
        | some S => (f3 σ S).thn σ fun x3 S => (g3 σ S).thn σ fun y3 S => match setSem x3 y3 d3 S with | some S => .nx σ S | none => .bad
        | none => .bad
      | none => .bad) := by
  refine PSi (ps_asg (pe_tup (pa_cons he1 (pa_cons he2 (pa_cons he3 pa_nil s3) s2) s1)) (pg_tup hc (pgs_cons (pg_sub ho1 hi1 (seti_ok (A := A) hu) (assign_sub n1)) (pgs_cons (pg_sub ho2 hi2 (seti_ok (A := A) hu) (assign_sub n2)) (pgs_cons (pg_sub ho3 hi3 (seti_ok (A := A) hu) (assign_sub n3)) pgs_nil)))) rfl swaps_subs3) fun D σ H ⟨m, S, σD, R, Rs, p⟩ => ?_
  refine ⟨m, S, σD, R, Rs, p.thn.mono fun v1 H1 ⟨m1, S1, d1, x1, R1, r1, p1⟩ => ⟨m1, S1, σD, R1, Rs.mono x1, p1.thn.mono fun v2 H2 ⟨m2, S2, d2, x2, R2, r2, p2⟩ => ⟨m2, S2, σD, R2, Rs.mono (x1.trans x2), p2.thn.mono fun v3 H3 ⟨m3, S3, d3, x3, R3, r3, p3⟩ => ⟨by show 3 ≤ sizeLine; decide, fun q hq => ?_⟩⟩⟩⟩
  obtain ⟨R4, x4, r4⟩ := newTup R3 (ds := [d1, d2, d3]) (vs := [v1, v2, v3]) (.cons (r1.mono (x2.trans x3)) (.cons (r2.mono x3) (.cons r3 .nil))) hq
  have a1 := r1.mono ((x2.trans x3).trans x4)
  have a2 := r2.mono (x3.trans x4)
  have a3 := r3.mono x4
  have Rs4 := Rs.mono (((x1.trans x2).trans x3).trans x4)
  refine ⟨q, [v1, v2, v3], rfl, .inl (.inl upd_same), rfl, v1, [v2, v3], rfl, m3, S3, σD, R4, Rs4, (PostS.base p3 x4).thn.mono fun x H5 ⟨m5, S5, dx, x5, R5, rx, p5⟩ => ⟨m5, S5, σD, R5, Rs4.mono x5, p5.thn.mono fun y H6 ⟨m6, S6, dy, x6, R6, ry, p6⟩ => ?_⟩⟩
  refine ⟨m6, S6, dx, dy, d1, R6, rx.mono x6, ry, a1.mono (x5.trans x6), ?_⟩
  cases hs : setSem dx dy d1 S6 with
  | none => rw [hs] at p6; exact p6.elim
  | some S7 =>
    rw [hs] at p6
    intro m7 H7 x7 R7
    have b2 := a2.mono ((x5.trans x6).trans x7)
    have b3 := a3.mono ((x5.trans x6).trans x7)
    have Rs7 := Rs4.mono ((x5.trans x6).trans x7)
    refine ⟨v2, [v3], rfl, m7, S7, σD, R7, Rs7, (PostS.base p6 x7).thn.mono fun xx H8 ⟨m8, S8, dx2, x8, R8, rx2, p8⟩ => ⟨m8, S8, σD, R8, Rs7.mono x8, p8.thn.mono fun yy H9 ⟨m9, S9, dy2, x9, R9, ry2, p9⟩ => ?_⟩⟩
    refine ⟨m9, S9, dx2, dy2, d2, R9, rx2.mono x9, ry2, b2.mono (x8.trans x9), ?_⟩
    cases hs2 : setSem dx2 dy2 d2 S9 with
    | none => rw [hs2] at p9; exact p9.elim
    | some S10 =>
      rw [hs2] at p9
      intro m10 H10 x10 R10
      have c3 := b3.mono ((x8.trans x9).trans x10)
      have Rs10 := Rs7.mono ((x8.trans x9).trans x10)
      refine ⟨v3, [], rfl, m10, S10, σD, R10, Rs10, (PostS.base p9 x10).thn.mono fun xx H11 ⟨m11, S11, dx3, x11, R11, rx3, p11⟩ => ⟨m11, S11, σD, R11, Rs10.mono x11, p11.thn.mono fun yy H12 ⟨m12, S12, dy3, x12, R12, ry3, p12⟩ => ?_⟩⟩
      refine ⟨m12, S12, dx3, dy3, d3, R12, rx3.mono x12, ry3, c3.mono (x11.trans x12), ?_⟩
      cases hs3 : setSem dx3 dy3 d3 S12 with
      | none => rw [hs3] at p12; exact p12.elim
      | some S13 =>
        rw [hs3] at p12
        exact fun m14 H14 x14 R14 => ⟨rfl, p12 m14 H14 σ x14 R14 (Rs10.mono ((x11.trans x12).trans x14))⟩
/-! raising an own exception that keeps a value -/
theorem ss_raiF {c : Nat} {x f : Str} {BC fI : Addr} {fd : FuncData} {ps : List Str} {p p3 pos2 : Pos} (hc : X.calm = true) (tk : Takes X (fun cls d _ H => E cls d H)) (T : Xin X.K (A.cl c) BC fI f)
    (F1 : FnOk X.prog X.w X.K X.mg X.base (L2.CX X.prog X.w) 1 fI fd ps (spIni (A.cl c) f)) (hr : Room 2 X.A) (hb : Binds X.K fd ps []) (hg : Gl X x) (hm : X.mg x = some (.ref (A.cl c))) (he : PE X e (tE A E fe)) (hdb : (x == ("__debug__" : Str)) = false)
    (hs : starEach [e] X.env = (false, eval e X.env) :: starEach [] X.env) :
    PS X (.Raise (some (.Call (.Name x p) [e] [] p3)) none pos2) (tS A E fun σ S => (fe σ S).thn σ fun d S => .err c (some [(f, d)]) σ S) :=
  PSi (ps_raise hc tk (pmk_oex T.oex T.ini T.tI F1 hr hb .nil (passes_call tk fun _ _ _ _ h => h.elim) hg hm (pa_cons he pa_nil hs) hdb hs rfl)) fun D σ H ⟨m, S, σD, R, Rs, p⟩ => ⟨m, S, σD, R, Rs, p.thn.mono fun v H1 ⟨m1, S1, d, e1, R1, rv, p1⟩ => by
    refine ⟨by show 1 ≤ 1000; decide, fun a ha => ⟨a, v, rfl, upd_same, fun dx hdx hne => ⟨rfl, dx, [(f, v)], upd_same, ?_, ?_, ?_⟩⟩⟩
    · rw [upd_ne hne]; exact upd_same
    · rw [← hdx, upd_ne hne]
    · have h1 : H1 dx = none := by rw [← hdx, upd_ne hne]
      have eq : upd (del (upd (upd (upd H1 a (exo a (A.cl c) none)) dx (exd dx [(f, v)])) a (exo a (A.cl c) (some dx))) a) dx (.xd [(f, v)]) = upd H1 dx (.xd [(f, v)]) := by
        funext b
        by_cases c1 : b = dx
        · rw [c1, upd_same, upd_same]
        · rw [upd_ne c1, upd_ne c1]
          by_cases c2 : b = a
          · rw [c2, del_same, ha]
          · rw [del_ne c2, upd_ne c2, upd_ne c1, upd_ne c2]
      rw [eq]
      have ex : Ext A m1 H1 m1 (upd H1 dx (.xd [(f, v)])) := Ext.new h1
      exact p1 m1 _ (some dx) ex (R1.new h1) (.so upd_same (.cons ⟨rfl, rv.mono ex⟩ .nil))⟩
/-! try: .. except X as n: return (lit, n.f) -/
theorem takes_len {X : Cx} {W : WX} (t : Takes X W) : Takes X (fun cls d _ H => ∀ σ, σ.length = X.N.length → W cls d σ H) :=
  fun u s' ⟨a, B, sI, pins, σ, H, cls, d, e, I, nb, up, sky, na, os, ag, w⟩ => t u s' ⟨a, B, sI, pins, σ, H, cls, d, e, I, nb, up, sky, na, os, ag, w σ I.len⟩
theorem ss_try1 {c i : Nat} {x n f lit : Str} {BC fI : Addr} {np pos' pr pt pc pa pn2 : Pos} {kt kc : Nat} {body : List Stmt} {fb : Sl → Sto → OutS} (T : Xin X.K (A.cl c) BC fI f) (hs : X.stack = X.env :: X.outer) (hf : X.env.frame = some X.env.locals) (hN : X.N.Nodup) (hi : X.N[i]? = some n)
    (hln : X.env.scope.names.lookup n = some .local) (hg : Gl X x) (hm : X.mg x = some (.ref (A.cl c))) (hdb : (x == ("__debug__" : Str)) = false) (hnd : (n == ("__debug__" : Str)) = false) (hnc : (n == ("__classdict__" : Str)) = false) (tk : Takes X (fun cls d _ H => E cls d H))
    (hb : ∀ (E' : XK) (pn : List (Addr × Obj)) (xe : Value → Shared → Prop), Takes (X.tr pn xe) (fun cls d _ H => E' cls d H) → PassesOwn (model X.prog X.w) X.A X.env xe → PSs (X.tr pn xe) body (tS A E' fb)) :
    PS X (.Try body [.ExceptHandler (some (.Name x np)) (some n) [.Return (some (.Tuple [.Constant (.str lit) kc pc, .Attribute (.Name n pn2) f pa] kt pt)) pr] pos'] [] [] pos) (tS A E fun σ S => match fb σ S with
      | .err c' fs _ S' => if c' = c then (match fs with
        | some l => match l.lookup f with
          | some d => .rt (.tup [.str lit, d]) S'
          | none => .bad
        | none => .bad) else .bad
      | x => x) := by
  refine PSi (ps_try_as (c := .ref (A.cl c)) (tb := fun W => tS A (fun cls d H => ∀ σ, σ.length = X.N.length → W cls d σ H) fb)
    (ts := fun a cls d => tRet (tTup (tCons (tC (.str lit)) (tCons (tXf a cls d (A.cl c) f (tVar i)) tNil)))) hs hf hN hi hln ⟨hg, hdb, .inl hm⟩ tk (fun W pn xe h1 h2 => hb _ pn xe (takes_len h1) h2)
    (fun a oe cls d pn hz hfl => pss_one (ps_ret (pe_tup (pa_cons pe_str (pa_cons (pe_xf T.xf T.no hz hfl (pe_var hi (.inl hln) hnd hnc)) pa_nil)))))) fun D σ H ⟨m, S, σD, R, Rs, p⟩ => ⟨m, S, σD, R, Rs, ?_⟩
  revert p
  dsimp only
  cases fb σD S with
  | nx σ1 S1 => exact fun p => p
  | rt d S1 => exact fun p => p
  | bk σ1 S1 => exact fun p => p
  | ct σ1 S1 => exact fun p => p
  | bad => exact fun p => p
  | err c' fs σ1 S1 =>
    intro p
    dsimp only at p
    split at p
    · rename_i hcc
      subst hcc
      split at p
      · rename_i l
        split at p
        · rename_i d hd
          intro m1 H1 dd e1 R1 rx σ2 hl
          cases rx with
          | @so _ dx ws g1 l1 =>
            refine ⟨true, T.exm, fun _ a ha => ?_, fun h => by cases h⟩
            obtain ⟨d', v, h1, h2, h3⟩ | ⟨h1, _⟩ := l1.lookup (f := f)
            · rw [hd] at h1; cases h1
              have hlt : i < σ2.length := by rw [hl]; exact (List.getElem?_eq_some_iff.mp hi).1
              refine ⟨.ref a, by rw [List.getElem?_set_self hlt], rfl, rfl, dx, ws, v, rfl, g1, h2, by show 2 ≤ sizeLine; decide, fun q hq => ?_⟩
              obtain ⟨R2, e2, r2⟩ := newTup R1 (ds := [.str lit, d]) (vs := [.str lit, v]) (.cons (.str _) (.cons h3 .nil)) hq
              exact p m1 _ _ (e1.trans e2) R2 r2
            · rw [hd] at h1; cases h1
        · exact p.elim
      · exact p.elim
    · exact p.elim
end
end DI

set_option Elab.async false
set_option linter.all false
set_option maxRecDepth 100000
set_option maxHeartbeats 4000000
/-! A walk over a dict's keys: the dict is locked meanwhile. -/
namespace DI
open L2 PySem PySem.Spec PyProof.Rows
/-- what stays of a heap but for locks -/
structure Ext0 (A : Ad) (m : List Addr) (H H' : Hp) : Prop where
  tup : ∀ a xs, SqT A.K H a xs → SqT A.K H' a xs
  rol : ∀ a xs, RoL A.K H a xs → RoL A.K H' a xs
section
variable {A : Ad} {m m' : List Addr} {H H' : Hp}
mutual
theorem RepD.mono0 (e : Ext0 A m H H') : ∀ {d : D} {v : V}, RepD A m H d v → RepD A m H' d v
  | _, _, .non => .non
  | _, _, .bl b => .bl b
  | _, _, .int i => .int i
  | _, _, .str x => .str x
  | _, _, .ty n => .ty n
  | _, _, .tup h l => .tup (e.tup _ _ h) (RepL.mono0 e l)
  | _, _, .rl h l => .rl (e.rol _ _ h) (RepL.mono0 e l)
  | _, _, .loc h => .loc h
  | _, _, .fn j => .fn j
  | _, _, .cl j => .cl j
  | _, _, .rd h g r => .rd h g (RepR.mono0 e r)
theorem RepR.mono0 (e : Ext0 A m H H') : ∀ {a : Addr} {kvs : List (Str × D)}, RepR A m H a kvs → RepR A m H' a kvs
  | _, _, .nil => .nil
  | _, _, .cons h g r t => .cons h g (RepD.mono0 e r) (RepR.mono0 e t)
theorem RepL.mono0 (e : Ext0 A m H H') : ∀ {ds : List D} {vs : List V}, RepL A m H ds vs → RepL A m H' ds vs
  | _, _, .nil => .nil
  | _, _, .cons a b => .cons (RepD.mono0 e a) (RepL.mono0 e b)
end
theorem RepK.mono0 {κ : Type} (e : Ext0 A m H H') : ∀ {kvs : List (κ × D)} {ws : List (κ × V)}, RepK A m H kvs ws → RepK A m H' kvs ws
  | _, _, .nil => .nil
  | _, _, .cons a b => .cons ⟨a.1, a.2.mono0 e⟩ (RepK.mono0 e b)
theorem RepC.mono0 {a : Addr} {c : Cell} (r : RepC A m H a c) (e : Ext0 A m H H') (h : H' a = H a) : RepC A m H' a c := by
  cases r with
  | lst x l => exact .lst (h.trans x) (l.mono0 e)
  | dk x l => exact .dk (h.trans x) (RepK.mono0 e l)
  | dt x l => exact .dt (h.trans x) (RepK.mono0 e l)
  | ins x l => exact .ins (h.trans x) (RepK.mono0 e l)
  | fk x l => exact .fk (h.trans x) (RepK.mono0 e l)
/-- a lock is taken away -/
theorem Ext0.unlock {d : Addr} {od : Obj} {ws : List (Key × V)} (h : H d = some (.frz od (.dK ws))) : Ext0 A m H (upd H d (.dK ws)) where
  tup := fun a xs q => by
    rcases q with (q | ⟨o, q⟩) | q
    · exact .inl (.inl (by rw [upd_ne (fun z => by rw [z, h] at q; cases q)]; exact q))
    · exact .inl (.inr ⟨o, by rw [upd_ne (fun z => by rw [z, h] at q; cases q)]; exact q⟩)
    · exact .inr q
  rol := fun a xs q => by
    rcases q with ⟨o, q⟩ | q
    · exact .inl ⟨o, by rw [upd_ne (fun z => by rw [z, h] at q; cases q)]; exact q⟩
    · exact .inr q
theorem RepS.mono0 {σD : Sl} {σ : L2.St} (h : RepS A m H σD σ) (e : Ext0 A m H H') : RepS A m H' σD σ := ⟨h.1, fun i d x => let ⟨v, a, b⟩ := h.2 i d x; ⟨v, a, b.mono0 e⟩⟩
/-- behind the walk -/
theorem unlock_rep {S S' : Sto} {i : Nat} {d : Addr} {od : Obj} {kvs kvs' : List (Key × D)} {ws : List (Key × V)} (R : Rep A m S H) (hi : m[i]? = some d) (hd : H d = some (.dK ws)) (hk : RepK A m H kvs ws)
    (e : Ext A m (upd H d (.frz od (.dK ws))) m' H') (R' : Rep A m' S' H') (hs : S'[i]? = some (.fk kvs')) :
    H' d = some (.frz od (.dK ws)) ∧ Ext0 A m' H' (upd H' d (.dK ws)) ∧ Ext A m H m' (upd H' d (.dK ws)) ∧ Rep A m' (S'.set i (.dk kvs)) (upd H' d (.dK ws)) := by
  have hl : H' d = some (.frz od (.dK ws)) := e.frz d od _ upd_same
  have e0 : Ext0 A m' H' (upd H' d (.dK ws)) := Ext0.unlock hl
  have ew : Ext A m H m (upd H d (.frz od (.dK ws))) := Ext.write hd (fun _ z => by cases z) fun _ _ z => by cases z
  have ex := ew.trans e
  have hi' : m'[i]? = some d := e.loc i d hi
  have ef : Ext A m H m' (upd H' d (.dK ws)) := ⟨ex.loc, fun a xs q => e0.tup _ _ (ex.tup _ _ q), fun a xs q => e0.rol _ _ (ex.rol _ _ q), fun a o u q => by
    rw [upd_ne (fun z => by rw [z, hd] at q; cases q)]; exact ex.frz a o u q⟩
  refine ⟨hl, e0, ef, ⟨fun j c hc => ?_, by rw [List.length_set]; exact R'.len, R'.nd⟩⟩
  by_cases hj : i = j
  · subst hj
    rw [List.getElem?_set_self (List.getElem?_eq_some_iff.mp hs).1] at hc
    cases hc
    exact ⟨d, hi', .dk upd_same (RepK.mono ef hk)⟩
  · rw [List.getElem?_set_ne hj] at hc
    obtain ⟨a, h1, h2⟩ := R'.cell j c hc
    refine ⟨a, h1, h2.mono0 e0 (upd_ne fun z => hj ?_)⟩
    subst z
    exact nd_ix R'.nd hi' h1
end
section
variable {X : Cx} {A : Ad} {E : XK} {f : Sl → Sto → OutS}
theorem for_in {fi : Sl → Sto → Out Walk} {t : Tg} (hK : A.K = X.K) : ∀ D σ H, tS A E (fun σ S => (fi σ S).thn σ fun w S => forN w t f (wlen w S) 0 σ S) D σ H → tFor (tI A E fi) (gOf X.K t) (tS A E f) D σ H := by
  intro D σ H ⟨m, S, σD, R, Rs, p⟩
  refine ⟨m, S, σD, R, Rs, p.thn.mono fun J H1 ⟨m1, S1, w, e1, R1, rj, p1⟩ => ?_⟩
  refine ⟨fun i k σ H => ∃ m S σD, Ext A m1 H1 m H ∧ Rep A m S H ∧ RepS A m H σD σ ∧ PostS A E m H (forN w t f k i σD S) D, ⟨wlen w S1, m1, S1, σD, Ext.refl, R1, Rs.mono e1, p1⟩, ?_⟩
  rintro i k σ2 H2 ⟨m2, S2, σ2D, e2, R2, Rs2, p2⟩
  have z := rj i m2 S2 H2 e2 R2
  cases hw : wgo w i S2 with
  | none =>
    exfalso
    cases k with
    | zero => simp only [forN, hw] at p2; exact p2
    | succ k => simp only [forN, hw] at p2; exact p2
  | some o =>
    rw [hw] at z
    cases o with
    | none =>
      refine .inl ⟨z, ?_⟩
      cases k with
      | zero => simp only [forN, hw] at p2; exact p2 m2 H2 σ2 Ext.refl R2 Rs2
      | succ k => simp only [forN, hw] at p2; exact p2 m2 H2 σ2 Ext.refl R2 Rs2
    | some d =>
      cases k with
      | zero => simp only [forN, hw] at p2; exact p2.elim
      | succ k =>
        obtain ⟨z1, z2⟩ := z
        refine .inr ⟨z1, _, fun σ' H' hN => ⟨k, Nat.lt_succ_self k, hN⟩, fun x H3 hy => ?_⟩
        obtain ⟨e3, R3, rx⟩ := z2 x H3 hy
        have p3 := PostS.base p2 e3
        simp only [forN, hw] at p3
        cases hs : setTg t d σ2D with
        | none => rw [hs] at p3; exact p3.elim
        | some σ' =>
          rw [hs] at p3
          dsimp only at p3
          refine gOf_in hK (fun _ => True) _ hs rx (Rs2.mono e3) (fun _ _ _ _ _ => trivial) trivial fun σ4 Rs4 _ => ?_
          refine ⟨m2, S2, σ', R3, Rs4, ?_⟩
          revert p3
          cases f σ' S2 with
          | nx σ5 S5 => exact fun p3 m6 H6 σ6 e6 R6 Rs6 => ⟨m6, S5, σ5, (e2.trans e3).trans e6, R6, Rs6, PostS.base p3 e6⟩
          | ct σ5 S5 => exact fun p3 m6 H6 σ6 e6 R6 Rs6 => ⟨m6, S5, σ5, (e2.trans e3).trans e6, R6, Rs6, PostS.base p3 e6⟩
          | bk σ5 S5 => exact fun p3 => p3
          | rt d S5 => exact fun p3 => p3
          | err c fs σ5 S5 => exact fun p3 => p3
          | bad => exact fun p3 => p3
/-- the keys of a locked dict -/
def fiK (v : Nat) (σ : Sl) (S : Sto) : Out Walk :=
  match σ[v]? with
  | some (some (.loc a)) => match S[a]? with
    | some (.fk kvs) => .ok (.vs (kvs.map fun kv => keyD' kv.1)) S
    | _ => .bad
  | _ => .bad
theorem pk_get {m : List Addr} {H : Hp} : ∀ {kvs : List (Key × D)} {ws : List (Key × V)} {i : Nat} {k : Key} {d : D}, RepK A m H kvs ws → kvs[i]? = some (k, d) → ∃ v, ws[i]? = some (k, v)
  | _, _, _, _, _, .nil, h => by simp at h
  | _, (k', v') :: _, 0, _, _, .cons a _, h => by
    rw [List.getElem?_cons_zero] at h
    cases h
    obtain ⟨e, _⟩ := a
    cases e
    exact ⟨v', rfl⟩
  | _, _, i + 1, _, _, .cons _ b, h => by
    rw [List.getElem?_cons_succ] at h ⊢
    exact pk_get b h
theorem rj_keys {m0 : List Addr} {H0 : Hp} {d : Addr} {o : Obj} {kvs : List (Key × D)} {ws : List (Key × V)} (h : H0 d = some (.frz o (.dK ws))) (l : RepK A m0 H0 kvs ws) : RJ A m0 H0 (.vs (kvs.map fun kv => keyD' kv.1)) (Itk d o ws) := by
  intro j m S H ex R
  have h' := ex.frz _ _ _ h
  have hl := RepK.length l
  show match some (kvs.map fun kv => keyD' kv.1)[j]? with
    | some none => (Itk d o ws).stop j H
    | some (some e) => (Itk d o ws).go j H ∧ ∀ x H', (Itk d o ws).yld j H x H' → Ext A m H m H' ∧ Rep A m S H' ∧ RepD A m H' e x
    | none => True
  rw [List.getElem?_map]
  cases hj : kvs[j]? with
  | none => exact ⟨h', by have := List.getElem?_eq_none_iff.mp hj; omega⟩
  | some e =>
    obtain ⟨k, dv⟩ := e
    obtain ⟨v, hv⟩ := pk_get l hj
    refine ⟨⟨h', by have := (List.getElem?_eq_some_iff.mp hj).1; omega⟩, fun x H' y => ?_⟩
    obtain ⟨rfl, k', v', h1, rfl⟩ := y
    rw [hv] at h1
    cases h1
    refine ⟨Ext.refl, R, ?_⟩
    cases k with
    | inl i => exact .int i
    | inr z => exact .str z
theorem pi_k {tg e : Expr} {v : Nat} (he : PE X e (tVar v)) : PI X tg e (tI A E (fiK v)) := by
  refine PIi (pi_keys he) fun σ H Q ⟨m, S, σD, R, Rs, p⟩ => ?_
  unfold fiK at p
  split at p
  · rename_i a hv
    obtain ⟨x, h1, h2⟩ := Rs.2 _ _ hv
    split at p
    · rename_i kvs hk
      obtain ⟨d, od, ws, g1, g2, g3⟩ := R.fk hk
      cases h2 with
      | loc ea =>
        rw [ea] at g1; cases g1
        exact ⟨_, h1, d, od, rfl, .inl ⟨ws, g2, p.ok R (rj_keys g2 g3)⟩⟩
    · exact p.elim
  · exact p.elim
theorem ss_forK {tg e : Expr} {t : Nat} {v : Nat} {sb : List Stmt} {pos : Pos} (hK : A.K = X.K) (hp : PassesOwn (model X.prog X.w) X.A X.env X.xe) (hc : X.calm = true) (he : PE X e (tVar v)) (hg : PG X tg (gOf X.K (.nm t))) (hb : PSs X sb (tS A E f))
    (hs : ∀ x, foldedSetIterable e X.env x = pure x) : PS X (.For tg e sb [] pos) (tS A E fun σ S => match σ[v]? with
      | some (some (.loc a)) => match S[a]? with
        | some (.dk kvs) => unfk a kvs (forN (.vs (kvs.map fun kv => keyD' kv.1)) (.nm t) f kvs.length 0 σ (S.set a (.fk kvs)))
        | _ => .bad
      | _ => .bad) := by
  refine PSi (ps_lock (ps_for hp hc (pi_k (A := A) (E := E) he) hg hb hs)) fun D σ H ⟨m, S, σD, R, Rs, p⟩ => ?_
  dsimp only at p
  split at p
  · rename_i a hv
    split at p
    · rename_i kvs hk
      obtain ⟨x, h1, h2⟩ := Rs.2 _ _ hv
      cases h2 with
      | loc ea =>
      rename_i d
      obtain ⟨d', ws, g1, g2, g3⟩ := R.dk hk
      rw [ea] at g1; cases g1
      refine ⟨d, .dK ws, g2, trivial, fun od => for_in hK _ _ _ ?_⟩
      have ew : Ext A m H m (upd H d (.frz od (.dK ws))) := Ext.write g2 (fun _ z => by cases z) fun _ _ z => by cases z
      have R1 : Rep A m (S.set a (.fk kvs)) (upd H d (.frz od (.dK ws))) := R.write ea ew (.fk upd_same (RepK.mono ew g3))
      refine ⟨m, _, σD, R1, Rs.mono ew, ?_⟩
      have hf : fiK v σD (S.set a (.fk kvs)) = .ok (.vs (kvs.map fun kv => keyD' kv.1)) (S.set a (.fk kvs)) := by
        unfold fiK
        rw [hv]
        dsimp only
        rw [List.getElem?_set_self (List.getElem?_eq_some_iff.mp hk).1]
      show PostS A E m _ ((fiK v σD (S.set a (.fk kvs))).thn σD fun w S => forN w (.nm t) f (wlen w S) 0 σD S) _
      rw [hf]
      show PostS A E m _ (forN (.vs (kvs.map fun kv => keyD' kv.1)) (.nm t) f (wlen (.vs (kvs.map fun kv => keyD' kv.1)) (S.set a (.fk kvs))) 0 σD (S.set a (.fk kvs))) _
      have hl : wlen (.vs (kvs.map fun kv => keyD' kv.1)) (S.set a (.fk kvs)) = kvs.length := by
        show (kvs.map fun kv => keyD' kv.1).length = _
        rw [List.length_map]
      rw [hl]
      revert p
      cases forN (.vs (kvs.map fun kv => keyD' kv.1)) (.nm t) f kvs.length 0 σD (S.set a (.fk kvs)) with
      | nx σ1 S1 =>
        intro p
        unfold unfk at p
        dsimp only at p
        split at p
        · rename_i kvs' hs'
          intro m1 H1 σ' e1 R' Rs'
          obtain ⟨q1, q2, q3, q4⟩ := unlock_rep R ea g2 g3 e1 R' hs'
          exact ⟨q1, p m1 _ σ' q3 q4 (Rs'.mono0 q2)⟩
        · exact p.elim
      | rt d1 S1 =>
        intro p
        unfold unfk at p
        dsimp only at p
        split at p
        · rename_i kvs' hs'
          intro m1 H1 v' e1 R' rv
          obtain ⟨q1, q2, q3, q4⟩ := unlock_rep R ea g2 g3 e1 R' hs'
          exact ⟨q1, p m1 _ v' q3 q4 (rv.mono0 q2)⟩
        · exact p.elim
      | bk σ1 S1 => exact fun p => p.elim
      | ct σ1 S1 => exact fun p => p.elim
      | err c fs σ1 S1 => exact fun p => p.elim
      | bad => exact fun p => p.elim
    · exact p.elim
  · exact p.elim
end
end DI

set_option Elab.async false
set_option linter.all false
set_option maxRecDepth 100000
set_option maxHeartbeats 4000000
/-! Every text of the language does what the language says: statements, defs. -/
namespace DI
open L2 PySem PySem.Spec PyProof.Rows
def notComp : Expr → Bool | .ListComp _ _ _ _ => false | .SetComp _ _ _ _ => false | .DictComp _ _ _ _ _ => false | _ => true
def isLc : Expr → Bool | .ListComp _ _ _ _ => true | _ => false
def isLoc (sc : Scope) (x : Str) : Bool := match sc.names.lookup x with | some .local => true | _ => false
def isCel (sc : Scope) (x : Str) : Bool := match sc.names.lookup x with | some .cell => true | _ => false
def isFun (sc : Scope) : Bool := match sc.kind with | .function => true | _ => false
/-- x = v: how it is stored -/
def okSet (cc : CC) (x : Str) (p : Pos) : Expr → Bool
  | .ListComp _ _ scope vp => (isFun cc.sc && isLoc cc.sc x && (p.line == vp.line) && !(scope.names.any fun (n, k) => n == x && (k == .local || k == .cell))) || isCel cc.sc x
  | v => notComp v
def notTup : Expr → Bool | .Tuple _ _ _ => false | _ => true
/-- a tuple display that is stored as a tuple -/
def okTup (sc : Scope) (ts : List Expr) : Expr → Bool
  | .Tuple vs _ _ => decide (4 ≤ ts.length) || vs.all (foldedForSure 8) || (ts.any fun t => match t with | .Name x _ => isCel sc x | _ => false)
  | _ => true
/-! a statement's shape -/
def asNm : Stmt → Option (Str × Pos × Expr × Pos) | .Assign [.Name x p] v pos => some (x, p, v, pos) | _ => none
def asTu : Stmt → Option (List Expr × Nat × Pos × Expr × Pos) | .Assign [.Tuple ts k p] v pos => some (ts, k, p, v, pos) | _ => none
def asP2 : Stmt → Option ((Str × Pos × Str × Pos × Nat × Pos) × (Expr × Expr × Nat × Pos) × Pos) | .Assign [.Tuple [.Name x px, .Name y py] k p] (.Tuple [v, w] k2 p2) pos => some ((x, px, y, py, k, p), (v, w, k2, p2), pos) | _ => none
def asAt : Stmt → Option (Expr × Str × Pos × Expr × Pos) | .Assign [.Attribute o f p] v pos => some (o, f, p, v, pos) | _ => none
def asSu : Stmt → Option (Expr × Expr × Pos × Expr × Pos) | .Assign [.Subscript o i p] v pos => some (o, i, p, v, pos) | _ => none
def agNm : Stmt → Option (Str × Pos × Operator × Expr × Pos) | .AugAssign (.Name x p) op v pos => some (x, p, op, v, pos) | _ => none
def asRa : Stmt → Option (Str × Pos × (Str × Nat × Pos) × Pos × Pos) | .Raise (some (.Call (.Name y p) [.Constant (.str m) j p2] [] p3)) none p4 => some (y, p, (m, j, p2), p3, p4) | _ => none
theorem asNm_eq {st : Stmt} {x : Str} {p : Pos} {v : Expr} {pos : Pos} (h : asNm st = some (x, p, v, pos)) : st = .Assign [.Name x p] v pos := by
  unfold asNm at h; split at h <;> cases h; rfl
theorem asTu_eq {st : Stmt} {ts : List Expr} {k : Nat} {p : Pos} {v : Expr} {pos : Pos} (h : asTu st = some (ts, k, p, v, pos)) : st = .Assign [.Tuple ts k p] v pos := by
  unfold asTu at h; split at h <;> cases h; rfl
theorem asP2_eq {st : Stmt} {x y : Str} {px py p p2 pos : Pos} {k k2 : Nat} {v w : Expr} (h : asP2 st = some ((x, px, y, py, k, p), (v, w, k2, p2), pos)) : st = .Assign [.Tuple [.Name x px, .Name y py] k p] (.Tuple [v, w] k2 p2) pos := by
  unfold asP2 at h; split at h <;> cases h; rfl
theorem asAt_eq {st : Stmt} {o : Expr} {f : Str} {p : Pos} {v : Expr} {pos : Pos} (h : asAt st = some (o, f, p, v, pos)) : st = .Assign [.Attribute o f p] v pos := by
  unfold asAt at h; split at h <;> cases h; rfl
theorem asSu_eq {st : Stmt} {o i : Expr} {p : Pos} {v : Expr} {pos : Pos} (h : asSu st = some (o, i, p, v, pos)) : st = .Assign [.Subscript o i p] v pos := by
  unfold asSu at h; split at h <;> cases h; rfl
theorem agNm_eq {st : Stmt} {x : Str} {p : Pos} {op : Operator} {v : Expr} {pos : Pos} (h : agNm st = some (x, p, op, v, pos)) : st = .AugAssign (.Name x p) op v pos := by
  unfold agNm at h; split at h <;> cases h; rfl
theorem asRa_eq {st : Stmt} {y m : Str} {p p2 p3 p4 : Pos} {j : Nat} (h : asRa st = some (y, p, (m, j, p2), p3, p4)) : st = .Raise (some (.Call (.Name y p) [.Constant (.str m) j p2] [] p3)) none p4 := by
  unfold asRa at h; split at h <;> cases h; rfl
def asRf : Stmt → Option (Str × Pos × Expr × Pos × Pos) | .Raise (some (.Call (.Name y p) [v] [] p3)) none p4 => some (y, p, v, p3, p4) | _ => none
theorem asRf_eq {st : Stmt} {y : Str} {v : Expr} {p p3 p4 : Pos} (h : asRf st = some (y, p, v, p3, p4)) : st = .Raise (some (.Call (.Name y p) [v] [] p3)) none p4 := by
  unfold asRf at h; split at h <;> cases h; rfl
structure TrD where
  body : List Stmt
  y : Str
  np : Pos
  n : Str
  lit : Str
  kc : Nat
  pc : Pos
  n2 : Str
  pn2 : Pos
  f : Str
  pa : Pos
  kt : Nat
  pt : Pos
  pr : Pos
  pos' : Pos
  pos : Pos
def asTr : Stmt → Option TrD
  | .Try body [.ExceptHandler (some (.Name y np)) (some n) [.Return (some (.Tuple [.Constant (.str lit) kc pc, .Attribute (.Name n2 pn2) f pa] kt pt)) pr] pos'] [] [] pos => some ⟨body, y, np, n, lit, kc, pc, n2, pn2, f, pa, kt, pt, pr, pos', pos⟩
  | _ => none
theorem asTr_eq {st : Stmt} {d : TrD} (h : asTr st = some d) : st = .Try d.body [.ExceptHandler (some (.Name d.y d.np)) (some d.n) [.Return (some (.Tuple [.Constant (.str d.lit) d.kc d.pc, .Attribute (.Name d.n2 d.pn2) d.f d.pa] d.kt d.pt)) d.pr] d.pos'] [] [] d.pos := by
  unfold asTr at h; split at h <;> cases h; rfl
structure S2D where
  o1 : Expr
  i1 : Expr
  p1 : Pos
  o2 : Expr
  i2 : Expr
  p2 : Pos
  kt : Nat
  pt : Pos
  e1 : Expr
  e2 : Expr
  kv : Nat
  pv : Pos
  pos : Pos
def asS2 : Stmt → Option S2D
  | .Assign [.Tuple [.Subscript o1 i1 p1, .Subscript o2 i2 p2] kt pt] (.Tuple [e1, e2] kv pv) pos => some ⟨o1, i1, p1, o2, i2, p2, kt, pt, e1, e2, kv, pv, pos⟩
  | _ => none
theorem asS2_eq {st : Stmt} {d : S2D} (h : asS2 st = some d) : st = .Assign [.Tuple [.Subscript d.o1 d.i1 d.p1, .Subscript d.o2 d.i2 d.p2] d.kt d.pt] (.Tuple [d.e1, d.e2] d.kv d.pv) d.pos := by
  unfold asS2 at h; split at h <;> cases h; rfl
structure S3D where
  o1 : Expr
  i1 : Expr
  p1 : Pos
  o2 : Expr
  i2 : Expr
  p2 : Pos
  o3 : Expr
  i3 : Expr
  p3 : Pos
  kt : Nat
  pt : Pos
  e1 : Expr
  e2 : Expr
  e3 : Expr
  kv : Nat
  pv : Pos
  pos : Pos
def asS3 : Stmt → Option S3D
  | .Assign [.Tuple [.Subscript o1 i1 p1, .Subscript o2 i2 p2, .Subscript o3 i3 p3] kt pt] (.Tuple [e1, e2, e3] kv pv) pos => some ⟨o1, i1, p1, o2, i2, p2, o3, i3, p3, kt, pt, e1, e2, e3, kv, pv, pos⟩
  | _ => none
theorem asS3_eq {st : Stmt} {d : S3D} (h : asS3 st = some d) : st = .Assign [.Tuple [.Subscript d.o1 d.i1 d.p1, .Subscript d.o2 d.i2 d.p2, .Subscript d.o3 d.i3 d.p3] d.kt d.pt] (.Tuple [d.e1, d.e2, d.e3] d.kv d.pv) d.pos := by
  unfold asS3 at h; split at h <;> cases h; rfl
structure P3D where
  x : Str
  px : Pos
  y : Str
  py : Pos
  z : Str
  pz : Pos
  kt : Nat
  pt : Pos
  e1 : Expr
  e2 : Expr
  e3 : Expr
  kv : Nat
  pv : Pos
  pos : Pos
def asP3 : Stmt → Option P3D
  | .Assign [.Tuple [.Name x px, .Name y py, .Name z pz] kt pt] (.Tuple [e1, e2, e3] kv pv) pos => some ⟨x, px, y, py, z, pz, kt, pt, e1, e2, e3, kv, pv, pos⟩
  | _ => none
theorem asP3_eq {st : Stmt} {d : P3D} (h : asP3 st = some d) : st = .Assign [.Tuple [.Name d.x d.px, .Name d.y d.py, .Name d.z d.pz] d.kt d.pt] (.Tuple [d.e1, d.e2, d.e3] d.kv d.pv) d.pos := by
  unfold asP3 at h; split at h <;> cases h; rfl
def chkV (cc : CC) (v : Nat) : Expr → Bool
  | .Name y _ => decide (cc.N[v]? = some y) && vis cc.sc y && noDbg y
  | _ => false
def asRe : Stmt → Option (Expr × Pos) | .Return (some v) pos => some (v, pos) | _ => none
def asRn : Stmt → Option Pos | .Return none pos => some pos | _ => none
def asWh : Stmt → Option (Expr × List Stmt × Pos) | .While t x [] pos => some (t, x, pos) | _ => none
def asFo : Stmt → Option (Expr × Expr × List Stmt × Pos) | .For t i x [] pos => some (t, i, x, pos) | _ => none
theorem asRe_eq {st : Stmt} {v : Expr} {pos : Pos} (h : asRe st = some (v, pos)) : st = .Return (some v) pos := by
  unfold asRe at h; split at h <;> cases h; rfl
theorem asRn_eq {st : Stmt} {pos : Pos} (h : asRn st = some pos) : st = .Return none pos := by
  unfold asRn at h; split at h <;> cases h; rfl
theorem asWh_eq {st : Stmt} {t : Expr} {x : List Stmt} {pos : Pos} (h : asWh st = some (t, x, pos)) : st = .While t x [] pos := by
  unfold asWh at h; split at h <;> cases h; rfl
theorem asFo_eq {st : Stmt} {t i : Expr} {x : List Stmt} {pos : Pos} (h : asFo st = some (t, i, x, pos)) : st = .For t i x [] pos := by
  unfold asFo at h; split at h <;> cases h; rfl
mutual
def chkS (cc : CC) : Sm → Stmt → Bool
  | .set i e, st => match asNm st with
    | some (x, p, v, _) => decide (cc.N[i]? = some x) && lcl cc x && okSet cc x p v && chk cc e v
    | none => false
  | .setT is e, st => match asTu st with
    | some (ts, _, _, v, _) => chkNms cc is ts && okTup cc.sc ts v && chk cc e v
    | none => false
  | .par i j a b, st => match asP2 st with
    | some ((x, px, y, py, _, _), (v, w, _, _), _) => decide (cc.N[i]? = some x) && decide (cc.N[j]? = some y) && decide (i ≠ j) && decide (x ≠ y) && isFun cc.sc && isLoc cc.sc x && isLoc cc.sc y && (px.line == py.line) &&
      !([v, w].all (foldedForSure 8)) && !([v, w].all (constantsAlone 8)) && notStar v && notStar w && chk cc a v && chk cc b w
    | none => false
  | .fld c o f e, st => match asAt st with
    | some (oe, f', _, v, _) => decide (f = f') && decide (c ∈ cc.pn.cls) && decide ((c, f) ∈ cc.pn.flds) && chk cc o oe && chk cc e v
    | none => false
  | .sub o i e, st => match asSu st with
    | some (oe, ie, _, v, _) => notSlice ie && chk cc o oe && chk cc i ie && chk cc e v
    | none => false
  | .aug i op e, st => match agNm st with
    | some (x, _, op', v, _) => decide (op = op') && (decide (op = .Add) || decide (op = .Sub)) && decide (cc.N[i]? = some x) && lcl cc x && chk cc e v
    | none => false
  | .exp e, .Expr v _ => notComp v && chk cc e v
  | .ret e, st => match asRe st with
    | some (v, _) => chk cc e v
    | none => false
  | .retN, st => (asRn st).isSome
  | .ite c a b, .If t x y _ => chk cc c t && chkSs cc a x && chkSs cc b y
  | .whl c b, st => match asWh st with
    | some (t, x, _) => chk cc c t && chkSs cc b x
    | none => false
  | .for_ tg it b, st => match asFo st with
    | some (t, i, x, _) => chkTg cc tg t && chkI cc it t i && notSet i && chkSs cc b x
    | none => false
  | .pass, .Pass _ => true
  | .brk, .Break _ => true
  | .cnt, .Continue _ => true
  | .rai c x, st => match asRa st with
    | some (y, _) => decide (x = y) && decide ((c, x) ∈ cc.pn.xcs) && glb cc.sc x && noDbg x
    | none => false
  | .raiF c x f e, st => match asRf st with
    | some (y, _, v, _) => decide (x = y) && decide ((c, x, f) ∈ cc.pn.xns) && glb cc.sc x && noDbg x && notStar v && chk cc e v
    | none => false
  | .try1 b c x i f lit, st => match asTr st with
    | some d => cc.stm && decide (x = d.y) && decide (f = d.f) && decide (lit = d.lit) && decide (d.n = d.n2) && decide ((c, x, f) ∈ cc.pn.xns) && decide (cc.N[i]? = some d.n) && isLoc cc.sc d.n && glb cc.sc x && noDbg x && noDbg d.n && chkSs cc b d.body
    | none => false
  | .forK i v b, st => match asFo st with
    | some (t, e, x, _) => chkTg cc (.nm i) t && chkV cc v e && chkSs cc b x
    | none => false
  | .par3 i j l a b c, st => match asP3 st with
    | some d => decide (cc.N[i]? = some d.x) && decide (cc.N[j]? = some d.y) && decide (cc.N[l]? = some d.z) && decide (i ≠ j ∧ i ≠ l ∧ j ≠ l) && decide (d.x ≠ d.y ∧ d.x ≠ d.z ∧ d.y ≠ d.z) && isFun cc.sc && isLoc cc.sc d.x && isLoc cc.sc d.y && isLoc cc.sc d.z && (d.px.line == d.py.line) && (d.px.line == d.pz.line) &&
      !([d.e1, d.e2, d.e3].all (foldedForSure 8)) && !([d.e1, d.e2, d.e3].all (constantsAlone 8)) && notStar d.e1 && notStar d.e2 && notStar d.e3 && chk cc a d.e1 && chk cc b d.e2 && chk cc c d.e3
    | none => false
  | .sub3 o1 i1 o2 i2 o3 i3 a b c, st => match asS3 st with
    | some d => notSlice d.i1 && notSlice d.i2 && notSlice d.i3 && notStar d.e1 && notStar d.e2 && notStar d.e3 && chk cc o1 d.o1 && chk cc i1 d.i1 && chk cc o2 d.o2 && chk cc i2 d.i2 && chk cc o3 d.o3 && chk cc i3 d.i3 && chk cc a d.e1 && chk cc b d.e2 && chk cc c d.e3
    | none => false
  | .sub2 o1 i1 o2 i2 a b, st => match asS2 st with
    | some d => notSlice d.i1 && notSlice d.i2 && notStar d.e1 && notStar d.e2 && chk cc o1 d.o1 && chk cc i1 d.i1 && chk cc o2 d.o2 && chk cc i2 d.i2 && chk cc a d.e1 && chk cc b d.e2
    | none => false
  | _, _ => false
def chkSs (cc : CC) : Sms → List Stmt → Bool
  | .nil, [] => true
  | .cons s ss, st :: sts => chkS cc s st && chkSs cc ss sts
  | _, _ => false
end
section
variable {A : Ad} {P : Pg} {C : Nat → List D → Sto → Out D} {X : Cx} {E : XK} {k : Nat} {cc : CC}
theorem swap_no {v : Expr} {t : Option Expr} {l : Nat} {env : Env} (h : notComp v = true) : swapsWith v t l env = pure false := by cases v <;> first | rfl | cases h
theorem swap_tup {v : Expr} {ts : List Expr} {kt : Nat} {tp : Pos} {l : Nat} {env : Env} : swapsWithSole [.Tuple ts kt tp] v l env = pure false := by cases v <;> rfl
theorem swap_sub {v o i : Expr} {tp : Pos} {l : Nat} {env : Env} : swapsWithSole [.Subscript o i tp] v l env = pure false := by cases v <;> rfl
theorem swap_att {v o : Expr} {f : Str} {tp : Pos} {l : Nat} {env : Env} : swapsWith v (some (.Attribute o f tp)) l env = pure false := by cases v <;> rfl
theorem swaps_sub {v o i : Expr} {tp : Pos} {env : Env} : swappedStores [.Subscript o i tp] v env = pure none := by cases v <;> rfl
theorem loc_eq {sc : Scope} {x : Str} (h : isLoc sc x = true) : sc.names.lookup x = some .local := by
  unfold isLoc at h; split at h
  · assumption
  · cases h
theorem cel_eq {sc : Scope} {x : Str} (h : isCel sc x = true) : sc.names.lookup x = some .cell := by
  unfold isCel at h; split at h
  · assumption
  · cases h
theorem fun_eq {sc : Scope} (h : isFun sc = true) : sc.kind = .function := by
  unfold isFun at h; split at h
  · assumption
  · cases h
theorem swap_cel {e : Expr} {gs : List Comprehension} {scope : Scope} {vp p : Pos} {x : Str} {l : Nat} {env : Env} (h : env.scope.names.lookup x = some .cell) : swapsWith (.ListComp e gs scope vp) (some (.Name x p)) l env = pure false := by
  have hk : env.kindOf x = some .cell := h
  show (pure (env.blockKind == .function && env.kindOf x == some .local && p.line == vp.line && !(scope.names.any fun (n, k) => n == x && (k == .local || k == .cell))) : Sem Bool) = pure false
  rw [hk]
  congr 1
  have : (some NameKind.cell == some NameKind.local) = false := rfl
  rw [this, Bool.and_false, Bool.false_and, Bool.false_and]
theorem swaps_none {ts : List Expr} {v : Expr} {kt : Nat} {tp : Pos} {env : Env} (h : okTup env.scope ts v = true) : swappedStores [.Tuple ts kt tp] v env = pure none := by
  cases v <;> first | rfl | skip
  rename_i vs k2 p2
  simp only [okTup, Bool.or_eq_true, decide_eq_true_eq] at h
  show (do
    if !(ts.length == 2 || ts.length == 3) || vs.length != ts.length || env.blockKind != .function then return none
    if vs.any fun | .Starred .. => true | _ => false then return none
    let line := (ts.head?.map (·.pos.line)).getD 0
    let names := ts.filterMap fun
      | .Name id pos => if env.kindOf id == some .local && pos.line == line then some id else none
      | _ => none
    if names.length != ts.length || names.eraseDups.length != names.length then return none
    if vs.all (foldedForSure 8) then return none
    if vs.all (constantsAlone 8) then unsupported "assign.tuple-of-constant-expressions:order-of-the-stores"
    return some names : Sem (Option (List Str))) = pure none
  have hn : ∀ line : Nat, (ts.any fun t => match t with | .Name x _ => isCel env.scope x | _ => false) = true → ((ts.filterMap fun
      | .Name id pos => if env.kindOf id == some .local && pos.line == line then some id else none
      | _ => none).length != ts.length) = true := by
    intro line h
    obtain ⟨t, ht, hc⟩ := List.any_eq_true.mp h
    rw [bne_iff_ne]
    intro e
    have := List.filterMap_length_eq_length.mp e t ht
    cases t <;> first | (cases hc; done) | skip
    rename_i x p
    have hk : env.kindOf x = some .cell := cel_eq hc
    dsimp only at this
    rw [hk] at this
    exact absurd this (by simp)
  by_cases c1 : (!(ts.length == 2 || ts.length == 3) || vs.length != ts.length || env.blockKind != .function) = true
  · rw [if_pos c1] <;> rfl
  · rw [if_neg c1]
    rcases h with (h | h) | h
    · exfalso
      apply c1
      have e2 : (ts.length == 2) = false := by rw [beq_eq_false_iff_ne]; omega
      have e3 : (ts.length == 3) = false := by rw [beq_eq_false_iff_ne]; omega
      rw [e2, e3] <;> rfl
    · by_cases c2 : (vs.any fun | .Starred .. => true | _ => false) = true
      · simp only [c2, if_true] <;> rfl
      · simp only [c2, h, if_true]
        split <;> first | rfl | (split <;> rfl)
    · by_cases c2 : (vs.any fun | .Starred .. => true | _ => false) = true
      · simp only [c2, if_true] <;> rfl
      · have z := hn ((ts.head?.map (·.pos.line)).getD 0) h
        simp only [c2, z, Bool.true_or, if_true] <;> rfl
theorem swaps_two {x y : Str} {px py pt pt2 : Pos} {kt k2 : Nat} {v w : Expr} {env : Env} (hxy : x ≠ y) (hf : env.scope.kind = .function) (hx : env.scope.names.lookup x = some .local) (hy : env.scope.names.lookup y = some .local)
    (hl : (px.line == py.line) = true) (h1 : ([v, w].all (foldedForSure 8)) = false) (h2 : ([v, w].all (constantsAlone 8)) = false) (s1 : notStar v = true) (s2 : notStar w = true) :
    swappedStores [.Tuple [.Name x px, .Name y py] kt pt] (.Tuple [v, w] k2 pt2) env = pure (some [x, y]) := by
  have kx : env.kindOf x = some .local := hx
  have ky : env.kindOf y = some .local := hy
  have hb : env.blockKind = .function := by unfold Env.blockKind; rw [hf] <;> rfl
  have es : ([v, w].any fun | .Starred .. => true | _ => false) = false := by
    cases v <;> first | (cases s1; done) | (cases w <;> first | rfl | (cases s2; done))
  have el : (py.line == px.line) = true := by rw [beq_iff_eq] at hl ⊢; exact hl.symm
  show (do
    if !(2 == 2 || 2 == 3) || 2 != 2 || env.blockKind != .function then return none
    if [v, w].any fun | .Starred .. => true | _ => false then return none
    let names := [Expr.Name x px, Expr.Name y py].filterMap fun
      | .Name id pos => if env.kindOf id == some .local && pos.line == px.line then some id else none
      | _ => none
    if names.length != 2 || names.eraseDups.length != names.length then return none
    if [v, w].all (foldedForSure 8) then return none
    if [v, w].all (constantsAlone 8) then unsupported "assign.tuple-of-constant-expressions:order-of-the-stores"
    return some names : Sem (Option (List Str))) = pure (some [x, y])
  have en : ([Expr.Name x px, Expr.Name y py].filterMap fun
      | .Name id pos => if env.kindOf id == some .local && pos.line == px.line then some id else none
      | _ => none) = [x, y] := by
    have el' : py.line = px.line := by simpa using el
    rw [List.filterMap_cons_some (b := x) (by dsimp only; rw [kx]; simp), List.filterMap_cons_some (b := y) (by dsimp only; rw [ky, el']; simp)] <;> rfl
  have ee : ([x, y].eraseDups.length != [x, y].length) = false := by
    have : [x, y].eraseDups = [x, y] := by
      rw [List.eraseDups_cons]
      have : [y].filter (fun b => !b == x) = [y] := by
        have : (y == x) = false := beq_eq_false_iff_ne.mpr (Ne.symm hxy)
        simp [this]
      rw [this] <;> rfl
    rw [this] <;> simp
  rw [hb, es, en]
  simp only [ee, h1, h2]
  rfl
theorem swaps_three {x y z : Str} {px py pz pt pt2 : Pos} {kt k2 : Nat} {v w u : Expr} {env : Env} (hxy : x ≠ y) (hxz : x ≠ z) (hyz : y ≠ z) (hf : env.scope.kind = .function) (hx : env.scope.names.lookup x = some .local) (hy : env.scope.names.lookup y = some .local) (hz : env.scope.names.lookup z = some .local)
    (hl : (px.line == py.line) = true) (hl2 : (px.line == pz.line) = true) (h1 : ([v, w, u].all (foldedForSure 8)) = false) (h2 : ([v, w, u].all (constantsAlone 8)) = false) (s1 : notStar v = true) (s2 : notStar w = true) (s3 : notStar u = true) :
    swappedStores [.Tuple [.Name x px, .Name y py, .Name z pz] kt pt] (.Tuple [v, w, u] k2 pt2) env = pure (some [x, y, z]) := by
  have kx : env.kindOf x = some .local := hx
  have ky : env.kindOf y = some .local := hy
  have kz : env.kindOf z = some .local := hz
  have hb : env.blockKind = .function := by unfold Env.blockKind; rw [hf] <;> rfl
  have es : ([v, w, u].any fun | .Starred .. => true | _ => false) = false := by
    cases v <;> first | (cases s1; done) | (cases w <;> first | (cases s2; done) | (cases u <;> first | rfl | (cases s3; done)))
  show (do
    if !(3 == 2 || 3 == 3) || 3 != 3 || env.blockKind != .function then return none
    if [v, w, u].any fun | .Starred .. => true | _ => false then return none
    let names := [Expr.Name x px, Expr.Name y py, Expr.Name z pz].filterMap fun
      | .Name id pos => if env.kindOf id == some .local && pos.line == px.line then some id else none
      | _ => none
    if names.length != 3 || names.eraseDups.length != names.length then return none
    if [v, w, u].all (foldedForSure 8) then return none
    if [v, w, u].all (constantsAlone 8) then unsupported "assign.tuple-of-constant-expressions:order-of-the-stores"
    return some names : Sem (Option (List Str))) = pure (some [x, y, z])
  have en : ([Expr.Name x px, Expr.Name y py, Expr.Name z pz].filterMap fun
      | .Name id pos => if env.kindOf id == some .local && pos.line == px.line then some id else none
      | _ => none) = [x, y, z] := by
    have el' : py.line = px.line := (beq_iff_eq.mp hl).symm
    have el2 : pz.line = px.line := (beq_iff_eq.mp hl2).symm
    rw [List.filterMap_cons_some (b := x) (by dsimp only; rw [kx]; simp), List.filterMap_cons_some (b := y) (by dsimp only; rw [ky, el']; simp), List.filterMap_cons_some (b := z) (by dsimp only; rw [kz, el2]; simp)] <;> rfl
  have ee : ([x, y, z].eraseDups.length != [x, y, z].length) = false := by
    have : [x, y, z].eraseDups = [x, y, z] := by
      rw [List.eraseDups_cons]
      have q1 : [y, z].filter (fun b => !b == x) = [y, z] := by
        have a1 : (y == x) = false := beq_eq_false_iff_ne.mpr (Ne.symm hxy)
        have a2 : (z == x) = false := beq_eq_false_iff_ne.mpr (Ne.symm hxz)
        simp [a1, a2]
      rw [q1, List.eraseDups_cons]
      have q2 : [z].filter (fun b => !b == y) = [z] := by
        have a1 : (z == y) = false := beq_eq_false_iff_ne.mpr (Ne.symm hyz)
        simp [a1]
      rw [q2] <;> rfl
    rw [this] <;> simp
  rw [hb, es, en]
  simp only [ee, h1, h2]
  rfl
end
end DI

set_option Elab.async false
set_option linter.all false
set_option maxRecDepth 100000
set_option maxHeartbeats 4000000
/-! Statements, defs, programs: each does what the language says. -/
namespace DI
open L2 PySem PySem.Spec PyProof.Rows
section
variable {A : Ad} {P : Pg} {C : Nat → List D → Sto → Out D}
def NS (A : Ad) (P : Pg) (C : Nat → List D → Sto → Out D) (s : Sm) : Prop := ∀ {X : Cx} {E : XK} {k : Nat} {cc : CC} {st : Stmt}, Good A P C X E k cc → chkS cc s st = true → PS X st (tS A E (dS P C s))
def NSs (A : Ad) (P : Pg) (C : Nat → List D → Sto → Out D) (ss : Sms) : Prop := ∀ {X : Cx} {E : XK} {k : Nat} {cc : CC} {sts : List Stmt}, Good A P C X E k cc → chkSs cc ss sts = true → PSs X sts (tS A E (dSs P C ss))
theorem tSeq_ {f g : Sl → Sto → OutS} {X : Cx} {E : XK} {st : Stmt} (h : PS X st (tS A E f)) (e : ∀ σ S, g σ S = f σ S) : PS X st (tS A E g) := by
  have : g = f := by funext σ S; exact e σ S
  rw [this]; exact h
theorem n_set (i : Nat) (e : Ex) : NS A P C (.set i e) := by
  intro X E k cc st G h
  simp only [chkS] at h
  cases ha : asNm st with
  | none => rw [ha] at h; cases h
  | some q =>
    obtain ⟨x, p, v, pos⟩ := q
    rw [ha] at h
    have := asNm_eq ha
    subst this
    clear ha
    simp only [Bool.and_eq_true, decide_eq_true_eq] at h
    obtain ⟨⟨⟨h1, h2⟩, h3⟩, h4⟩ := h
    obtain ⟨l1, l2⟩ := G.lcl h2
    refine tSeq_ (f := fun σ S => (de P C e false σ S).thn σ fun d S => .nx (σ.set i (some d)) S) (ss_set ?_) (fun σ S => by simp only [dS])
    by_cases hv : notComp v = true
    · exact ps_set G.nd (by rw [G.hN]; exact h1) l1 (sE e G h4).1 (swap_no hv) l2
    · cases v <;> first | (exact absurd rfl hv) | skip
      · rename_i elt gs scope vp
        simp only [okSet, Bool.or_eq_true, Bool.and_eq_true] at h3
        rcases h3 with ⟨⟨⟨k1, k2⟩, k3⟩, k4⟩ | k1
        · have hx : X.env.scope.names.lookup x = some .local := by rw [G.sc]; exact loc_eq k2
          cases e <;> (try simp only [chk] at h4) <;> first | (cases h4; done) | skip
          rename_i own tg it ifs el
          match gs, h4 with
          | [⟨t, iter, fs, a⟩], h4 =>
            simp only [chk, Bool.and_eq_true, decide_eq_true_eq] at h4
            obtain ⟨⟨⟨⟨⟨⟨⟨rfl, h1'⟩, h2'⟩, h3'⟩, h4'⟩, h5'⟩, h6'⟩, h7'⟩ := h4
            have hB : BlkOk X.N X.env.scope scope own := by rw [G.hN, G.sc]; exact blkOk_by h1'
            have htg : ∀ i ∈ tg.slots, i ∈ own.map (·.2) := fun i hi => of_decide_eq_true (List.all_eq_true.mp h3' i hi)
            refine PSi (ps_setLc (g := gOf X.K tg) (wi := tI A E (deI P C it)) (tt := tG A EF RE (deT P C ifs)) (te := tE A EF (de P C el false)) G.calm G.nd (by rw [G.hN]; exact h1) hx (sw_true (by rw [G.sc]; exact fun_eq k1) hx k3 (by simpa using k4)) (sI it (tg := t) G h5') hB (fun s H Ca cl fp => s_tg (G.blk s H scope Ca cl fp) h2') (fun s H Ca cl fp => (sEs ifs).2.1 (G.blk s H scope Ca cl fp) h6') (fun s H Ca cl fp => (sE el (G.blk s H scope Ca cl fp) h7').1) (set_ok h4')) ?_
            intro D σ H hw
            refine lc_in G.hK htg σ H _ ?_
            have e1 : de P C (.lc own tg it ifs el) false = fun σ S => (deI P C it σ S).bind fun w S =>
      (lcLoop w tg (wipeD σ (own.map (·.2))) S.length (fun σ S => deT P C ifs σ S) (fun σ S => de P C el false σ S) (wlen w S) 0 (S ++ [.lst []])).bind fun _ S' => .ok (.loc S.length) S' := by funext σ S; simp only [de] <;> rfl
            rw [e1] at hw
            exact hw
          | [], h4 => simp [chk] at h4
          | _ :: _ :: _, h4 => simp [chk] at h4
        · exact ps_set G.nd (by rw [G.hN]; exact h1) l1 (sE e G h4).1 (swap_cel (by rw [G.sc]; exact cel_eq k1)) l2
      · simp only [okSet] at h3; exact absurd h3 hv
      · simp only [okSet] at h3; exact absurd h3 hv
theorem n_setT (is : List Nat) (e : Ex) : NS A P C (.setT is e) := by
  intro X E k cc st G h
  simp only [chkS] at h
  cases hv : asTu st with
  | none => rw [hv] at h; cases h
  | some q =>
    obtain ⟨ts, kt, tp, v, pos⟩ := q
    rw [hv] at h
    have := asTu_eq hv
    subst this
    simp only [Bool.and_eq_true] at h
    obtain ⟨⟨h1, h2⟩, h3⟩ := h
    have hg : chkTg cc (.tp is) (.Tuple ts kt tp) = true := h1
    exact tSeq_ (ss_setT G.hK (sE e G h3).1 (s_tg G hg) swap_tup (swaps_none (by rw [G.sc]; exact h2)) rfl) (fun σ S => by simp only [dS] <;> rfl)
theorem n_par (i j : Nat) (a b : Ex) : NS A P C (.par i j a b) := by
  intro X E k cc st G h
  simp only [chkS] at h
  cases hv : asP2 st with
  | none => rw [hv] at h; cases h
  | some q =>
    obtain ⟨⟨x, px, y, py, kt, tp⟩, ⟨v, w, k2, p2⟩, pos⟩ := q
    rw [hv] at h
    have := asP2_eq hv
    subst this
    simp only [Bool.and_eq_true, decide_eq_true_eq, Bool.not_eq_true'] at h
    obtain ⟨⟨⟨⟨⟨⟨⟨⟨⟨⟨⟨⟨⟨h1, h2⟩, h3⟩, h4⟩, h5⟩, h6⟩, h7⟩, h8⟩, h9⟩, h10⟩, h11⟩, h12⟩, h13⟩, h14⟩ := h
    have hx := loc_eq h6
    have hy := loc_eq h7
    rw [← G.sc] at hx hy
    exact tSeq_ (ss_par G.calm G.nd (by rw [G.hN]; exact h1) (by rw [G.hN]; exact h2) h3 hx hy (sE a G h13).1 (sE b G h14).1 (star_ok h11) (star_ok h12) (swaps_two h4 (by rw [G.sc]; exact fun_eq h5) hx hy h8 h9 h10 h11 h12)) (fun σ S => by simp only [dS])
theorem n_fld (c : Nat) (o : Ex) (f : Str) (e : Ex) : NS A P C (.fld c o f e) := by
  intro X E k cc st G h
  simp only [chkS] at h
  cases hv : asAt st with
  | none => rw [hv] at h; cases h
  | some q =>
    obtain ⟨oe, f', p, v, pos⟩ := q
    rw [hv] at h
    have := asAt_eq hv
    subst this
    simp only [Bool.and_eq_true, decide_eq_true_eq] at h
    obtain ⟨⟨⟨⟨rfl, h1⟩, h2⟩, h3⟩, h4⟩ := h
    exact tSeq_ (ss_fld (G.facts.cls c h1) (G.facts.fld _ h2) (sE o G h3).1 (sE e G h4).1 swap_att) (fun σ S => by simp only [dS] <;> rfl)
theorem n_sub (o i e : Ex) : NS A P C (.sub o i e) := by
  intro X E k cc st G h
  simp only [chkS] at h
  cases hv : asSu st with
  | none => rw [hv] at h; cases h
  | some q =>
    obtain ⟨oe, ie, p, v, pos⟩ := q
    rw [hv] at h
    have := asSu_eq hv
    subst this
    simp only [Bool.and_eq_true] at h
    obtain ⟨⟨⟨h1, h2⟩, h3⟩, h4⟩ := h
    exact tSeq_ (ss_sub h1 (by have := G.hu; omega) (sE o G h2).1 (sE i G h3).1 (sE e G h4).1 swap_sub swaps_sub) (fun σ S => by simp only [dS] <;> rfl)
theorem n_aug (i : Nat) (op : Operator) (e : Ex) : NS A P C (.aug i op e) := by
  intro X E k cc st G h
  simp only [chkS] at h
  cases hv : agNm st with
  | none => rw [hv] at h; cases h
  | some q =>
    obtain ⟨x, p, op', v, pos⟩ := q
    rw [hv] at h
    have := agNm_eq hv
    subst this
    simp only [Bool.and_eq_true, Bool.or_eq_true, decide_eq_true_eq] at h
    obtain ⟨⟨⟨⟨rfl, h1⟩, h2⟩, h3⟩, h4⟩ := h
    obtain ⟨l1, l2⟩ := G.lcl h3
    rcases h1 with rfl | rfl
    · refine tSeq_ (ss_aug G.nd (by rw [G.hN]; exact h2) l1 (sE e G h4).1 ip_add l2 (F := fun x y σ S => match x, y with | .int a, .int b => .nx (σ.set i (some (.int (a + b)))) S | _, _ => .bad) ?_) (fun σ S => ?_)
      · intro x y σ S
        cases x <;> (try exact .inr rfl) <;> cases y <;> (try exact .inr rfl)
        exact .inl ⟨_, _, rfl, rfl, rfl⟩
      · cases hσ : σ[i]? with
        | none => simp only [dS, hσ]
        | some o =>
          cases o with
          | none => simp only [dS, hσ]
          | some x =>
            simp only [dS, hσ]
            congr 1
            funext y S
            cases x <;> first | rfl | (cases y <;> rfl)
    · refine tSeq_ (ss_aug G.nd (by rw [G.hN]; exact h2) l1 (sE e G h4).1 ip_sub l2 (F := fun x y σ S => match x, y with | .int a, .int b => .nx (σ.set i (some (.int (a - b)))) S | _, _ => .bad) ?_) (fun σ S => ?_)
      · intro x y σ S
        cases x <;> (try exact .inr rfl) <;> cases y <;> (try exact .inr rfl)
        exact .inl ⟨_, _, rfl, rfl, rfl⟩
      · cases hσ : σ[i]? with
        | none => simp only [dS, hσ]
        | some o =>
          cases o with
          | none => simp only [dS, hσ]
          | some x =>
            simp only [dS, hσ]
            congr 1
            funext y S
            cases x <;> first | rfl | (cases y <;> rfl)
theorem n_exp (e : Ex) : NS A P C (.exp e) := by
  intro X E k cc st G h
  cases st <;> (try simp only [chkS] at h) <;> first | (cases h; done) | skip
  simp only [Bool.and_eq_true] at h
  exact tSeq_ (ss_exp (sE e G h.2).1 (swap_no h.1)) (fun σ S => by simp only [dS])
theorem n_ret (e : Ex) : NS A P C (.ret e) := by
  intro X E k cc st G h
  simp only [chkS] at h
  cases hv : asRe st with
  | none => rw [hv] at h; cases h
  | some q =>
    obtain ⟨v, pos⟩ := q
    rw [hv] at h
    have := asRe_eq hv
    subst this
    exact tSeq_ (ss_ret (sE e G h).1) (fun σ S => by simp only [dS])
theorem n_retN : NS A P C .retN := by
  intro X E k cc st G h
  simp only [chkS] at h
  cases hv : asRn st with
  | none => rw [hv] at h; cases h
  | some pos =>
    have := asRn_eq hv
    subst this
    exact tSeq_ ss_retN (fun σ S => by simp only [dS])
theorem n_ite (c : Ex) {a b : Sms} (ia : NSs A P C a) (ib : NSs A P C b) : NS A P C (.ite c a b) := by
  intro X E k cc st G h
  cases st <;> (try simp only [chkS] at h) <;> first | (cases h; done) | skip
  simp only [Bool.and_eq_true] at h
  exact tSeq_ (ss_ite (sE c G h.1.1).2.1 (ia G h.1.2) (ib G h.2)) (fun σ S => by simp only [dS])
theorem n_whl (c : Ex) {b : Sms} (ib : NSs A P C b) : NS A P C (.whl c b) := by
  intro X E k cc st G h
  simp only [chkS] at h
  cases hv : asWh st with
  | none => rw [hv] at h; cases h
  | some q =>
    obtain ⟨t, x, pos⟩ := q
    rw [hv] at h
    have := asWh_eq hv
    subst this
    simp only [Bool.and_eq_true] at h
    exact tSeq_ (ss_whl G.pass (sE c G h.1).2.1 (ib G h.2)) (fun σ S => by simp only [dS])
theorem n_for (tg : Tg) (it : Ir) {b : Sms} (ib : NSs A P C b) : NS A P C (.for_ tg it b) := by
  intro X E k cc st G h
  simp only [chkS] at h
  cases hv : asFo st with
  | none => rw [hv] at h; cases h
  | some q =>
    obtain ⟨t, i, x, pos⟩ := q
    rw [hv] at h
    have := asFo_eq hv
    subst this
    simp only [Bool.and_eq_true] at h
    obtain ⟨⟨⟨h1, h2⟩, h3⟩, h4⟩ := h
    exact tSeq_ (ss_for G.hK G.pass G.calm (sI it G h2) (s_tg G h1) (ib G h4) (set_ok h3)) (fun σ S => by simp only [dS])
theorem n_pass : NS A P C .pass := by
  intro X E k cc st G h
  cases st <;> (try simp only [chkS] at h) <;> first | (cases h; done) | skip
  exact tSeq_ ss_pass (fun σ S => by simp only [dS])
theorem n_brk : NS A P C .brk := by
  intro X E k cc st G h
  cases st <;> (try simp only [chkS] at h) <;> first | (cases h; done) | skip
  exact tSeq_ ss_brk (fun σ S => by simp only [dS])
theorem n_cnt : NS A P C .cnt := by
  intro X E k cc st G h
  cases st <;> (try simp only [chkS] at h) <;> first | (cases h; done) | skip
  exact tSeq_ ss_cnt (fun σ S => by simp only [dS])
theorem n_rai (c : Nat) (x : Str) : NS A P C (.rai c x) := by
  intro X E k cc st G h
  simp only [chkS] at h
  cases hv : asRa st with
  | none => rw [hv] at h; cases h
  | some q =>
    obtain ⟨y, p, ⟨m, j, p2⟩, p3, p4⟩ := q
    rw [hv] at h
    have := asRa_eq hv
    subst this
    simp only [Bool.and_eq_true, decide_eq_true_eq] at h
    obtain ⟨⟨⟨rfl, h1⟩, h2⟩, h3⟩ := h
    obtain ⟨g1, g2, g3, g4, g5⟩ := G.facts.xc _ h1
    exact tSeq_ (ss_rai G.calm G.tk g2 g1 g3 (raises_own g4 g5) (G.glb h2) (noDbg_ h3).1) (fun σ S => by simp only [dS])
theorem Good.tr {X : Cx} {E E' : XK} {k : Nat} {cc : CC} (G : Good A P C X E k cc) {pn : List (Addr × Obj)} {xe : Value → Shared → Prop} (tk : Takes (X.tr pn xe) (fun cls d _ H => E' cls d H)) (pa : PassesOwn (model X.prog X.w) X.A X.env xe) : Good A P C (X.tr pn xe) E' k cc where
  hK := G.hK
  hW := G.hW
  gd := G.gd
  calm := G.calm
  hy := G.hy
  room := G.room
  nd := G.nd
  tk := tk
  pass := pa
  facts := G.facts
  fns := G.fns
  hN := G.hN
  sc := G.sc
  fn := G.fn
  stm := G.stm
  xfn := G.xfn
theorem n_raiF (c : Nat) (x f : Str) (e : Ex) : NS A P C (.raiF c x f e) := by
  intro X E k cc st G h
  simp only [chkS] at h
  cases hv : asRf st with
  | none => rw [hv] at h; cases h
  | some q =>
    obtain ⟨y, p, v, p3, p4⟩ := q
    rw [hv] at h
    have := asRf_eq hv
    subst this
    simp only [Bool.and_eq_true, decide_eq_true_eq] at h
    obtain ⟨⟨⟨⟨⟨rfl, h1⟩, h2⟩, h3⟩, h4⟩, h5⟩ := h
    obtain ⟨g1, BC, fI, fd, ps, T, F1, hb⟩ := G.xfn _ h1
    exact tSeq_ (ss_raiF G.calm G.tk T F1 (G.room.mono (Nat.le_add_left 2 k)) hb (G.glb h2) g1 (sE e G h5).1 (noDbg_ h3).1 (star_ok h4)) (fun σ S => by simp only [dS])
theorem n_raiF0 (c : Nat) (x f : Str) : NS A P C (.raiF0 c x f) := by
  intro X E k cc st G h
  simp [chkS] at h
theorem n_try1 {b : Sms} (c : Nat) (x : Str) (i : Nat) (f lit : Str) (ib : NSs A P C b) : NS A P C (.try1 b c x i f lit) := by
  intro X E k cc st G h
  simp only [chkS] at h
  cases hv : asTr st with
  | none => rw [hv] at h; cases h
  | some d =>
    rw [hv] at h
    have := asTr_eq hv
    subst this
    simp only [Bool.and_eq_true, decide_eq_true_eq] at h
    obtain ⟨⟨⟨⟨⟨⟨⟨⟨⟨⟨⟨h1, h2⟩, h3⟩, h4⟩, h5⟩, h6⟩, h7⟩, h8⟩, h9⟩, h10⟩, h11⟩, h12⟩ := h
    obtain ⟨y, np, n, lit', kc, pc, n2, pn2, f', pa, kt, pt, pr, pos', pos⟩ : Str × Pos × Str × Str × Nat × Pos × Str × Pos × Str × Pos × Nat × Pos × Pos × Pos × Pos := ⟨d.y, d.np, d.n, d.lit, d.kc, d.pc, d.n2, d.pn2, d.f, d.pa, d.kt, d.pt, d.pr, d.pos', d.pos⟩
    obtain ⟨g1, BC, fI, fd, ps, T, F1, hb⟩ := G.xfn _ h6
    obtain ⟨s1, s2⟩ := G.stm h1
    obtain ⟨dn1, dn2, dn3⟩ := noDbg_ h11
    rw [← h2, ← h3, ← h4, ← h5]
    exact tSeq_ (ss_try1 (A := A) (E := E) T s1 s2 G.nd (by rw [G.hN]; exact h7) (by rw [G.sc]; exact loc_eq h8) (G.glb h9) g1 (noDbg_ h10).1 dn1 dn2 G.tk (fun E' pn xe tk pa => ib (G.tr tk pa) h12)) (fun σ S => by simp only [dS] <;> rfl)
theorem n_forK (i v : Nat) {b : Sms} (ib : NSs A P C b) : NS A P C (.forK i v b) := by
  intro X E k cc st G h
  simp only [chkS] at h
  cases hv : asFo st with
  | none => rw [hv] at h; cases h
  | some q =>
    obtain ⟨t, e, x, pos⟩ := q
    rw [hv] at h
    have := asFo_eq hv
    subst this
    simp only [Bool.and_eq_true] at h
    obtain ⟨⟨h1, h2⟩, h3⟩ := h
    cases e <;> (try simp only [chkV] at h2) <;> first | (cases h2; done) | skip
    simp only [Bool.and_eq_true, decide_eq_true_eq] at h2
    obtain ⟨⟨k1, k2⟩, k3⟩ := h2
    obtain ⟨d1, d2, d3⟩ := noDbg_ k3
    exact tSeq_ (ss_forK G.hK G.pass G.calm (pe_var (by rw [G.hN]; exact k1) (G.vis k2) d1 d2) (s_tg G h1) (ib G h3) (fun _ => rfl)) (fun σ S => by simp only [dS] <;> rfl)
theorem n_sub2 (o1 i1 o2 i2 a b : Ex) : NS A P C (.sub2 o1 i1 o2 i2 a b) := by
  intro X E k cc st G h
  simp only [chkS] at h
  cases hv : asS2 st with
  | none => rw [hv] at h; cases h
  | some d =>
    rw [hv] at h
    have := asS2_eq hv
    subst this
    simp only [Bool.and_eq_true] at h
    obtain ⟨⟨⟨⟨⟨⟨⟨⟨⟨h1, h2⟩, h3⟩, h4⟩, h5⟩, h6⟩, h7⟩, h8⟩, h9⟩, h10⟩ := h
    exact tSeq_ (ss_sub2 G.hK G.calm (by have := G.hu; omega) h1 h2 (sE o1 G h5).1 (sE i1 G h6).1 (sE o2 G h7).1 (sE i2 G h8).1 (sE a G h9).1 (sE b G h10).1 (star_ok h3) (star_ok h4)) (fun σ S => by simp only [dS] <;> rfl)
theorem n_par3 (i j l : Nat) (a b c : Ex) : NS A P C (.par3 i j l a b c) := by
  intro X E k cc st G h
  simp only [chkS] at h
  cases hv : asP3 st with
  | none => rw [hv] at h; cases h
  | some d =>
    rw [hv] at h
    have := asP3_eq hv
    subst this
    simp only [Bool.and_eq_true, decide_eq_true_eq, Bool.not_eq_true'] at h
    obtain ⟨⟨⟨⟨⟨⟨⟨⟨⟨⟨⟨⟨⟨⟨⟨⟨⟨⟨h1, h2⟩, h3⟩, h4⟩, h5⟩, h6⟩, h7⟩, h8⟩, h9⟩, h10⟩, h11⟩, h12⟩, h13⟩, h14⟩, h15⟩, h16⟩, h17⟩, h18⟩, h19⟩ := h
    have hx := loc_eq h7
    have hy := loc_eq h8
    have hz := loc_eq h9
    rw [← G.sc] at hx hy hz
    exact tSeq_ (ss_par3 G.calm G.nd (by rw [G.hN]; exact h1) (by rw [G.hN]; exact h2) (by rw [G.hN]; exact h3) h4.1 h4.2.1 h4.2.2 hx hy hz (sE a G h17).1 (sE b G h18).1 (sE c G h19).1 (star_ok h14) (star_ok h15) (star_ok h16)
      (swaps_three h5.1 h5.2.1 h5.2.2 (by rw [G.sc]; exact fun_eq h6) hx hy hz h10 h11 h12 h13 h14 h15 h16)) (fun σ S => by simp only [dS])
theorem n_sub3 (o1 i1 o2 i2 o3 i3 a b c : Ex) : NS A P C (.sub3 o1 i1 o2 i2 o3 i3 a b c) := by
  intro X E k cc st G h
  simp only [chkS] at h
  cases hv : asS3 st with
  | none => rw [hv] at h; cases h
  | some d =>
    rw [hv] at h
    have := asS3_eq hv
    subst this
    simp only [Bool.and_eq_true] at h
    obtain ⟨⟨⟨⟨⟨⟨⟨⟨⟨⟨⟨⟨⟨⟨h1, h2⟩, h3⟩, h4⟩, h5⟩, h6⟩, h7⟩, h8⟩, h9⟩, h10⟩, h11⟩, h12⟩, h13⟩, h14⟩, h15⟩ := h
    exact tSeq_ (ss_sub3 G.hK G.calm (by have := G.hu; omega) h1 h2 h3 (sE o1 G h7).1 (sE i1 G h8).1 (sE o2 G h9).1 (sE i2 G h10).1 (sE o3 G h11).1 (sE i3 G h12).1 (sE a G h13).1 (sE b G h14).1 (sE c G h15).1 (star_ok h4) (star_ok h5) (star_ok h6)) (fun σ S => by simp only [dS] <;> rfl)
theorem n_nil : NSs A P C .nil := by
  intro X E k cc sts G h
  cases sts with
  | cons _ _ => simp [chkSs] at h
  | nil =>
    have e1 : dSs P C .nil = fun σ S => .nx σ S := by funext σ S; simp only [dSs]
    rw [e1]; exact ss_nil
theorem n_cons {s : Sm} {ss : Sms} (i1 : NS A P C s) (i2 : NSs A P C ss) : NSs A P C (.cons s ss) := by
  intro X E k cc sts G h
  cases sts with
  | nil => simp [chkSs] at h
  | cons st sts =>
    simp only [chkSs, Bool.and_eq_true] at h
    have e1 : dSs P C (.cons s ss) = fun σ S => (dS P C s σ S).nxt (dSs P C ss) := by funext σ S; simp only [dSs]
    rw [e1]; exact ss_cons (i1 G h.1) (i2 G h.2)
theorem sSs (ss : Sms) : NSs A P C ss := by
  exact @Sms.rec (NS A P C) (NSs A P C) (fun i e => n_set i e) (fun is e => n_setT is e) (fun i j a b => n_par i j a b) (fun c o f e => n_fld c o f e) (fun o i e => n_sub o i e) (fun i o e => n_aug i o e)
    (fun e => n_exp e) (fun e => n_ret e) n_retN (fun c _ _ a b => n_ite c a b) (fun c _ b => n_whl c b) (fun tg it _ b => n_for tg it b) n_pass n_brk n_cnt (fun c x => n_rai c x) (fun c x f e => n_raiF c x f e) (fun c x f => n_raiF0 c x f) (fun _ c x i f lit b => n_try1 c x i f lit b) (fun i v _ b => n_forK i v b) (fun o1 i1 o2 i2 a b => n_sub2 o1 i1 o2 i2 a b) (fun i j l a b c => n_par3 i j l a b c) (fun o1 i1 o2 i2 o3 i3 a b c => n_sub3 o1 i1 o2 i2 o3 i3 a b c) n_nil (fun _ _ a b => n_cons a b) ss
end
/-! ### defs -/
def startD (n : Nat) (ds : List D) : Sl := ds.map some ++ List.replicate (n - ds.length) none
noncomputable def runB (P : Pg) (C : Nat → List D → Sto → Out D) (n np : Nat) (T : Sms) (ds : List D) (S : Sto) : Out D :=
  if ds.length = np then match dSs P C T (startD n ds) S with
    | .nx _ S' => .ok .non S'
    | .rt v S' => .ok v S'
    | .err c fs _ S' => .err c fs S'
    | _ => .bad
  else .bad
theorem runB_len {P : Pg} {C : Nat → List D → Sto → Out D} {n np : Nat} {T : Sms} : ∀ ds S, ds.length ≠ np → runB P C n np T ds S = .bad := fun ds S h => by unfold runB; rw [if_neg h]
section
variable {A : Ad} {P : Pg} {C : Nat → List D → Sto → Out D} {Pr : Program} {w : World} {K : PySem.W.Frag} {mg : Str → Option Value} {base : Heap}
theorem start_rep {m : List Addr} {H : Hp} {N : List Str} : ∀ {ds : List D} {vs : List V}, RepL A m H ds vs → RepS A m H (startD N.length ds) (L2.start N vs) := by
  intro ds vs l
  have hl := l.length
  refine ⟨?_, fun i d h => ?_⟩
  · unfold startD L2.start
    simp only [List.length_append, List.length_map, List.length_replicate, hl]
  · unfold startD at h
    unfold L2.start
    by_cases c : i < ds.length
    · rw [List.getElem?_append_left (by rw [List.length_map]; exact c), List.getElem?_map] at h
      rw [List.getElem?_append_left (by rw [List.length_map, hl]; exact c), List.getElem?_map]
      cases hd : ds[i]? with
      | none => rw [hd] at h; cases h
      | some d' =>
        rw [hd] at h
        cases h
        obtain ⟨v, h1, h2⟩ := l.get hd
        exact ⟨v, by rw [h1]; rfl, h2⟩
    · rw [List.getElem?_append_right (by rw [List.length_map]; omega), List.getElem?_replicate] at h
      split at h <;> cases h
/-- the program's own exceptions with a value -/
abbrev XnOk (A : Ad) (Pr : Program) (w : World) (K : PySem.W.Frag) (mg : Str → Option Value) (base : Heap) (pn : PN) : Prop :=
  ∀ q ∈ pn.xns, mg q.2.1 = some (.ref (A.cl q.1)) ∧ ∃ BC fI fd ps, Xin K (A.cl q.1) BC fI q.2.2 ∧ FnOk Pr w K mg base (L2.CX Pr w) 1 fI fd ps (spIni (A.cl q.1) q.2.2) ∧ Binds K fd ps []
/-- a def of the language keeps its promise -/
theorem fn_ok {x qual : Str} {st : Stmt} {f : Addr} {fd : FuncData} {N ps : List Str} {k : Nat} {T : Sms} {pn : PN} {dvs : List V} {kws : List (Str × V)} (F : FunD K x qual (defArgs st) (defBody st) (defScope st) dvs kws f fd) (S : FnScope N ps (defScope st)) (hK : A.K = K) (hW : A.w = w) (hy : SysK K) (facts : Facts A P pn K mg)
    (hchk : chkSs ⟨N, defScope st, fun _ => true, pn, true⟩ T (defBody st) = true) (xn : XnOk A Pr w K mg base pn)
    (fns : ∀ j, j < pn.nfn → ∃ fd ps, FnG Pr w K mg base (L2.CX Pr w) k (A.fn j) fd ps (spC A ps.length (C j)) ∧ Binds K fd ps [] ∧ (∀ ds S, ds.length ≠ ps.length → C j ds S = .bad) ∧ ∀ n ks pm, (j, n, ks, pm) ∈ pn.kbs → KB K fd ps n ks pm) :
    FnG Pr w K mg base (L2.CX Pr w) (k + 3) f fd ps (spC A ps.length (runB P C N.length ps.length T)) := by
  refine FunD.okG F S (fun vs H Q E h => ?_) (fun cdv A' outer s H vs Q E gd hr h => ?_)
  · obtain ⟨m, S, ds, _, l, hl, _⟩ := h
    rw [l.length, hl]
  · obtain ⟨m, S0, ds, R, l, hl, p⟩ := h
    refine ⟨tS A E (dSs P C T), sSs T (k := k) (cc := ⟨N, defScope st, fun _ => true, pn, true⟩) ?_ hchk, m, S0, startD N.length ds, R, start_rep l, ?_⟩
    · exact {
        hK := hK
        hW := hW
        gd := gd
        calm := rfl
        hy := hy
        room := hr
        nd := S.nd
        tk := takes_of rfl rfl rfl rfl
        pass := passes_of rfl
        facts := facts
        fns := fns
        hN := rfl
        sc := rfl
        fn := rfl
        stm := fun _ => ⟨rfl, rfl⟩
        xfn := xn }
    · unfold runB at p
      rw [if_pos hl] at p
      revert p
      cases dSs P C T (startD N.length ds) S0 with
      | nx σ S1 => exact fun p m1 H1 σ' e1 R1 Rs1 => p m1 H1 .non e1 R1 .non
      | rt v S1 => exact fun p => p
      | err c fs σ S1 => exact fun p => p
      | bk σ S1 => exact fun p => p.elim
      | ct σ S1 => exact fun p => p.elim
      | bad => exact fun p => p
theorem fn_bad {k : Nat} {f : Addr} {fd : FuncData} {ps : List Str} {n : Nat} : FnG Pr w K mg base (L2.CX Pr w) k f fd ps (spC A n fun _ _ => .bad) :=
  FnG.bad fun vs H Q E ⟨_, _, _, _, _, _, p⟩ => p.elim
/-! ### programs -/
/-- a def of a program: where it stands, its text, its names, its parameters, what it is in the language -/
structure Df where
  at_ : Str × Option Str
  nm : Str
  qual : Str
  st : Stmt
  N : List Str
  ps : List Str
  T : Sms
def Df.dd (d : Df) : He.DefD := ⟨d.at_, d.nm, d.qual, defArgs d.st, defBody d.st, defScope d.st, [], []⟩
/-- what is to be seen of a def, whatever the head -/
structure DfOk (pn : PN) (d : Df) : Prop where
  sc : FnScope d.N d.ps (defScope d.st)
  ck : chkSs ⟨d.N, defScope d.st, fun _ => true, pn, true⟩ d.T (defBody d.st) = true
  bi : ∀ (kV doc pm : Value) (an : Option Addr) (cdv ct : Value) (us : List Value), us.length = d.ps.length → bindArgs (PySem.W.fnOf d.nm d.qual (defArgs d.st) (defBody d.st) (defScope d.st) .none kV doc pm an cdv ct) ⟨us, []⟩ = pure (d.ps.zip us)
/-- the program's calls, to a depth -/
noncomputable def calls (P : Pg) (ds : List Df) : Nat → Nat → List D → Sto → Out D
  | 0, _ => fun _ _ => .bad
  | d + 1, j => match ds[j]? with
    | some f => runB P (calls P ds d) f.N.length f.ps.length f.T
    | none => fun _ _ => .bad
theorem calls_len {P : Pg} {fs : List Df} {d j : Nat} {f : Df} (h : fs[j]? = some f) : ∀ ds S, ds.length ≠ f.ps.length → calls P fs d j ds S = .bad := by
  intro ds S hl
  cases d with
  | zero => rfl
  | succ d =>
    unfold calls
    rw [h]
    exact runB_len ds S hl
/-- each shape of a call with keywords binds -/
abbrev KbsOk (pn : PN) (fs : List Df) : Prop := ∀ j n ks pm, (j, n, ks, pm) ∈ pn.kbs → ∀ f, fs[j]? = some f → ∀ (kV doc pmv : Value) (an : Option Addr) (cdv ct : Value) (us ws : List Value), us.length = n → ws.length = ks.length → bindArgs (PySem.W.fnOf f.nm f.qual (defArgs f.st) (defBody f.st) (defScope f.st) .none kV doc pmv an cdv ct) ⟨us, ks.zip ws⟩ = pure (f.ps.zip (pmL pm (us ++ ws)))
theorem all_ok {fs : List Df} {pn : PN} (hn : pn.nfn = fs.length) (hK : A.K = K) (hW : A.w = w) (hy : SysK K) (xn : XnOk A Pr w K mg base pn) (facts : Facts A P pn K mg) (ok : ∀ f ∈ fs, DfOk pn f) (kbs : KbsOk pn fs)
    (fds : ∀ j f, fs[j]? = some f → ∃ fd, FunD K f.nm f.qual (defArgs f.st) (defBody f.st) (defScope f.st) [] [] (A.fn j) fd) :
    ∀ d j, j < pn.nfn → ∃ fd ps, FnG Pr w K mg base (L2.CX Pr w) (3 * d) (A.fn j) fd ps (spC A ps.length (calls P fs d j)) ∧ Binds K fd ps [] ∧ (∀ ds S, ds.length ≠ ps.length → calls P fs d j ds S = .bad) ∧ ∀ n ks pm, (j, n, ks, pm) ∈ pn.kbs → KB K fd ps n ks pm := by
  intro d
  induction d with
  | zero =>
    intro j hj
    rw [hn] at hj
    obtain ⟨f, hf⟩ : ∃ f, fs[j]? = some f := ⟨_, List.getElem?_eq_getElem hj⟩
    obtain ⟨fd, F⟩ := fds j f hf
    exact ⟨fd, f.ps, fn_bad, F.bindsN (ok f (List.mem_of_getElem? hf)).bi, fun _ _ _ => rfl, fun n ks pm hq => kb_of F (kbs j n ks pm hq f hf)⟩
  | succ d ih =>
    intro j hj
    rw [hn] at hj
    obtain ⟨f, hf⟩ : ∃ f, fs[j]? = some f := ⟨_, List.getElem?_eq_getElem hj⟩
    obtain ⟨fd, F⟩ := fds j f hf
    have o := ok f (List.mem_of_getElem? hf)
    have e : calls P fs (d + 1) j = runB P (calls P fs d) f.N.length f.ps.length f.T := by
      funext ds S
      show (match fs[j]? with
        | some f => runB P (calls P fs d) f.N.length f.ps.length f.T
        | none => fun _ _ => .bad) ds S = _
      rw [hf]
    refine ⟨fd, f.ps, ?_, F.bindsN o.bi, calls_len hf, fun n ks pm hq => kb_of F (kbs j n ks pm hq f hf)⟩
    rw [e]
    exact fn_ok F o.sc hK hW hy facts o.ck xn ih
/-- an own exception class with a value: its number, name, base's name, the value's name, the parameter's name -/
structure Xd where
  c : Nat
  x : Str
  b : Str
  f : Str
  p : Str
  qual : Str
  st : Stmt
def Xd.dd (d : Xd) : He.DefD := ⟨(d.x, some ("__init__" : Str)), ("__init__" : Str), d.qual, defArgs d.st, defBody d.st, defScope d.st, [.non], []⟩
def chkXi (b f p : Str) : List Stmt → Bool
  | [.Expr (.Call (.Attribute (.Name b' _) m p2) [.Name s1 _, .Constant (.str _) _ _] [] pos) _, .Assign [.Attribute (.Name s2 _) f' _] (.Name p' _) _] =>
    decide (b' = b) && decide (m = "__init__") && decide (s1 = "self") && decide (s2 = "self") && decide (f' = f) && decide (p' = p) && (p2.endLine == pos.line)
  | _ => false
structure XdOk (d : Xd) : Prop where
  sc : FnScope ["self", d.p] ["self", d.p] (defScope d.st)
  ck : chkXi d.b d.f d.p (defBody d.st) = true
  gb : glb (defScope d.st) d.b = true
  nb : noDbg d.b = true
  np : noDbg d.p = true
  vp : vis (defScope d.st) d.p = true
  vs : vis (defScope d.st) "self" = true
  bi : ∀ (T : Addr) (kV doc pm : Value) (an : Option Addr) (cdv ct : Value) (us its : List Value), us.length = 2 → its.length = 1 →
      ∃ k, bindArgs (PySem.W.fnOf "__init__" d.qual (defArgs d.st) (defBody d.st) (defScope d.st) (.ref T) kV doc pm an cdv ct) ⟨us, []⟩ = seqItems? (.ref T) >>= k ∧ k (some its.toArray) = pure ([("self" : Str), d.p].zip (us ++ its.drop 1))
theorem ini_ok {d : Xd} {C BC fI : Addr} {fd : FuncData} (F : FunD K "__init__" d.qual (defArgs d.st) (defBody d.st) (defScope d.st) [.non] [] fI fd) (o : XdOk d) (T : Xin K C BC fI d.f) (hm : mg d.b = some (.ref BC)) :
    FnOk Pr w K mg base (L2.CX Pr w) 1 fI fd ["self", d.p] (spIni C d.f) ∧ Binds K fd ["self", d.p] [] := by
  refine ⟨F.ok o.sc (fun vs H Q E ⟨a, v, h, _⟩ => by rw [h] <;> rfl) (fun cdv B out s H vs Q E hr ⟨a, v, hv, ha, q⟩ => ?_), ?_⟩
  · have hc := o.ck
    revert hc
    generalize hb : defBody d.st = body
    intro hc
    unfold chkXi at hc
    split at hc
    · rename_i b' p1 m p2 s1 q1 ms j q2 pos q3 s2 q4 f' q5 p' q6 q7
      simp only [Bool.and_eq_true, decide_eq_true_eq] at hc
      obtain ⟨⟨⟨⟨⟨⟨rfl, rfl⟩, rfl⟩, rfl⟩, rfl⟩, rfl⟩, hl⟩ := hc
      subst hv
      have gb : Gl (cxOf (L2.CX Pr w) Pr w K mg base ["self", d.p] d.qual (defScope d.st) fI cdv B out s H E) d.b := by
        have := o.gb
        unfold DI.glb at this
        split at this
        · assumption
        · cases this
      have vis_ : ∀ {x : Str}, vis (defScope d.st) x = true → Vis (cxOf (L2.CX Pr w) Pr w K mg base ["self", d.p] d.qual (defScope d.st) fI cdv B out s H E).env.scope x := by
        intro x h
        unfold DI.vis at h
        split at h
        · exact .inl (by assumption)
        · exact .inr (.inl (by assumption))
        · exact .inr (.inr (by assumption))
        · cases h
      obtain ⟨e1, e2, e3⟩ := noDbg_ o.np
      have ps_ : ∀ {pos : Pos}, PE (cxOf (L2.CX Pr w) Pr w K mg base ["self", d.p] d.qual (defScope d.st) fI cdv B out s H E) (.Name "self" pos) (tVar 0) := fun {pos} => pe_var (i := 0) rfl (vis_ o.vs)
      have pp_ : ∀ {pos : Pos}, PE (cxOf (L2.CX Pr w) Pr w K mg base ["self", d.p] d.qual (defScope d.st) fI cdv B out s H E) (.Name d.p pos) (tVar 1) := fun {pos} => pe_var (i := 1) rfl (vis_ o.vp) e1 e2
      refine ⟨_, pss_cons (ps_expr (pe_veinitC gb hm T.rd T.ga T.vi (pa_cons ps_ (pa_cons (pe_str (x := ms) (pos := q2)) pa_nil rfl) rfl) (noDbg_ o.nb).1 (meth_ok rfl hl (fun e he => by
        rcases List.mem_cons.mp he with rfl | he
        · rfl
        · rw [List.mem_singleton] at he; subst he; rfl) (by show 2 < 30; decide)) rfl rfl) rfl) (pss_one (ps_ost ps_ pp_ rfl)), ?_⟩
      refine ⟨.ref a, rfl, a, C, _, rfl, by show 1 ≤ 1000; decide, T.oex, ha, ?_⟩
      refine ⟨v, rfl, .ref a, rfl, a, C, rfl, T.oex, T.no, .inl ⟨ha, fun dx h1 h2 => q dx h1 h2⟩⟩
    · cases hc
  · obtain ⟨ds, h1, h2⟩ := F.binds1 2 1 (by simp) rfl (fun T kV doc pm an cdv ct us its l1 l2 => o.bi T kV doc pm an cdv ct us its l1 l2)
    cases h1
    exact h2
/-- the law's promise -/
theorem law_sp {fs : List Df} {d j : Nat} (hl : ∀ ns : List Int, ns.length ≤ 63 → ∃ S', calls P fs d j [.rl (ns.map D.int)] [] = .ok (.bl true) S') (H : Hp) (a : Addr) (ns : List Int) (h : ns.length ≤ 63) (hO : Only H) (hS : SqL A.K H a (ns.map V.int)) :
    spC A 1 (calls P fs d j) [.ref a] H (fun v _ => v = .bl true) fun _ _ _ => False := by
  refine ⟨[], [], [.rl (ns.map D.int)], ⟨fun i c h => by simp at h, rfl, List.nodup_nil⟩, .cons (.rl (RoL.of_only hO hS) (RepL.ints ns)) .nil, rfl, ?_⟩
  obtain ⟨S', e⟩ := hl ns h
  rw [e]
  intro m' H' v _ _ r
  cases r
  rfl
theorem says_all {fa : List He.Fa} {fn : List He.DefD} (c : He.SaysD fa fn K) : ∀ f ∈ fa, f.ok K = true := by
  intro f hf
  obtain ⟨i, hi, e⟩ := List.getElem_of_mem hf
  exact c.fact i (by rw [List.getElem?_eq_getElem hi, e])
end
end DI

set_option Elab.async false
set_option linter.all false
set_option maxRecDepth 100000
set_option maxHeartbeats 4000000
/-! The head: a program's facts by names, and the end. -/
namespace DI
open L2 PySem PySem.Spec PyProof.Rows
theorem walk_ofEw {l : PySem.W.OpenLaw} {n k : Nat} {q : Program} {loose : List Str} {XP : (Str → Option Value) → Heap → Prop} {YP : World → Heap → Prop} {d : DefRec} {CX : World → CXT} {x : Str}
    (hn : l.most = some n) (hn2 : n ≤ sizeLine) (hdf : d.params.defaults = []) (hr : Room k callerA)
    (F : ∀ (w : World) (mg : Str → Option Value) (fa : Addr) (h : Heap), YP w h → h.Ns mainGlobals mg → mg d.name = some (.ref fa) →
      ∃ (K : PySem.W.Frag) (fd : FuncData) (sp : Sp), K.In h ∧ (∀ (s : Shared) (u : Value), BindsTo s fd ⟨[u], []⟩ [(x, u)]) ∧
        (∀ (H : Hp) (a : Addr) (ns : List Int), ns.length ≤ n → Only H → SqL K H a (ns.map V.int) → sp [.ref a] H (fun v _ => v = .bl true) fun _ _ _ => False) ∧
        ∀ base : Heap, K.In base → base.Ns mainGlobals mg → FnG l.prog w K mg base (CX w) k fa fd [x] sp)
    (hCX : ∀ (w : World) (H : Hp) (s : Shared) (e : Value) (s' : Shared), CX w [] H s (fun _ _ _ => False) e s' → False) :
    PySem.W.WalkO q loose XP YP l.row.toRowW d [] (fun f vs => PySem.call f vs) := by
  refine Att.attach_call hn hdf fun w s₀ s₁ mg mb fa o pm cd doc a vs ns G Y ho hd hcd hmg hobj hints hlen hg => ?_
  obtain ⟨K, fd, sp, KX, hb, hsp, hF⟩ := F w mg fa _ Y G.T.g hmg
  exact law_callG KX G.T.g G.T.b G.T.builtins G.T.nolimit hg hobj hints (Nat.le_trans hlen hn2) hr hF hb (fun H hO hS => hsp H a ns hlen hO hS) fun H e s' => hCX w H s₁ e s'
def nmC (pn : PN) (c : Nat) : Str := match (pn.cll ++ (pn.xcs ++ pn.xns.map fun q => (q.1, q.2.1))).find? (fun p => p.1 == c) with | some p => p.2 | none => Str.empty
def AdOf (K : PySem.W.Frag) (w : World) (fs : List Df) (pn : PN) : Ad := ⟨K, w, fun j => match fs[j]? with | some f => He.fAd K f.at_ | none => 0, fun c => He.ga K (nmC pn c)⟩
def faOf (pn : PN) (xs : List Xd) : List He.Fa :=
  pn.fnl.map (fun p => .glo p.2) ++ (pn.fnl.map (fun p => .keep p.2) ++ (pn.cls.map (fun c => .cls (nmC pn c)) ++ (pn.cll.map (fun p => .glo p.2) ++ (pn.mts.map (fun p => .meth (nmC pn p.1) p.2.1) ++
  (pn.inis.map (fun p => .mkr (nmC pn p.1)) ++ (pn.flds.map (fun p => .noat (nmC pn p.1) p.2) ++ (pn.free.map (fun x => .free x) ++ (pn.xcs.map (fun p => .glo p.2) ++ (pn.xcs.map (fun p => .exc p.2) ++ (xs.map (fun d => .glo d.x) ++ xs.map (fun d => .glo d.b)))))))))))
def pnOk (fs : List Df) (pn : PN) (xs : List Xd) : Bool :=
  pn.fnl.all (fun p => match fs[p.1]? with | some f => decide (f.at_ = (p.2, none)) | none => false) &&
  (pn.mts.all (fun p => match fs[p.2.2]? with | some f => decide (f.at_ = (nmC pn p.1, some p.2.1)) | none => false) &&
  (pn.inis.all (fun p => match fs[p.2]? with | some f => decide (f.at_ = (nmC pn p.1, some ("__init__" : Str))) | none => false) &&
  (pn.cll.all (fun p => decide (nmC pn p.1 = p.2)) && (pn.xcs.all (fun p => decide (nmC pn p.1 = p.2)) && (xs.all (fun d => decide (nmC pn d.c = d.x)) && decide (pn.xns = xs.map fun d => (d.c, d.x, d.f)))))))
/-! ### the module's data -/
mutual
def datB (K : PySem.W.Frag) (fA : Nat → Addr) : D → Value → Bool
  | .non, .none => true
  | .bl b, .bool c => b == c
  | .int i, .int j _ => decide (i = j)
  | .str x, .str y _ => decide (x = y)
  | .tup xs, .ref a => match K.lookup a with
    | some ⟨.type c, _, .seq its _, _⟩ => decide (c = "tuple") && decide (its.size ≤ sizeLine) && datL K fA xs its.toList
    | _ => false
  | .fn j, .ref a => fA j == a
  | _, _ => false
def datL (K : PySem.W.Frag) (fA : Nat → Addr) : List D → List Value → Bool
  | [], [] => true
  | d :: ds, u :: us => datB K fA d u && datL K fA ds us
  | _, _ => false
end
section
variable {A : Ad}
mutual
theorem datB_ok : ∀ {d : D} {u : Value}, datB A.K A.fn d u = true → ∃ v, RelV v u ∧ ∀ m H, RepD A m H d v
  | .non, .none, _ => ⟨.non, rfl, fun _ _ => .non⟩
  | .bl b, .bool c, h => by
    simp only [datB, beq_iff_eq] at h
    subst h
    exact ⟨.bl b, rfl, fun _ _ => .bl b⟩
  | .int i, .int j t, h => by
    simp only [datB, decide_eq_true_eq] at h
    subst h
    exact ⟨.int i, ⟨t, rfl⟩, fun _ _ => .int i⟩
  | .str x, .str y t, h => by
    simp only [datB, decide_eq_true_eq] at h
    subst h
    exact ⟨.str x, ⟨t, rfl⟩, fun _ _ => .str x⟩
  | .fn j, .ref a, h => by
    simp only [datB, beq_iff_eq] at h
    subst h
    exact ⟨.ref _, rfl, fun _ _ => .fn j⟩
  | .tup xs, .ref a, h => by
    simp only [datB] at h
    split at h
    · rename_i c dd its n sl hk
      simp only [Bool.and_eq_true, decide_eq_true_eq] at h
      obtain ⟨⟨rfl, h2⟩, h3⟩ := h
      obtain ⟨vs, h4, h5⟩ := datL_ok h3
      exact ⟨.ref a, rfl, fun m H => .tup (.inr ⟨_, its, n, hk, rfl, rfl, h2, h4⟩) (h5 m H)⟩
    · cases h
theorem datL_ok : ∀ {ds : List D} {us : List Value}, datL A.K A.fn ds us = true → ∃ vs, Vals vs us ∧ ∀ m H, RepL A m H ds vs
  | [], [], _ => ⟨[], .nil, fun _ _ => .nil⟩
  | d :: ds, u :: us, h => by
    simp only [datL, Bool.and_eq_true] at h
    obtain ⟨v, h1, h2⟩ := datB_ok h.1
    obtain ⟨vs, h3, h4⟩ := datL_ok h.2
    exact ⟨v :: vs, .cons h1 h3, fun m H => .cons (h2 m H) (h4 m H)⟩
end
end
/-- a global: of plain data, or a dict of it -/
def gloB (K : PySem.W.Frag) (fA : Nat → Addr) (q : Str × D) : Bool :=
  match PySem.W.nsIn K mainGlobals q.1 with
  | some (some u) => (match q.2, u with
    | .rd kvs, .ref a => (a == He.ga K q.1) && kvs.all fun p => match PySem.W.nsIn K a p.1 with
      | some (some z) => datB K fA p.2 z
      | _ => false
    | d, u => datB K fA d u)
  | _ => false
def tabs (gs : List (Str × D)) : List He.Tab := gs.filterMap fun q => match q.2 with | .rd kvs => some (fun K => He.ga K q.1, kvs.map (·.1)) | _ => none
theorem dicW_okS {K : PySem.W.Frag} {w : World} {a : Addr} {kvs : List (Str × D)} (h : He.dicW K a = some (He.keysIn w.params (kvs.map (·.1)))) : ∃ es n, KDict K w a es n ∧ es.toList.map keyS = kvs.map fun p => some p.1 := by
  obtain ⟨es, n, D⟩ := He.dicW_ok h
  refine ⟨es, n, D, ?_⟩
  unfold He.dicW at h
  rw [D.at_] at h
  dsimp only at h
  split at h
  · have h1 : es.toList.map He.keyOf = He.keysIn w.params (kvs.map (·.1)) := Option.some.inj h
    have h2 := congrArg (List.map (Option.map Prod.fst)) h1
    rw [List.map_map] at h2
    have e1 : (Option.map Prod.fst) ∘ He.keyOf = keyS := by
      funext e
      obtain ⟨hash, key, val⟩ := e
      cases key <;> rfl
    rw [e1] at h2
    rw [h2]
    unfold He.keysIn
    rw [List.map_map, List.map_map]
    rfl
  · cases h
theorem keysIn_find {P : Params} {es : List DictEntry} {ks : List Str} (h : es.map He.keyOf = He.keysIn P ks) {x : Str} (hx : x ∉ ks) : es.find? (·.key.isStr x) = none ∧ es.any (·.refKey) = false := by
  induction es generalizing ks with
  | nil => exact ⟨rfl, rfl⟩
  | cons e r ih =>
    cases ks with
    | nil => cases h
    | cons k ks =>
      have h1 : He.keyOf e :: r.map He.keyOf = some (k, PyData.keyHash P k) :: He.keysIn P ks := h
      injection h1 with h2 h3
      obtain ⟨i1, i2⟩ := ih h3 (fun z => hx (List.mem_cons_of_mem _ z))
      unfold He.keyOf at h2
      split at h2
      · rename_i y t q
        obtain ⟨h5, h6⟩ := Prod.mk.inj (Option.some.inj h2)
        subst h5
        have e1 : e.key.isStr x = false := by
          rw [q, PySem.W.isStr_of]
          show (y == x) = false
          rw [beq_eq_false_iff_ne]
          exact fun z => hx (z ▸ List.mem_cons_self)
        have e2 : e.refKey = false := by unfold DictEntry.refKey; rw [q]
        refine ⟨by rw [List.find?_cons, e1]; exact i1, by rw [List.any_cons, e2, i2] <;> rfl⟩
      · cases h2
theorem dicW_none {K : PySem.W.Frag} {w : World} {a : Addr} {ks : List Str} (h : He.dicW K a = some (He.keysIn w.params ks)) {x : Str} (hx : x ∉ ks) : PySem.W.nsIn K a x = some none := by
  obtain ⟨es, n, kd⟩ := He.dicW_ok h
  have hz : es.toList.map He.keyOf = He.keysIn w.params ks := by
    unfold He.dicW at h
    rw [kd.at_] at h
    dsimp only at h
    split at h
    · exact Option.some.inj h
    · cases h
  obtain ⟨i1, i2⟩ := keysIn_find hz hx
  unfold PySem.W.nsIn
  rw [kd.at_]
  dsimp only
  rw [i1]
  dsimp only
  rw [i2] <;> rfl
theorem lookup_notin {kvs : List (Str × D)} {x : Str} (h : kvs.lookup x = none) : x ∉ kvs.map (·.1) := by
  intro hm
  obtain ⟨q, hq, rfl⟩ := List.mem_map.mp hm
  rw [List.lookup_eq_none_iff] at h
  have := h q hq
  simp at this
theorem repR_of {A : Ad} {a : Addr} : ∀ {kvs : List (Str × D)}, (kvs.all fun p => match PySem.W.nsIn A.K a p.1 with | some (some z) => datB A.K A.fn p.2 z | _ => false) = true → ∀ m H, RepR A m H a kvs
  | [], _, m, H => .nil
  | (k, d) :: r, h, m, H => by
    rw [List.all_cons, Bool.and_eq_true] at h
    obtain ⟨h1, h2⟩ := h
    dsimp only at h1
    split at h1
    · rename_i z hz
      obtain ⟨v, i1, i2⟩ := datB_ok h1
      exact .cons hz i1 (i2 m H) (repR_of h2 m H)
    · cases h1
theorem glo_dat {A : Ad} {base : Heap} {mg : Str → Option Value} {gs : List (Str × D)} (X : A.K.In base) (G : base.Ns mainGlobals mg) (ht : ∀ t ∈ tabs gs, He.dicW A.K (t.1 A.K) = some (He.keysIn A.w.params t.2)) (hg : gs.all (gloB A.K A.fn) = true)
    {x : Str} {d : D} (h : gs.lookup x = some d) : ∃ v u, mg x = some u ∧ RelV v u ∧ ∀ m H, RepD A m H d v := by
  have hm : (x, d) ∈ gs := by
    clear ht hg
    induction gs with
    | nil => cases h
    | cons q r ih =>
      obtain ⟨k, z⟩ := q
      rw [List.lookup_cons] at h
      split at h
      · rename_i e
        obtain rfl := beq_iff_eq.mp e
        cases h
        exact List.mem_cons_self
      · exact List.mem_cons_of_mem _ (ih h)
  have hb := List.all_eq_true.mp hg _ hm
  unfold gloB at hb
  split at hb
  · rename_i u hu
    have hmg := PySem.W.mg_of X G hu
    split at hb
    · rename_i kvs a ed
      dsimp only at ed; subst ed
      rw [Bool.and_eq_true, beq_iff_eq] at hb
      obtain ⟨ea, hb⟩ := hb
      have t1 := ht (fun K => He.ga K x, kvs.map (·.1)) (List.mem_filterMap.mpr ⟨_, hm, rfl⟩)
      dsimp only at t1 ea
      rw [← ea] at t1
      exact ⟨.ref a, _, hmg, rfl, fun m H => .rd (dicW_okS t1) (fun y hy => dicW_none t1 (lookup_notin hy)) (repR_of hb m H)⟩
    · obtain ⟨v, h1, h2⟩ := datB_ok hb
      exact ⟨v, _, hmg, h1, h2⟩
  · cases hb
/-- sys.modules is a dict -/
def sysB (K : PySem.W.Frag) : Bool := match K.lookup sysModules with
  | some ⟨.type t, _, _, _⟩ => decide (t = "dict")
  | _ => false
theorem sysB_ok {K : PySem.W.Frag} (h : sysB K = true) : SysK K := by
  unfold sysB at h
  split at h
  · rename_i t d dt sl hk
    obtain rfl := of_decide_eq_true h
    exact ⟨_, hk, rfl⟩
  · cases h
/-! ### the hook: what the module's names reach, sys.modules, the statics -/
def frS (g : Addr → Option Obj) (n : Nat) : PySem.W.Frag := He.frT g (sysModules :: cStatics :: He.asD g n)
abbrev AlS : Type := He.AlT × Bool
def obsS (n : Nat) (fa : List He.Fa) (fn : List He.DefD) (ts : List He.Tab) (ex : PySem.W.Frag → Bool) (g : Addr → Option Obj) : AlS := (He.obsT fa fn ts (frS g n), ex (frS g n))
def valS (fn : List He.DefD) (ts : List He.Tab) (w : World) : AlS := (He.valT fn ts w, true)
structure SaysS (fa : List He.Fa) (fn : List He.DefD) (ts : List He.Tab) (ex : PySem.W.Frag → Bool) (w : World) (K : PySem.W.Frag) : Prop where
  t : He.SaysT fa fn ts w K
  more : ex K = true
def hookS (n : Nat) (fa : List He.Fa) (fn : List He.DefD) (ts : List He.Tab) (ex : PySem.W.Frag → Bool) : PySem.W.Hook where
  α := AlS
  obs := fun s => obsS n fa fn ts ex s.heap.get?
  val := fun w => valS fn ts w
  says := fun w h => ∃ K : PySem.W.Frag, K.In h ∧ SaysS fa fn ts ex w K
  of := fun _ _ e => ⟨_, He.frT_in, congrArg (fun z : AlS => z.1) e, congrArg (fun z : AlS => z.2) e⟩
  keeps := fun _ _ _ ⟨K, hK, c⟩ k => ⟨K, PySem.W.Frag.In.keeps hK k, c⟩
theorem obsS_eq {n : Nat} {fa : List He.Fa} {fn : List He.DefD} {ts : List He.Tab} {ex : PySem.W.Frag → Bool} {g : Addr → Option Obj} {s : Shared} (h : ∀ a, g a = s.heap.get? a) : obsS n fa fn ts ex g = (hookS n fa fn ts ex).obs s := by
  obtain rfl : g = s.heap.get? := funext h
  rfl
/-- the Bool behind the facts: sys.modules, the data, the exceptions -/
def exB (fs : List Df) (pn : PN) (gs : List (Str × D)) (xs : List Xd) (K : PySem.W.Frag) : Bool :=
  sysB K && (gs.all (gloB K fun j => match fs[j]? with | some f => He.fAd K f.at_ | none => 0) && xs.all fun d => xinB K (He.ga K d.x) (He.ga K d.b) (He.fAd K (d.x, some ("__init__" : Str))) d.f)
theorem says_tab {fa : List He.Fa} {fn : List He.DefD} {ts : List He.Tab} {w : World} {K : PySem.W.Frag} (c : He.SaysT fa fn ts w K) {t : He.Tab} (h : t ∈ ts) : He.dicW K (t.1 K) = some (He.keysIn w.params t.2) := by
  have e : ts.map (fun t => He.dicW K (t.1 K)) = ts.map fun t => some (He.keysIn w.params t.2) := congrArg (fun z : He.AlT => z.2) c
  exact (List.map_inj_left.mp e) t h
section
variable {K : PySem.W.Frag} {mg : Str → Option Value} {h : Heap} {fs : List Df} {pn : PN} {P : Pg} {w : World} {xs : List Xd} {gs : List (Str × D)}
theorem ad_fn {j : Nat} {q : Str × Option Str} (e : (match fs[j]? with | some f => decide (f.at_ = q) | none => false) = true) : (AdOf K w fs pn).fn j = He.fAd K q := by
  show (match fs[j]? with | some f => He.fAd K f.at_ | none => 0) = _
  cases hf : fs[j]? with
  | none => rw [hf] at e; cases e
  | some f =>
    rw [hf] at e
    exact congrArg (He.fAd K) (of_decide_eq_true e)
theorem facts_of (X : K.In h) (G : h.Ns mainGlobals mg) (ok : pnOk fs pn xs = true) (c : ∀ f ∈ faOf pn xs, f.ok K = true)
    (dat : ∀ (x : Str) (d : D), P.glo x = some d → ∃ v u, mg x = some u ∧ RelV v u ∧ ∀ m H, RepD (AdOf K w fs pn) m H d v) : Facts (AdOf K w fs pn) P pn K mg := by
  simp only [pnOk, Bool.and_eq_true, List.all_eq_true] at ok
  obtain ⟨o1, o2, o3, o4, o5, _, _⟩ := ok
  simp only [faOf, List.mem_append, List.mem_map] at c
  refine ⟨fun p hp => ?_, fun x hx => ?_, fun p hp => ?_, fun p hp => ?_, fun p hp => ?_, fun p hp => ?_, fun x hx => ?_, fun p hp => ?_, dat⟩
  · rw [ad_fn (o1 p hp)]
    exact ⟨He.glo_ok X G (c (.glo p.2) (.inl ⟨p, hp, rfl⟩)), He.keep_ok (c (.keep p.2) (.inr (.inl ⟨p, hp, rfl⟩)))⟩
  · exact He.cls_ok (c (.cls (nmC pn x)) (.inr (.inr (.inl ⟨x, hx, rfl⟩))))
  · have e : nmC pn p.1 = p.2 := of_decide_eq_true (o4 p hp)
    show mg p.2 = some (.ref (He.ga K (nmC pn p.1)))
    rw [e]
    exact He.glo_ok X G (c (.glo p.2) (.inr (.inr (.inr (.inl ⟨p, hp, rfl⟩)))))
  · rw [ad_fn (o2 p hp)]
    exact He.meth_ok (c (.meth (nmC pn p.1) p.2.1) (.inr (.inr (.inr (.inr (.inl ⟨p, hp, rfl⟩))))))
  · rw [ad_fn (o3 p hp)]
    exact He.mkr_ok (c (.mkr (nmC pn p.1)) (.inr (.inr (.inr (.inr (.inr (.inl ⟨p, hp, rfl⟩)))))))
  · exact He.noat_ok (c (.noat (nmC pn p.1) p.2) (.inr (.inr (.inr (.inr (.inr (.inr (.inl ⟨p, hp, rfl⟩))))))))
  · exact He.free_ok X G (c (.free x) (.inr (.inr (.inr (.inr (.inr (.inr (.inr (.inl ⟨x, hx, rfl⟩)))))))))
  · have e : nmC pn p.1 = p.2 := of_decide_eq_true (o5 p hp)
    show mg p.2 = some (.ref (He.ga K (nmC pn p.1))) ∧ PySem.W.excIn K (He.ga K (nmC pn p.1)) _ _ = true ∧ PySem.W.keepIn K (.ref (He.ga K (nmC pn p.1))) = true ∧ PySem.W.subIn K (.ref (He.ga K (nmC pn p.1))) (.type "BaseException") = some true ∧ PySem.W.typeIn K (.ref (He.ga K (nmC pn p.1))) = some (.type "type")
    rw [e]
    exact ⟨He.glo_ok X G (c (.glo p.2) (.inr (.inr (.inr (.inr (.inr (.inr (.inr (.inr (.inl ⟨p, hp, rfl⟩)))))))))), He.exc_ok (c (.exc p.2) (.inr (.inr (.inr (.inr (.inr (.inr (.inr (.inr (.inr (.inl ⟨p, hp, rfl⟩)))))))))))⟩
/-- the law by its calls -/
theorem law_F {Pr : Program} {fa : Addr} {d j : Nat} {f : Df} {x : Str} (c : ∃ K : PySem.W.Frag, K.In h ∧ SaysS (faOf pn xs) (fs.map Df.dd ++ xs.map Xd.dd) (tabs gs) (exB fs pn gs xs) w K) (G : h.Ns mainGlobals mg) (hm : mg f.nm = some (.ref fa)) (ok : pnOk fs pn xs = true) (hn : pn.nfn = fs.length)
    (oks : ∀ f ∈ fs, DfOk pn f) (xds : ∀ d ∈ xs, XdOk d) (kbs : KbsOk pn fs) (hf : fs[j]? = some f) (hfn : (j, f.nm) ∈ pn.fnl) (hps : f.ps = [x]) (hP : P.glo = fun x => gs.lookup x)
    (hl : ∀ ns : List Int, ns.length ≤ 63 → ∃ S', calls P fs (d + 1) j [.rl (ns.map D.int)] [] = .ok (.bl true) S') :
    ∃ (K : PySem.W.Frag) (fd : FuncData) (sp : Sp), K.In h ∧ (∀ (s : Shared) (u : Value), BindsTo s fd ⟨[u], []⟩ [(x, u)]) ∧
        (∀ (H : Hp) (a : Addr) (ns : List Int), ns.length ≤ 63 → Only H → SqL K H a (ns.map V.int) → sp [.ref a] H (fun v _ => v = .bl true) fun _ _ _ => False) ∧
        ∀ base : Heap, K.In base → base.Ns mainGlobals mg → FnG Pr w K mg base (L2.CX Pr w) (3 * d + 3) fa fd [x] sp := by
  obtain ⟨K, X, s⟩ := c
  have sD := s.t.d
  have ca : ∀ f ∈ faOf pn xs, f.ok K = true := fun f hf => sD.facts hf
  have fds : ∀ j f, fs[j]? = some f → ∃ fd, FunD K f.nm f.qual (defArgs f.st) (defBody f.st) (defScope f.st) [] [] ((AdOf K w fs pn).fn j) fd := by
    intro j f hf
    obtain ⟨fd, F⟩ := sD.defs (d := f.dd) (List.mem_append_left _ (List.mem_map_of_mem (List.mem_of_getElem? hf)))
    have e2 : (AdOf K w fs pn).fn j = He.fAd K f.at_ := by
      show (match fs[j]? with | some f => He.fAd K f.at_ | none => 0) = _
      rw [hf]
    rw [e2]
    exact ⟨fd, F⟩
  have hj : j < pn.nfn := by
    rw [hn]
    exact (List.getElem?_eq_some_iff.mp hf).1
  obtain ⟨hx0, hx3⟩ := Bool.and_eq_true_iff.mp s.more
  obtain ⟨hx1, hx2⟩ := Bool.and_eq_true_iff.mp hx3
  have hy := sysB_ok hx0
  have fct : ∀ base : Heap, K.In base → base.Ns mainGlobals mg → Facts (AdOf K w fs pn) P pn K mg := fun base X2 G2 => facts_of X2 G2 ok ca (fun x d hd => by
    rw [hP] at hd
    exact glo_dat (A := AdOf K w fs pn) X2 G2 (fun t ht => says_tab s.t ht) hx1 hd)
  have xn : ∀ base : Heap, K.In base → base.Ns mainGlobals mg → XnOk (AdOf K w fs pn) Pr w K mg base pn := by
    intro base X2 G2 q hq
    simp only [pnOk, Bool.and_eq_true, List.all_eq_true] at ok
    obtain ⟨_, _, _, _, _, o6, o7⟩ := ok
    rw [of_decide_eq_true o7] at hq
    obtain ⟨d, hd, rfl⟩ := List.mem_map.mp hq
    have ec : (AdOf K w fs pn).cl d.c = He.ga K d.x := by
      show He.ga K (nmC pn d.c) = _
      rw [of_decide_eq_true (o6 d hd)]
    dsimp only
    rw [ec]
    have cg : ∀ y, He.Fa.glo y ∈ faOf pn xs → mg y = some (.ref (He.ga K y)) := fun y hy => He.glo_ok X2 G2 (ca _ hy)
    have g1 : He.Fa.glo d.x ∈ faOf pn xs := by
      simp only [faOf, List.mem_append, List.mem_map]
      exact .inr (.inr (.inr (.inr (.inr (.inr (.inr (.inr (.inr (.inr (.inl ⟨d, hd, rfl⟩))))))))))
    have g2 : He.Fa.glo d.b ∈ faOf pn xs := by
      simp only [faOf, List.mem_append, List.mem_map]
      exact .inr (.inr (.inr (.inr (.inr (.inr (.inr (.inr (.inr (.inr (.inr ⟨d, hd, rfl⟩))))))))))
    obtain ⟨fd, F⟩ := sD.defs (d := d.dd) (List.mem_append_right _ (List.mem_map_of_mem hd))
    have T := xinB_ok (List.all_eq_true.mp hx2 d hd)
    obtain ⟨r1, r2⟩ := ini_ok (Pr := Pr) (w := w) (base := base) F (xds d hd) T (cg _ g2)
    exact ⟨cg _ g1, _, _, fd, _, T, r1, r2⟩
  have fcth := fct h X G
  have ef := fcth.fn _ hfn
  have e3 : fa = (AdOf K w fs pn).fn j := by
    have := hm.symm.trans ef.1
    cases this
    rfl
  obtain ⟨fd, F⟩ := fds j f hf
  have b := FunD.bindsA (ps := [x]) F fun a b c d e g us hl => by
    have := (oks f (List.mem_of_getElem? hf)).bi a b c d e g us (by rw [hl, hps])
    rw [hps] at this
    exact this
  refine ⟨K, fd, spC (AdOf K w fs pn) 1 (calls P fs (d + 1) j), X, fun s v => b s [v] rfl, fun H a ns hlen hO hS => law_sp hl H a ns hlen hO hS, fun base X2 G2 => ?_⟩
  have o := oks f (List.mem_of_getElem? hf)
  have e : calls P fs (d + 1) j = runB P (calls P fs d) f.N.length f.ps.length f.T := by
    funext ds S
    show (match fs[j]? with
      | some f => runB P (calls P fs d) f.N.length f.ps.length f.T
      | none => fun _ _ => .bad) ds S = _
    rw [hf]
  have r := fn_ok (mg := mg) (w := w) (Pr := Pr) (base := base) F o.sc rfl rfl hy (fct base X2 G2) o.ck (xn base X2 G2) (all_ok (w := w) (Pr := Pr) (base := base) hn rfl rfl hy (xn base X2 G2) (fct base X2 G2) oks kbs fds d)
  rw [e3, e]
  rw [hps] at r
  rw [hps]
  exact r
end
end DI

set_option Elab.async false
set_option linter.all false
set_option maxRecDepth 100000
namespace K29
open PySem L2 DI
def top (i : Nat) : Stmt := PySem.Challenge.pw_flowboxes_k29_strips_judged.main.body.getD i (.Pass ⟨0, 0, 0, 0⟩)
def pn : PN where
  nfn := 18
  fnl := [(0, ("_law_digit" : Str)), (1, ("_law_one" : Str)), (2, ("_law_asked" : Str)), (3, ("_law_spot" : Str)), (4, ("_law_placed" : Str)), (5, ("_law_rows" : Str)), (7, ("is_asked_row" : Str)), (13, ("strip_fault" : Str)), (14, ("_law_spoilt" : Str)), (15, ("_law_right" : Str)), (16, ("_law_cell_at" : Str)), (17, ("law" : Str))]
  cls := [0]
  cll := [(0, ("Strip" : Str))]
  mts := [(0, ("lefts" : Str), 8), (0, ("rights" : Str), 9), (0, ("spot" : Str), 10), (0, ("below" : Str), 11), (0, ("place" : Str), 12)]
  inis := [(0, 6)]
  flds := [(0, ("rows" : Str))]
  free := [("all" : Str), ("bool" : Str), ("enumerate" : Str), ("int" : Str), ("isinstance" : Str), ("len" : Str), ("list" : Str), ("max" : Str), ("min" : Str), ("range" : Str), ("repr" : Str), ("str" : Str), ("tuple" : Str)]
  xcs := [(2, ("NoSide" : Str))]
  xns := []
  kbs := [(13, 0, [("rows" : Str)], [0])]
/-! law_digit -/
abbrev s_law_digit : Stmt := top 10
def t_law_digit_1 : Sms := (.cons (.exp (.bm .extend (.var 0) (.cons (.lst (.cons (.bin .Mod (.bi .int_ (.cons (.ix (.var 0) (.cst (.int 0))) .nil)) (.cst (.int 2147483647))) (.cons (.cst (.int 0)) .nil))) .nil)))
  (.cons (.sub (.var 0) (.cst (.int 0)) (.ix (.lst (.cons (.cst (.int 0)) (.cons (.ix (.var 0) (.cst (.int 0))) .nil))) (.bi .int_ (.cons (.cmp .GtE (.ix (.var 0) (.cst (.int 0))) (.bin .Pow (.cst (.int 10)) (.cst (.int 18)))) .nil))))
  .nil))
def t_law_digit_2 : Sms := (.cons (.set 2 (.bin .Mod (.bi .int_ (.cons (.ix (.var 0) (.cst (.int 0))) .nil)) (.var 1)))
  (.cons (.sub (.var 0) (.cst (.int 0)) (.bin .FloorDiv (.ix (.var 0) (.cst (.int 0))) (.var 1)))
  (.cons (.ret (.var 2))
  .nil)))
def t_law_digit_3 : Sms := (.cons (.sub (.var 0) (.cst (.int 2)) (.bin .Add (.ix (.var 0) (.cst (.int 2))) (.cst (.int 1))))
  (.cons (.set 3 (.bin .Mod (.bi .int_ (.cons (.bin .Mult (.bin .Add (.bin .Add (.ix (.var 0) (.cst (.int 1))) (.bin .Mult (.cst (.int 7919)) (.ix (.var 0) (.cst (.int 2))))) (.cst (.int 1))) (.cst (.int 48271))) .nil)) (.cst (.int 2147483647))))
  (.cons (.set 3 (.bin .Mod (.bi .int_ (.cons (.bin .Mult (.var 3) (.bin .Add (.bin .FloorDiv (.var 3) (.cst (.int 1009))) (.cst (.int 69621)))) .nil)) (.cst (.int 2147483647))))
  (.cons (.ret (.bin .Mod (.bin .Mod (.bi .int_ (.cons (.bin .Mult (.var 3) (.bin .Add (.bin .FloorDiv (.var 3) (.cst (.int 2003))) (.cst (.int 40692)))) .nil)) (.cst (.int 2147483399))) (.var 1)))
  .nil))))
def t_law_digit_4 : Sms := (.cons (.ite (.cmp .GtE (.ix (.var 0) (.cst (.int 0))) (.var 1)) t_law_digit_2 .nil)
  t_law_digit_3)
def t_law_digit : Sms := (.cons (.ite (.cmp .Eq (.bi .len (.cons (.var 0) .nil)) (.cst (.int 1))) t_law_digit_1 .nil)
  t_law_digit_4)
def N_law_digit : List Str := [("state" : Str), ("base" : Str), ("found" : Str), ("mixed" : Str)]
def ps_law_digit : List Str := [("state" : Str), ("base" : Str)]
def d_law_digit : Df := ⟨(("_law_digit" : Str), none), ("_law_digit" : Str), ("_law_digit" : Str), s_law_digit, N_law_digit, ps_law_digit, t_law_digit⟩
theorem o_law_digit : DfOk pn d_law_digit := ⟨⟨rfl, rfl, rfl, by decide +kernel, rfl, by decide +kernel, by decide +kernel⟩, by decide +kernel, fun _ _ _ _ _ _ us hl => match us, hl with | [_, _], _ => rfl⟩
/-! law_one -/
abbrev s_law_one : Stmt := top 11
def t_law_one : Sms := (.cons (.ret (.ix (.var 1) (.cal 0 (.cons (.var 0) (.cons (.bi .len (.cons (.var 1) .nil)) .nil)))))
  .nil)
def N_law_one : List Str := [("state" : Str), ("some" : Str)]
def ps_law_one : List Str := [("state" : Str), ("some" : Str)]
def d_law_one : Df := ⟨(("_law_one" : Str), none), ("_law_one" : Str), ("_law_one" : Str), s_law_one, N_law_one, ps_law_one, t_law_one⟩
theorem o_law_one : DfOk pn d_law_one := ⟨⟨rfl, rfl, rfl, by decide +kernel, rfl, by decide +kernel, by decide +kernel⟩, by decide +kernel, fun _ _ _ _ _ _ us hl => match us, hl with | [_, _], _ => rfl⟩
/-! law_asked -/
abbrev s_law_asked : Stmt := top 15
def t_law_asked : Sms := (.cons (.set 2 (.bin .Sub (.cal 0 (.cons (.var 0) (.cons (.var 1) .nil))) (.bin .FloorDiv (.var 1) (.cst (.int 3)))))
  (.cons (.set 3 (.bin .Add (.var 2) (.cal 1 (.cons (.var 0) (.cons (.lst (.cons (.var 1) (.cons (.var 1) (.cons (.cal 0 (.cons (.var 0) (.cons (.var 1) .nil))) (.cons (.cst (.int 0)) (.cons (.bin .Sub (.cst (.int 0)) (.cal 0 (.cons (.var 0) (.cons (.cst (.int 9)) .nil)))) .nil)))))) .nil)))))
  (.cons (.set 4 (.cal 1 (.cons (.var 0) (.cons (.lst (.cons (.cal 0 (.cons (.var 0) (.cons (.var 1) .nil))) (.cons (.cal 0 (.cons (.var 0) (.cons (.bin .Add (.cst (.int 1)) (.bin .FloorDiv (.var 1) (.cst (.int 3)))) .nil))) (.cons (.cst (.int 0)) (.cons (.bin .Sub (.cst (.int 0)) (.cal 0 (.cons (.var 0) (.cons (.cst (.int 9)) .nil)))) .nil))))) .nil))))
  (.cons (.set 5 (.cal 1 (.cons (.var 0) (.cons (.lst (.cons (.cal 0 (.cons (.var 0) (.cons (.var 1) .nil))) (.cons (.bin .Add (.cst (.int 1)) (.cal 0 (.cons (.var 0) (.cons (.cst (.int 9)) .nil)))) (.cons (.cst (.int 0)) (.cons (.bin .Sub (.cst (.int 0)) (.cal 0 (.cons (.var 0) (.cons (.cst (.int 9)) .nil)))) .nil))))) .nil))))
  (.cons (.ret (.tup (.cons (.cal 1 (.cons (.var 0) (.cons (.lst (.cons (.cst (.str ("left" : Str))) (.cons (.cst (.str ("right" : Str))) .nil))) .nil))) (.cons (.var 2) (.cons (.var 3) (.cons (.var 4) (.cons (.var 5) (.cons (.bin .Sub (.cal 0 (.cons (.var 0) (.cons (.bin .Add (.cst (.int 1)) (.bin .FloorDiv (.var 1) (.cst (.int 4)))) .nil))) (.cst (.int 3))) .nil))))))))
  .nil)))))
def N_law_asked : List Str := [("state" : Str), ("most" : Str), ("begin" : Str), ("far" : Str), ("wide" : Str), ("high" : Str)]
def ps_law_asked : List Str := [("state" : Str), ("most" : Str)]
def d_law_asked : Df := ⟨(("_law_asked" : Str), none), ("_law_asked" : Str), ("_law_asked" : Str), s_law_asked, N_law_asked, ps_law_asked, t_law_asked⟩
theorem o_law_asked : DfOk pn d_law_asked := ⟨⟨rfl, rfl, rfl, by decide +kernel, rfl, by decide +kernel, by decide +kernel⟩, by decide +kernel, fun _ _ _ _ _ _ us hl => match us, hl with | [_, _], _ => rfl⟩
/-! law_spot -/
abbrev s_law_spot : Stmt := top 13
def t_law_spot_1 : Sms := (.cons (.ret (.cst .non))
  .nil)
def t_law_spot_2 : Sms := (.cons (.set 8 (.lc [(("one" : Str), 11)] (.nm 11) (.ex (.var 6)) (.cons (.cmp .Lt (.var 11) (.bin .Add (.var 7) (.var 3))) .nil) (.var 11)))
  (.cons (.ret (.ite (.cmp .NotEq (.var 8) (.lst .nil)) (.cst .non) (.var 7)))
  .nil))
def t_law_spot_3 : Sms := (.cons (.set 7 (.bi .max1 (.cons (.bin .Add (.var 5) (.lst (.cons (.ix (.var 2) (.cst (.int 0))) .nil))) .nil)))
  (.cons (.ite (.and_ (.cmp .Gt (.var 7) (.ix (.var 2) (.cst (.int 0)))) (.cmp .Gt (.bin .Add (.var 7) (.var 3)) (.ix (.var 2) (.cst (.int 1))))) t_law_spot_1 .nil)
  t_law_spot_2))
def t_law_spot_4 : Sms := (.cons (.ret (.cst .non))
  .nil)
def t_law_spot_5 : Sms := (.cons (.set 9 (.lc [(("one" : Str), 11)] (.nm 11) (.ex (.var 5)) (.cons (.cmp .Gt (.var 11) (.bin .Sub (.var 7) (.var 3))) .nil) (.var 11)))
  (.cons (.ret (.ite (.cmp .NotEq (.var 9) (.lst .nil)) (.cst .non) (.bin .Sub (.var 7) (.var 3))))
  .nil))
def t_law_spot_6 : Sms := (.cons (.set 7 (.bi .min1 (.cons (.bin .Add (.var 6) (.lst (.cons (.ix (.var 2) (.cst (.int 1))) .nil))) .nil)))
  (.cons (.ite (.and_ (.cmp .Lt (.var 7) (.ix (.var 2) (.cst (.int 1)))) (.cmp .Lt (.bin .Sub (.var 7) (.var 3)) (.ix (.var 2) (.cst (.int 0))))) t_law_spot_4 .nil)
  t_law_spot_5))
def t_law_spot : Sms := (.cons (.set 5 (.lc [(("row" : Str), 10)] (.nm 10) (.ex (.var 0)) (.cons (.and_ (.cmp .Eq (.ix (.var 10) (.cst (.int 0))) (.cst (.str ("left" : Str)))) (.cmp .Gt (.ix (.var 10) (.cst (.int 4))) (.var 4))) .nil) (.ix (.var 10) (.cst (.int 3)))))
  (.cons (.set 6 (.lc [(("row" : Str), 10)] (.nm 10) (.ex (.var 0)) (.cons (.and_ (.cmp .Eq (.ix (.var 10) (.cst (.int 0))) (.cst (.str ("right" : Str)))) (.cmp .Gt (.ix (.var 10) (.cst (.int 4))) (.var 4))) .nil) (.ix (.var 10) (.cst (.int 1)))))
  (.cons (.ite (.cmp .Eq (.var 1) (.cst (.str ("left" : Str)))) t_law_spot_3 .nil)
  t_law_spot_6)))
def N_law_spot : List Str := [("strip" : Str), ("hand" : Str), ("ends" : Str), ("wide" : Str), ("y" : Str), ("lefts" : Str), ("rights" : Str), ("at" : Str), ("near" : Str), ("far" : Str), ("row" : Str), ("one" : Str)]
def ps_law_spot : List Str := [("strip" : Str), ("hand" : Str), ("ends" : Str), ("wide" : Str), ("y" : Str)]
def d_law_spot : Df := ⟨(("_law_spot" : Str), none), ("_law_spot" : Str), ("_law_spot" : Str), s_law_spot, N_law_spot, ps_law_spot, t_law_spot⟩
theorem o_law_spot : DfOk pn d_law_spot := ⟨⟨rfl, rfl, rfl, by decide +kernel, rfl, by decide +kernel, by decide +kernel⟩, by decide +kernel, fun _ _ _ _ _ _ us hl => match us, hl with | [_, _, _, _, _], _ => rfl⟩
/-! law_placed -/
abbrev s_law_placed : Stmt := top 14
def t_law_placed_1 : Sms := (.cons (.ret (.tup (.cons (.var 1) (.cons (.var 9) (.cons (.var 8) (.cons (.bin .Add (.var 9) (.var 6)) (.cons (.bin .Add (.var 8) (.var 7)) .nil)))))))
  .nil)
def t_law_placed_2 : Sms := (.cons (.set 9 (.cal 3 (.cons (.var 0) (.cons (.var 1) (.cons (.var 2) (.cons (.var 6) (.cons (.var 8) .nil)))))))
  (.cons (.ite (.cmp .IsNot (.var 9) (.cst .non)) t_law_placed_1 .nil)
  .nil))
def t_law_placed_3 : Sms := (.cons (.ret (.cst .non))
  .nil)
def t_law_placed : Sms := (.cons (.set 5 (.bi .max1 (.cons (.bin .Add (.lst (.cons (.var 4) .nil)) (.lc [(("row" : Str), 10)] (.nm 10) (.ex (.var 0)) .nil (.ix (.var 10) (.cst (.int 2))))) .nil)))
  (.cons (.par 6 7 (.bi .max2 (.cons (.cst (.int 0)) (.cons (.ix (.var 3) (.cst (.int 0))) .nil))) (.bi .max2 (.cons (.cst (.int 0)) (.cons (.ix (.var 3) (.cst (.int 1))) .nil))))
  (.cons (.for_ (.nm 8) (.rng2 (.var 5) (.bin .Add (.bi .max1 (.cons (.bin .Add (.lst (.cons (.var 5) .nil)) (.lc [(("row" : Str), 10)] (.nm 10) (.ex (.var 0)) .nil (.ix (.var 10) (.cst (.int 4))))) .nil)) (.cst (.int 1)))) t_law_placed_2)
  t_law_placed_3)))
def N_law_placed : List Str := [("strip" : Str), ("hand" : Str), ("ends" : Str), ("size" : Str), ("least" : Str), ("begin" : Str), ("wide" : Str), ("high" : Str), ("y" : Str), ("at" : Str), ("row" : Str)]
def ps_law_placed : List Str := [("strip" : Str), ("hand" : Str), ("ends" : Str), ("size" : Str), ("least" : Str)]
def d_law_placed : Df := ⟨(("_law_placed" : Str), none), ("_law_placed" : Str), ("_law_placed" : Str), s_law_placed, N_law_placed, ps_law_placed, t_law_placed⟩
theorem o_law_placed : DfOk pn d_law_placed := ⟨⟨rfl, rfl, rfl, by decide +kernel, rfl, by decide +kernel, by decide +kernel⟩, by decide +kernel, fun _ _ _ _ _ _ us hl => match us, hl with | [_, _, _, _, _], _ => rfl⟩
/-! law_rows -/
abbrev s_law_rows : Stmt := top 16
def t_law_rows_1 : Sms := (.cons (.set 4 (.cal 2 (.cons (.var 0) (.cons (.cst (.int 40)) .nil))))
  (.cons (.exp (.bm .append (.var 1) (.cons (.cal 4 (.cons (.var 1) (.cons (.ix (.var 4) (.cst (.int 0))) (.cons (.tup (.cons (.ix (.var 4) (.cst (.int 1))) (.cons (.ix (.var 4) (.cst (.int 2))) .nil))) (.cons (.tup (.cons (.ix (.var 4) (.cst (.int 3))) (.cons (.ix (.var 4) (.cst (.int 4))) .nil))) (.cons (.ix (.var 4) (.cst (.int 5))) .nil)))))) .nil)))
  (.cons (.exp (.bm .append (.var 2) (.cons (.bin .Add (.var 4) (.tup (.cons (.ix (.var 1) (.neg (.cst (.int 1)))) .nil))) .nil)))
  .nil)))
def t_law_rows_2 : Sms := (.cons (.ret (.var 2))
  .nil)
def t_law_rows : Sms := (.cons (.par 1 2 (.lst .nil) (.lst .nil))
  (.cons (.for_ (.nm 3) (.rng1 (.bin .Add (.cst (.int 1)) (.cal 0 (.cons (.var 0) (.cons (.cst (.int 8)) .nil))))) t_law_rows_1)
  t_law_rows_2))
def N_law_rows : List Str := [("state" : Str), ("known" : Str), ("some_rows" : Str), ("turn" : Str), ("ask" : Str)]
def ps_law_rows : List Str := [("state" : Str)]
def d_law_rows : Df := ⟨(("_law_rows" : Str), none), ("_law_rows" : Str), ("_law_rows" : Str), s_law_rows, N_law_rows, ps_law_rows, t_law_rows⟩
theorem o_law_rows : DfOk pn d_law_rows := ⟨⟨rfl, rfl, rfl, by decide +kernel, rfl, by decide +kernel, by decide +kernel⟩, by decide +kernel, fun _ _ _ _ _ _ us hl => match us, hl with | [_], _ => rfl⟩
/-! Strip_init -/
abbrev s_Strip_init : Stmt := inClass (top 5) 0
def t_Strip_init : Sms := (.cons (.fld 0 (.var 0) ("rows" : Str) (.lst .nil))
  .nil)
def N_Strip_init : List Str := [("self" : Str)]
def ps_Strip_init : List Str := [("self" : Str)]
def d_Strip_init : Df := ⟨(("Strip" : Str), some ("__init__" : Str)), ("__init__" : Str), ("Strip.__init__" : Str), s_Strip_init, N_Strip_init, ps_Strip_init, t_Strip_init⟩
theorem o_Strip_init : DfOk pn d_Strip_init := ⟨⟨rfl, rfl, rfl, by decide +kernel, rfl, by decide +kernel, by decide +kernel⟩, by decide +kernel, fun _ _ _ _ _ _ us hl => match us, hl with | [_], _ => rfl⟩
/-! is_asked_row -/
abbrev s_is_asked_row : Stmt := top 6
def t_is_asked_row_1 : Sms := (.cons (.ret (.cst (.bl false)))
  .nil)
def t_is_asked_row_2 : Sms := (.cons (.ret (.cst (.bl false)))
  .nil)
def t_is_asked_row_3 : Sms := (.cons (.ret (.bi .all_ (.cons (.lc [(("value" : Str), 2)] (.nm 2) (.ex (.bin .Add (.sl (.var 0) (.so (.cst (.int 1))) (.so (.cst (.int 6)))) (.sl (.var 1) (.so (.cst (.int 1))) .no))) .nil (.and_ (.bi .isi (.cons (.var 2) (.cons (.bty "int") .nil))) (.not_ (.bi .isi (.cons (.var 2) (.cons (.bty "bool") .nil)))))) .nil)))
  .nil)
def t_is_asked_row_4 : Sms := (.cons (.set 1 (.ix (.var 0) (.cst (.int 6))))
  (.cons (.ite (.or_ (.not_ (.bi .isi (.cons (.var 1) (.cons (.bty "tuple") .nil)))) (.or_ (.cmp .NotEq (.bi .len (.cons (.var 1) .nil)) (.cst (.int 5))) (.not_ (.bi .isi (.cons (.ix (.var 1) (.cst (.int 0))) (.cons (.bty "str") .nil)))))) t_is_asked_row_2 .nil)
  t_is_asked_row_3))
def t_is_asked_row : Sms := (.cons (.ite (.or_ (.not_ (.bi .isi (.cons (.var 0) (.cons (.bty "tuple") .nil)))) (.or_ (.cmp .NotEq (.bi .len (.cons (.var 0) .nil)) (.cst (.int 7))) (.or_ (.not_ (.bi .isi (.cons (.ix (.var 0) (.cst (.int 0))) (.cons (.bty "str") .nil)))) (.cmp .NotIn (.ix (.var 0) (.cst (.int 0))) (.tup (.cons (.cst (.str ("left" : Str))) (.cons (.cst (.str ("right" : Str))) .nil))))))) t_is_asked_row_1 .nil)
  t_is_asked_row_4)
def N_is_asked_row : List Str := [("row" : Str), ("place" : Str), ("value" : Str)]
def ps_is_asked_row : List Str := [("row" : Str)]
def d_is_asked_row : Df := ⟨(("is_asked_row" : Str), none), ("is_asked_row" : Str), ("is_asked_row" : Str), s_is_asked_row, N_is_asked_row, ps_is_asked_row, t_is_asked_row⟩
theorem o_is_asked_row : DfOk pn d_is_asked_row := ⟨⟨rfl, rfl, rfl, by decide +kernel, rfl, by decide +kernel, by decide +kernel⟩, by decide +kernel, fun _ _ _ _ _ _ us hl => match us, hl with | [_], _ => rfl⟩
/-! Strip_lefts -/
abbrev s_Strip_lefts : Stmt := inClass (top 5) 3
def t_Strip_lefts : Sms := (.cons (.ret (.bi .max1 (.cons (.bin .Add (.lst (.cons (.var 1) .nil)) (.lc [(("row" : Str), 3)] (.nm 3) (.ex (.fld 0 (.var 0) ("rows" : Str))) (.cons (.and_ (.cmp .Eq (.ix (.var 3) (.cst (.int 0))) (.cst (.str ("left" : Str)))) (.cmp .Gt (.ix (.var 3) (.cst (.int 4))) (.var 2))) .nil) (.ix (.var 3) (.cst (.int 3))))) .nil)))
  .nil)
def N_Strip_lefts : List Str := [("self" : Str), ("start" : Str), ("y" : Str), ("row" : Str)]
def ps_Strip_lefts : List Str := [("self" : Str), ("start" : Str), ("y" : Str)]
def d_Strip_lefts : Df := ⟨(("Strip" : Str), some ("lefts" : Str)), ("lefts" : Str), ("Strip.lefts" : Str), s_Strip_lefts, N_Strip_lefts, ps_Strip_lefts, t_Strip_lefts⟩
theorem o_Strip_lefts : DfOk pn d_Strip_lefts := ⟨⟨rfl, rfl, rfl, by decide +kernel, rfl, by decide +kernel, by decide +kernel⟩, by decide +kernel, fun _ _ _ _ _ _ us hl => match us, hl with | [_, _, _], _ => rfl⟩
/-! Strip_rights -/
abbrev s_Strip_rights : Stmt := inClass (top 5) 4
def t_Strip_rights : Sms := (.cons (.ret (.bi .min1 (.cons (.bin .Add (.lst (.cons (.var 1) .nil)) (.lc [(("row" : Str), 3)] (.nm 3) (.ex (.fld 0 (.var 0) ("rows" : Str))) (.cons (.and_ (.cmp .Eq (.ix (.var 3) (.cst (.int 0))) (.cst (.str ("right" : Str)))) (.cmp .Gt (.ix (.var 3) (.cst (.int 4))) (.var 2))) .nil) (.ix (.var 3) (.cst (.int 1))))) .nil)))
  .nil)
def N_Strip_rights : List Str := [("self" : Str), ("end" : Str), ("y" : Str), ("row" : Str)]
def ps_Strip_rights : List Str := [("self" : Str), ("end" : Str), ("y" : Str)]
def d_Strip_rights : Df := ⟨(("Strip" : Str), some ("rights" : Str)), ("rights" : Str), ("Strip.rights" : Str), s_Strip_rights, N_Strip_rights, ps_Strip_rights, t_Strip_rights⟩
theorem o_Strip_rights : DfOk pn d_Strip_rights := ⟨⟨rfl, rfl, rfl, by decide +kernel, rfl, by decide +kernel, by decide +kernel⟩, by decide +kernel, fun _ _ _ _ _ _ us hl => match us, hl with | [_, _, _], _ => rfl⟩
/-! Strip_spot -/
abbrev s_Strip_spot : Stmt := inClass (top 5) 5
def t_Strip_spot_1 : Sms := (.cons (.ret (.cst .non))
  .nil)
def t_Strip_spot_2 : Sms := (.cons (.ret (.var 6))
  .nil)
def t_Strip_spot_3 : Sms := (.cons (.set 8 (.lc [(("row" : Str), 9)] (.nm 9) (.ex (.fld 0 (.var 0) ("rows" : Str))) (.cons (.and_ (.cmp .Eq (.ix (.var 9) (.cst (.int 0))) (.cst (.str ("right" : Str)))) (.cmp .Gt (.ix (.var 9) (.cst (.int 4))) (.var 5))) .nil) (.ix (.var 9) (.cst (.int 1)))))
  (.cons (.ite (.or_ (.and_ (.cmp .NotEq (.var 6) (.var 2)) (.cmp .Gt (.bin .Add (.var 6) (.var 4)) (.var 3))) (.and_ (.var 8) (.cmp .Gt (.bin .Add (.var 6) (.var 4)) (.bi .min1 (.cons (.var 8) .nil))))) t_Strip_spot_1 .nil)
  t_Strip_spot_2))
def t_Strip_spot_4 : Sms := (.cons (.ret (.cst .non))
  .nil)
def t_Strip_spot_5 : Sms := (.cons (.ret (.bin .Sub (.var 7) (.var 4)))
  .nil)
def t_Strip_spot_6 : Sms := (.cons (.set 8 (.lc [(("row" : Str), 9)] (.nm 9) (.ex (.fld 0 (.var 0) ("rows" : Str))) (.cons (.and_ (.cmp .Eq (.ix (.var 9) (.cst (.int 0))) (.cst (.str ("left" : Str)))) (.cmp .Gt (.ix (.var 9) (.cst (.int 4))) (.var 5))) .nil) (.ix (.var 9) (.cst (.int 3)))))
  (.cons (.ite (.or_ (.and_ (.cmp .NotEq (.var 7) (.var 3)) (.cmp .Lt (.bin .Sub (.var 7) (.var 4)) (.var 2))) (.and_ (.var 8) (.cmp .Lt (.bin .Sub (.var 7) (.var 4)) (.bi .max1 (.cons (.var 8) .nil))))) t_Strip_spot_4 .nil)
  t_Strip_spot_5))
def t_Strip_spot : Sms := (.cons (.par 6 7 (.mth 0 8 (.var 0) ("lefts" : Str) (.cons (.var 2) (.cons (.var 5) .nil))) (.mth 0 9 (.var 0) ("rights" : Str) (.cons (.var 3) (.cons (.var 5) .nil))))
  (.cons (.ite (.cmp .Eq (.var 1) (.cst (.str ("left" : Str)))) t_Strip_spot_3 .nil)
  t_Strip_spot_6))
def N_Strip_spot : List Str := [("self" : Str), ("side" : Str), ("start" : Str), ("end" : Str), ("width" : Str), ("y" : Str), ("left" : Str), ("right" : Str), ("others" : Str), ("row" : Str)]
def ps_Strip_spot : List Str := [("self" : Str), ("side" : Str), ("start" : Str), ("end" : Str), ("width" : Str), ("y" : Str)]
def d_Strip_spot : Df := ⟨(("Strip" : Str), some ("spot" : Str)), ("spot" : Str), ("Strip.spot" : Str), s_Strip_spot, N_Strip_spot, ps_Strip_spot, t_Strip_spot⟩
theorem o_Strip_spot : DfOk pn d_Strip_spot := ⟨⟨rfl, rfl, rfl, by decide +kernel, rfl, by decide +kernel, by decide +kernel⟩, by decide +kernel, fun _ _ _ _ _ _ us hl => match us, hl with | [_, _, _, _, _, _], _ => rfl⟩
/-! Strip_below -/
abbrev s_Strip_below : Stmt := inClass (top 5) 9
def t_Strip_below : Sms := (.cons (.set 2 (.lc [(("row" : Str), 3)] (.nm 3) (.ex (.fld 0 (.var 0) ("rows" : Str))) (.cons (.cmp .Gt (.ix (.var 3) (.cst (.int 4))) (.var 1)) .nil) (.ix (.var 3) (.cst (.int 4)))))
  (.cons (.ret (.ite (.var 2) (.bi .min1 (.cons (.var 2) .nil)) (.cst .non)))
  .nil))
def N_Strip_below : List Str := [("self" : Str), ("top" : Str), ("found" : Str), ("row" : Str)]
def ps_Strip_below : List Str := [("self" : Str), ("top" : Str)]
def d_Strip_below : Df := ⟨(("Strip" : Str), some ("below" : Str)), ("below" : Str), ("Strip.below" : Str), s_Strip_below, N_Strip_below, ps_Strip_below, t_Strip_below⟩
theorem o_Strip_below : DfOk pn d_Strip_below := ⟨⟨rfl, rfl, rfl, by decide +kernel, rfl, by decide +kernel, by decide +kernel⟩, by decide +kernel, fun _ _ _ _ _ _ us hl => match us, hl with | [_, _], _ => rfl⟩
/-! Strip_place -/
abbrev s_Strip_place : Stmt := inClass (top 5) 6
def t_Strip_place_1 : Sms := (.cons (.rai 2 ("NoSide" : Str))
  .nil)
def t_Strip_place_2 : Sms := (.cons (.set 9 (.mth 0 11 (.var 0) ("below" : Str) (.cons (.var 9) .nil)))
  (.cons (.set 10 (.mth 0 10 (.var 0) ("spot" : Str) (.cons (.var 1) (.cons (.var 2) (.cons (.var 3) (.cons (.var 7) (.cons (.var 9) .nil)))))))
  .nil))
def t_Strip_place_3 : Sms := (.cons (.exp (.bm .append (.fld 0 (.var 0) ("rows" : Str)) (.cons (.tup (.cons (.var 1) (.cons (.var 10) (.cons (.var 9) (.cons (.bin .Add (.var 10) (.var 7)) (.cons (.bin .Add (.var 9) (.var 8)) .nil)))))) .nil)))
  (.cons (.ret (.ix (.fld 0 (.var 0) ("rows" : Str)) (.neg (.cst (.int 1)))))
  .nil))
def t_Strip_place_4 : Sms := (.cons (.par 7 8 (.bi .max2 (.cons (.cst (.int 0)) (.cons (.var 4) .nil))) (.bi .max2 (.cons (.cst (.int 0)) (.cons (.var 5) .nil))))
  (.cons (.set 9 (.bi .max1 (.cons (.bin .Add (.lst (.cons (.var 6) .nil)) (.lc [(("row" : Str), 11)] (.nm 11) (.ex (.fld 0 (.var 0) ("rows" : Str))) .nil (.ix (.var 11) (.cst (.int 2))))) .nil)))
  (.cons (.set 10 (.mth 0 10 (.var 0) ("spot" : Str) (.cons (.var 1) (.cons (.var 2) (.cons (.var 3) (.cons (.var 7) (.cons (.var 9) .nil)))))))
  (.cons (.whl (.cmp .Is (.var 10) (.cst .non)) t_Strip_place_2)
  t_Strip_place_3))))
def t_Strip_place : Sms := (.cons (.ite (.or_ (.not_ (.bi .isi (.cons (.var 1) (.cons (.bty "str") .nil)))) (.cmp .NotIn (.var 1) (.tup (.cons (.cst (.str ("left" : Str))) (.cons (.cst (.str ("right" : Str))) .nil))))) t_Strip_place_1 .nil)
  t_Strip_place_4)
def N_Strip_place : List Str := [("self" : Str), ("side" : Str), ("start" : Str), ("end" : Str), ("width" : Str), ("height" : Str), ("top" : Str), ("wide" : Str), ("high" : Str), ("y" : Str), ("left" : Str), ("row" : Str)]
def ps_Strip_place : List Str := [("self" : Str), ("side" : Str), ("start" : Str), ("end" : Str), ("width" : Str), ("height" : Str), ("top" : Str)]
def d_Strip_place : Df := ⟨(("Strip" : Str), some ("place" : Str)), ("place" : Str), ("Strip.place" : Str), s_Strip_place, N_Strip_place, ps_Strip_place, t_Strip_place⟩
theorem o_Strip_place : DfOk pn d_Strip_place := ⟨⟨rfl, rfl, rfl, by decide +kernel, rfl, by decide +kernel, by decide +kernel⟩, by decide +kernel, fun _ _ _ _ _ _ us hl => match us, hl with | [_, _, _, _, _, _, _], _ => rfl⟩
/-! strip_fault -/
abbrev s_strip_fault : Stmt := top 7
def t_strip_fault_1 : Sms := (.cons (.ret (.neg (.cst (.int 1))))
  .nil)
def t_strip_fault_2 : Sms := (.cons (.ret (.var 2))
  .nil)
def t_strip_fault_3 : Sms := (.cons (.ite (.or_ (.not_ (.cal 7 (.cons (.var 3) .nil))) (.cmp .NotEq (.mth 0 12 (.var 1) ("place" : Str) (.cons (.ix (.var 3) (.cst (.int 0))) (.cons (.ix (.var 3) (.cst (.int 1))) (.cons (.ix (.var 3) (.cst (.int 2))) (.cons (.ix (.var 3) (.cst (.int 3))) (.cons (.ix (.var 3) (.cst (.int 4))) (.cons (.ix (.var 3) (.cst (.int 5))) .nil))))))) (.ix (.var 3) (.cst (.int 6))))) t_strip_fault_2 .nil)
  .nil)
def t_strip_fault_4 : Sms := (.cons (.ret (.cst .non))
  .nil)
def t_strip_fault_5 : Sms := (.cons (.set 1 (.mk 0 6 .nil))
  (.cons (.for_ (.tp [2, 3]) (.enum (.var 0)) t_strip_fault_3)
  t_strip_fault_4))
def t_strip_fault : Sms := (.cons (.ite (.not_ (.bi .isi (.cons (.var 0) (.cons (.bty "list") .nil)))) t_strip_fault_1 .nil)
  t_strip_fault_5)
def N_strip_fault : List Str := [("rows" : Str), ("strip" : Str), ("k" : Str), ("row" : Str)]
def ps_strip_fault : List Str := [("rows" : Str)]
def d_strip_fault : Df := ⟨(("strip_fault" : Str), none), ("strip_fault" : Str), ("strip_fault" : Str), s_strip_fault, N_strip_fault, ps_strip_fault, t_strip_fault⟩
theorem o_strip_fault : DfOk pn d_strip_fault := ⟨⟨rfl, rfl, rfl, by decide +kernel, rfl, by decide +kernel, by decide +kernel⟩, by decide +kernel, fun _ _ _ _ _ _ us hl => match us, hl with | [_], _ => rfl⟩
/-! law_spoilt -/
abbrev s_law_spoilt : Stmt := top 17
def t_law_spoilt : Sms := (.cons (.par 2 3 (.bi .list_ (.cons (.ix (.var 1) (.cst (.int 6))) .nil)) (.bin .Add (.cst (.int 1)) (.cal 0 (.cons (.var 0) (.cons (.cst (.int 4)) .nil)))))
  (.cons (.sub (.var 2) (.var 3) (.bin .Add (.ix (.var 2) (.var 3)) (.cal 1 (.cons (.var 0) (.cons (.lst (.cons (.cst (.int 1)) (.cons (.neg (.cst (.int 1))) (.cons (.bin .Pow (.cst (.int 10)) (.cst (.int 20))) .nil)))) .nil)))))
  (.cons (.set 4 (.lst (.cons (.bin .Add (.sl (.var 1) .no (.so (.cst (.int 6)))) (.tup (.cons (.bi .tuple_ (.cons (.var 2) .nil)) .nil))) (.cons (.bin .Add (.sl (.var 1) .no (.so (.cst (.int 6)))) (.tup (.cons (.bi .list_ (.cons (.ix (.var 1) (.cst (.int 6))) .nil)) .nil))) (.cons (.bin .Add (.sl (.var 1) .no (.so (.cst (.int 6)))) (.tup (.cons (.sl (.ix (.var 1) (.cst (.int 6))) .no (.so (.cst (.int 4)))) .nil))) (.cons (.bin .Add (.sl (.var 1) .no (.so (.cst (.int 6)))) (.tup (.cons (.cst .non) .nil))) (.cons (.sl (.var 1) .no (.so (.cst (.int 6)))) .nil)))))))
  (.cons (.set 4 (.bin .Add (.var 4) (.lst (.cons (.bin .Add (.tup (.cons (.cst (.str ("both" : Str))) .nil)) (.sl (.var 1) (.so (.cst (.int 1))) .no)) (.cons (.bin .Add (.tup (.cons (.cst .non) .nil)) (.sl (.var 1) (.so (.cst (.int 1))) .no)) (.cons (.bi .list_ (.cons (.var 1) .nil)) (.cons (.cst .non) (.cons (.dct0 false) (.cons (.cst (.str ("left" : Str))) (.cons (.tup .nil) (.cons (.bin .Add (.var 1) (.tup (.cons (.cst (.int 0)) .nil))) (.cons (.cst (.int 5)) .nil))))))))))))
  (.cons (.set 4 (.bin .Add (.var 4) (.lst (.cons (.bin .Add (.bin .Add (.sl (.var 1) .no (.so (.cst (.int 1)))) (.tup (.cons (.cst (.bl true)) .nil))) (.sl (.var 1) (.so (.cst (.int 2))) .no)) (.cons (.bin .Add (.bin .Add (.sl (.var 1) .no (.so (.cst (.int 3)))) (.tup (.cons (.cst (.str ("5" : Str))) .nil))) (.sl (.var 1) (.so (.cst (.int 4))) .no)) (.cons (.bin .Add (.bin .Add (.sl (.var 1) .no (.so (.cst (.int 5)))) (.tup (.cons (.cst .non) .nil))) (.sl (.var 1) (.so (.cst (.int 6))) .no)) .nil))))))
  (.cons (.set 5 (.bin .Add (.tup (.cons (.ite (.cmp .Eq (.ix (.ix (.var 1) (.cst (.int 6))) (.cst (.int 0))) (.cst (.str ("left" : Str)))) (.cst (.str ("right" : Str))) (.cst (.str ("left" : Str)))) .nil)) (.sl (.ix (.var 1) (.cst (.int 6))) (.so (.cst (.int 1))) .no)))
  (.cons (.par 3 6 (.bin .Add (.cst (.int 1)) (.cal 0 (.cons (.var 0) (.cons (.cst (.int 5)) .nil)))) (.cal 1 (.cons (.var 0) (.cons (.lst (.cons (.cst (.bl true)) (.cons (.cst (.bl false)) .nil))) .nil))))
  (.cons (.exp (.bm .append (.var 4) (.cons (.bin .Add (.bin .Add (.sl (.var 1) .no (.so (.var 3))) (.tup (.cons (.var 6) .nil))) (.sl (.var 1) (.so (.bin .Add (.var 3) (.cst (.int 1)))) .no)) .nil)))
  (.cons (.set 3 (.bin .Add (.cst (.int 1)) (.cal 0 (.cons (.var 0) (.cons (.cst (.int 4)) .nil)))))
  (.cons (.exp (.bm .append (.var 4) (.cons (.bin .Add (.sl (.var 1) .no (.so (.cst (.int 6)))) (.tup (.cons (.bin .Add (.bin .Add (.sl (.ix (.var 1) (.cst (.int 6))) .no (.so (.var 3))) (.tup (.cons (.var 6) .nil))) (.sl (.ix (.var 1) (.cst (.int 6))) (.so (.bin .Add (.var 3) (.cst (.int 1)))) .no)) .nil))) .nil)))
  (.cons (.ret (.cal 1 (.cons (.var 0) (.cons (.bin .Add (.bin .Add (.var 4) (.sl (.var 4) (.so (.neg (.cst (.int 2)))) .no)) (.lst (.cons (.bin .Add (.sl (.var 1) .no (.so (.cst (.int 6)))) (.tup (.cons (.var 5) .nil))) .nil))) .nil))))
  .nil)))))))))))
def N_law_spoilt : List Str := [("state" : Str), ("row" : Str), ("place" : Str), ("at" : Str), ("some" : Str), ("turned_so" : Str), ("truth" : Str)]
def ps_law_spoilt : List Str := [("state" : Str), ("row" : Str)]
def d_law_spoilt : Df := ⟨(("_law_spoilt" : Str), none), ("_law_spoilt" : Str), ("_law_spoilt" : Str), s_law_spoilt, N_law_spoilt, ps_law_spoilt, t_law_spoilt⟩
theorem o_law_spoilt : DfOk pn d_law_spoilt := ⟨⟨rfl, rfl, rfl, by decide +kernel, rfl, by decide +kernel, by decide +kernel⟩, by decide +kernel, fun _ _ _ _ _ _ us hl => match us, hl with | [_, _], _ => rfl⟩
/-! law_right -/
abbrev s_law_right : Stmt := top 18
def t_law_right_1 : Sms := (.cons (.ret (.cst (.bl false)))
  .nil)
def t_law_right_2 : Sms := (.cons (.ret (.cst (.bl false)))
  .nil)
def t_law_right_3 : Sms := (.cons (.ret (.cst (.bl false)))
  .nil)
def t_law_right_4 : Sms := (.cons (.set 4 (.cal 0 (.cons (.var 0) (.cons (.bi .len (.cons (.var 1) .nil)) .nil))))
  (.cons (.set 5 (.bin .Add (.bin .Add (.sl (.var 1) .no (.so (.var 4))) (.lst (.cons (.cal 14 (.cons (.var 0) (.cons (.ix (.var 1) (.var 4)) .nil))) .nil))) (.cal 1 (.cons (.var 0) (.cons (.lst (.cons (.sl (.var 1) (.so (.bin .Add (.var 4) (.cst (.int 1)))) .no) (.cons (.lst (.cons (.cst .non) .nil)) (.cons (.lst .nil) .nil)))) .nil)))))
  (.cons (.set 2 (.bi .repr_ (.cons (.var 5) .nil)))
  (.cons (.ite (.or_ (.cmp .NotEq (.cal 13 (.cons (.var 5) .nil)) (.var 4)) (.cmp .NotEq (.bi .repr_ (.cons (.var 5) .nil)) (.var 2))) t_law_right_3 .nil)
  .nil))))
def t_law_right_5 : Sms := (.cons (.ret (.cst (.bl false)))
  .nil)
def t_law_right_6 : Sms := (.cons (.ite (.cmp .NotEq (.cal 13 (.cons (.var 5) .nil)) (.neg (.cst (.int 1)))) t_law_right_5 .nil)
  .nil)
def t_law_right_7 : Sms := (.cons (.ret (.cmp .Is (.cal 13 (.cons (.lst .nil) .nil)) (.cst .non)))
  .nil)
def t_law_right_8 : Sms := (.cons (.for_ (.nm 5) (.ex (.tup (.cons (.cst .non) (.cons (.bi .tuple_ (.cons (.var 1) .nil)) (.cons (.dct0 false) (.cons (.cst (.str ("some_rows" : Str))) (.cons (.cst (.int 5)) (.cons (.cst (.bl true)) .nil)))))))) t_law_right_6)
  t_law_right_7)
def t_law_right_9 : Sms := (.cons (.for_ (.nm 3) (.rng1 (.cst (.int 6))) t_law_right_4)
  t_law_right_8)
def t_law_right_10 : Sms := (.cons (.ite (.cmp .NotEq (.bi .repr_ (.cons (.var 1) .nil)) (.var 2)) t_law_right_2 .nil)
  t_law_right_9)
def t_law_right : Sms := (.cons (.set 1 (.cal 5 (.cons (.var 0) .nil)))
  (.cons (.set 2 (.bi .repr_ (.cons (.var 1) .nil)))
  (.cons (.ite (.or_ (.cmp .IsNot (.cal 13 (.cons (.var 1) .nil)) (.cst .non)) (.cmp .IsNot (.calK 13 0 [("rows" : Str)] [0] .nil (.cons (.sl (.var 1) .no (.so (.cst (.int 1)))) .nil)) (.cst .non))) t_law_right_1 .nil)
  t_law_right_10)))
def N_law_right : List Str := [("state" : Str), ("some_rows" : Str), ("shown_so" : Str), ("turn" : Str), ("at" : Str), ("odd" : Str)]
def ps_law_right : List Str := [("state" : Str)]
def d_law_right : Df := ⟨(("_law_right" : Str), none), ("_law_right" : Str), ("_law_right" : Str), s_law_right, N_law_right, ps_law_right, t_law_right⟩
theorem o_law_right : DfOk pn d_law_right := ⟨⟨rfl, rfl, rfl, by decide +kernel, rfl, by decide +kernel, by decide +kernel⟩, by decide +kernel, fun _ _ _ _ _ _ us hl => match us, hl with | [_], _ => rfl⟩
/-! law_cell_at -/
abbrev s_law_cell_at : Stmt := top 9
def t_law_cell_at : Sms := (.cons (.ret (.ite (.cmp .Lt (.var 1) (.bi .len (.cons (.var 0) .nil))) (.ix (.var 0) (.var 1)) (.cst (.int 0))))
  .nil)
def N_law_cell_at : List Str := [("script" : Str), ("k" : Str)]
def ps_law_cell_at : List Str := [("script" : Str), ("k" : Str)]
def d_law_cell_at : Df := ⟨(("_law_cell_at" : Str), none), ("_law_cell_at" : Str), ("_law_cell_at" : Str), s_law_cell_at, N_law_cell_at, ps_law_cell_at, t_law_cell_at⟩
theorem o_law_cell_at : DfOk pn d_law_cell_at := ⟨⟨rfl, rfl, rfl, by decide +kernel, rfl, by decide +kernel, by decide +kernel⟩, by decide +kernel, fun _ _ _ _ _ _ us hl => match us, hl with | [_, _], _ => rfl⟩
/-! law -/
abbrev s_law : Stmt := top 19
def t_law_1 : Sms := (.cons (.ret (.cst (.bl false)))
  .nil)
def t_law_2 : Sms := (.cons (.set 2 (.lst (.cons (.bin .Add (.cal 16 (.cons (.var 0) (.cons (.var 1) .nil))) (.bin .Mult (.cst (.int 173)) (.var 1))) .nil)))
  (.cons (.ite (.not_ (.cal 15 (.cons (.var 2) .nil))) t_law_1 .nil)
  .nil))
def t_law_3 : Sms := (.cons (.ret (.cst (.bl true)))
  .nil)
def t_law : Sms := (.cons (.for_ (.nm 1) (.rng1 (.bi .max2 (.cons (.cst (.int 1)) (.cons (.bi .min2 (.cons (.cst (.int 5)) (.cons (.bi .len (.cons (.var 0) .nil)) .nil))) .nil)))) t_law_2)
  t_law_3)
def N_law : List Str := [("script" : Str), ("k" : Str), ("state" : Str)]
def ps_law : List Str := [("script" : Str)]
def d_law : Df := ⟨(("law" : Str), none), ("law" : Str), ("law" : Str), s_law, N_law, ps_law, t_law⟩
theorem o_law : DfOk pn d_law := ⟨⟨rfl, rfl, rfl, by decide +kernel, rfl, by decide +kernel, by decide +kernel⟩, by decide +kernel, fun _ _ _ _ _ _ us hl => match us, hl with | [_], _ => rfl⟩
def gs : List (Str × D) := []
def P0 : Pg := ⟨fun x => gs.lookup x⟩
def xs : List Xd := []
theorem x_all : ∀ d ∈ xs, XdOk d := by
  intro d hd
  simp only [xs, List.mem_cons, List.not_mem_nil, or_false] at hd
  
def fs : List Df := [d_law_digit, d_law_one, d_law_asked, d_law_spot, d_law_placed, d_law_rows, d_Strip_init, d_is_asked_row, d_Strip_lefts, d_Strip_rights, d_Strip_spot, d_Strip_below, d_Strip_place, d_strip_fault, d_law_spoilt, d_law_right, d_law_cell_at, d_law]
theorem o_all : ∀ f ∈ fs, DfOk pn f := by
  intro f hf
  simp only [fs, List.mem_cons, List.not_mem_nil, or_false] at hf
  rcases hf with rfl | rfl | rfl | rfl | rfl | rfl | rfl | rfl | rfl | rfl | rfl | rfl | rfl | rfl | rfl | rfl | rfl | rfl
  · exact o_law_digit
  · exact o_law_one
  · exact o_law_asked
  · exact o_law_spot
  · exact o_law_placed
  · exact o_law_rows
  · exact o_Strip_init
  · exact o_is_asked_row
  · exact o_Strip_lefts
  · exact o_Strip_rights
  · exact o_Strip_spot
  · exact o_Strip_below
  · exact o_Strip_place
  · exact o_strip_fault
  · exact o_law_spoilt
  · exact o_law_right
  · exact o_law_cell_at
  · exact o_law
theorem kbs_ok : KbsOk pn fs := by
  intro j n ks pm h f hf
  simp only [pn, List.mem_cons, List.not_mem_nil, or_false, Prod.mk.injEq] at h
  rcases h with ⟨rfl, rfl, rfl, rfl⟩
  · obtain rfl : d_strip_fault = f := Option.some.inj hf
    exact fun _ _ _ _ _ _ us ws h1 h2 => match us, ws, h1, h2 with | [], [_], _, _ => rfl

end K29

set_option Elab.async false
set_option linter.all false
set_option maxRecDepth 100000
set_option maxHeartbeats 0
namespace K29
open L2 DI PySem PySem.Spec PyProof.Rows
abbrev R : PySem.W.OpenRow := PySem.W.OpenLaw.row PySem.Challenge.rw_flowboxes_k29_strips_judged
def fa : List He.Fa := faOf pn xs
def fn : List He.DefD := fs.map Df.dd ++ xs.map Xd.dd
abbrev hk : PySem.W.Hook := hookS 6 fa fn (tabs gs) (exB fs pn gs xs)
def ob (s : PySem.W.SharedT) : AlS := obsS 6 fa fn (tabs gs) (exB fs pn gs xs) (HandSHeadRun.getT s)
theorem ob_eq (s : PySem.W.SharedT) : ob s = hk.obs s.abs := obsS_eq (HandSHeadRun.getT_eq s)
def loose : List Str := [("_wall" : Str), ("__name__" : Str), ("BoxError" : Str), ("NoSide" : Str), ("Strip" : Str), ("is_asked_row" : Str), ("strip_fault" : Str), ("_law_cell_at" : Str), ("_law_digit" : Str), ("_law_one" : Str), ("_law_lowest" : Str), ("_law_spot" : Str), ("_law_placed" : Str), ("_law_asked" : Str), ("_law_rows" : Str), ("_law_spoilt" : Str), ("_law_right" : Str)]
theorem run (w : World) : HandSHeadRun.RunEq R (PySem.W.view R.prog [19]) hk ob 30000 loose w := by
  intro os
  kernel_rfl
end K29

set_option Elab.async false
set_option linter.all false
set_option maxRecDepth 100000
set_option maxHeartbeats 4000000
/-! What a text comes to: a calculus of answers. -/
namespace DI
open L2 PySem PySem.Spec PyProof.Rows
def W {α : Type} (o : Out α) (Q : α → Sto → Prop) : Prop := match o with | .ok a S => Q a S | _ => False
structure Po where
  nx : Sl → Sto → Prop := fun _ _ => False
  rt : D → Sto → Prop := fun _ _ => False
  bk : Sl → Sto → Prop := fun _ _ => False
  ct : Sl → Sto → Prop := fun _ _ => False
  er : Nat → Option (List (Str × D)) → Sto → Prop := fun _ _ _ => False
def WS (o : OutS) (Q : Po) : Prop := match o with | .nx σ S => Q.nx σ S | .rt d S => Q.rt d S | .bk σ S => Q.bk σ S | .ct σ S => Q.ct σ S | .err c fs _ S => Q.er c fs S | .bad => False
/-- an answer, or an error -/
def WE {α : Type} (o : Out α) (Q : α → Sto → Prop) (R : Nat → Option (List (Str × D)) → Sto → Prop) : Prop := match o with | .ok a S => Q a S | .err c fs S => R c fs S | .bad => False
section
variable {α β : Type}
theorem W_bind (o : Out α) (f : α → Sto → Out β) (Q : β → Sto → Prop) : W (o.bind f) Q = W o fun a S => W (f a S) Q := by cases o <;> rfl
theorem W_ok (a : α) (S : Sto) (Q : α → Sto → Prop) : W (.ok a S) Q = Q a S := rfl
theorem W_bad (Q : α → Sto → Prop) : W .bad Q = False := rfl
theorem of_some (a : α) (S : Sto) : Out.of (some (a, S)) = .ok a S := rfl
theorem at_some (a : α) (S : Sto) : Out.at S (some a) = .ok a S := rfl
theorem fin_f (o : Out D) : fin false o = o := rfl
theorem fin_t (o : Out D) : fin true o = o.bind fun d S => .at S ((truSem d S).map D.bl) := rfl
theorem fin_bl (b t : Bool) (S : Sto) : fin b (.ok (.bl t) S) = .ok (.bl t) S := by cases b <;> rfl
theorem W_tst (o : Out D) (Q : Bool → Sto → Prop) : W (tstO o) Q = W o fun d S => match d with | .bl t => Q t S | _ => False := by
  unfold tstO
  rw [W_bind]
  congr 1
  funext d S
  cases d <;> rfl
theorem W_mono {o : Out α} {Q R : α → Sto → Prop} (h : W o Q) (i : ∀ a S, Q a S → R a S) : W o R := by
  cases o with
  | ok a S => exact i a S h
  | err => exact h
  | bad => exact h
theorem W_ex {o : Out α} {Q : α → Sto → Prop} (h : W o Q) : ∃ a S, o = .ok a S ∧ Q a S := by
  cases o with
  | ok a S => exact ⟨a, S, rfl, h⟩
  | err => exact h.elim
  | bad => exact h.elim
theorem WS_thn {o : Out α} {σ : Sl} {f : α → Sto → OutS} {Q : Po} (h : W o fun a S => WS (f a S) Q) : WS (o.thn σ f) Q := by
  cases o with
  | ok a S => exact h
  | err => exact h.elim
  | bad => exact h
theorem WS_thnE {o : Out α} {σ : Sl} {f : α → Sto → OutS} {Q : Po} (h : WE o (fun a S => WS (f a S) Q) Q.er) : WS (o.thn σ f) Q := by
  cases o with
  | ok a S => exact h
  | err => exact h
  | bad => exact h
theorem WS_nx (σ : Sl) (S : Sto) (Q : Po) : WS (.nx σ S) Q = Q.nx σ S := rfl
theorem WS_rt (d : D) (S : Sto) (Q : Po) : WS (.rt d S) Q = Q.rt d S := rfl
theorem WS_bk (σ : Sl) (S : Sto) (Q : Po) : WS (.bk σ S) Q = Q.bk σ S := rfl
theorem WS_ct (σ : Sl) (S : Sto) (Q : Po) : WS (.ct σ S) Q = Q.ct σ S := rfl
theorem WS_bad (Q : Po) : WS .bad Q = False := rfl
theorem WS_nxt (o : OutS) (f : Sl → Sto → OutS) (Q : Po) : WS (o.nxt f) Q = WS o { Q with nx := fun σ S => WS (f σ S) Q } := by cases o <;> rfl
theorem WS_mono {o : OutS} {Q R : Po} (h : WS o Q) (i1 : ∀ σ S, Q.nx σ S → R.nx σ S) (i2 : ∀ d S, Q.rt d S → R.rt d S) (i3 : ∀ σ S, Q.bk σ S → R.bk σ S := by intros; assumption) (i4 : ∀ σ S, Q.ct σ S → R.ct σ S := by intros; assumption) (i5 : ∀ c fs S, Q.er c fs S → R.er c fs S := by intros; assumption) : WS o R := by
  cases o with
  | nx σ S => exact i1 _ _ h
  | rt d S => exact i2 _ _ h
  | bk σ S => exact i3 _ _ h
  | ct σ S => exact i4 _ _ h
  | err => exact i5 _ _ _ h
  | bad => exact h.elim
theorem W_run {P : Pg} {C : Nat → List D → Sto → Out D} {n np : Nat} {T : Sms} {ds : List D} {S : Sto} {Q : D → Sto → Prop} (hl : ds.length = np) (h : WS (dSs P C T (startD n ds) S) { nx := fun _ S => Q .non S, rt := Q }) : W (runB P C n np T ds S) Q := by
  unfold runB
  rw [if_pos hl]
  revert h
  cases dSs P C T (startD n ds) S <;> exact fun h => h
theorem W_call {P : Pg} {fs : List Df} {d j : Nat} {f : Df} {ds : List D} {S : Sto} {Q : D → Sto → Prop} (hf : fs[j]? = some f) (hl : ds.length = f.ps.length) (h : WS (dSs P (calls P fs d) f.T (startD f.N.length ds) S) { nx := fun _ S => Q .non S, rt := Q }) : W (calls P fs (d + 1) j ds S) Q := by
  unfold calls
  rw [hf]
  exact W_run hl h
theorem WE_mono {α : Type} {o : Out α} {Q Q' : α → Sto → Prop} {R R' : Nat → Option (List (Str × D)) → Sto → Prop} (h : WE o Q R) (i1 : ∀ a S, Q a S → Q' a S) (i2 : ∀ c l S, R c l S → R' c l S) : WE o Q' R' := by
  cases o with
  | ok a S => exact i1 _ _ h
  | err => exact i2 _ _ _ h
  | bad => exact h
theorem WE_call {P : Pg} {fs : List Df} {d j : Nat} {f : Df} {ds : List D} {S : Sto} {Q : D → Sto → Prop} {R : Nat → Option (List (Str × D)) → Sto → Prop} (hf : fs[j]? = some f) (hl : ds.length = f.ps.length) (h : WS (dSs P (calls P fs d) f.T (startD f.N.length ds) S) { nx := fun _ S => Q .non S, rt := Q, er := R }) : WE (calls P fs (d + 1) j ds S) Q R := by
  unfold calls
  rw [hf]
  show WE (runB P (calls P fs d) f.N.length f.ps.length f.T ds S) Q R
  unfold runB
  rw [if_pos hl]
  revert h
  cases dSs P (calls P fs d) f.T (startD f.N.length ds) S <;> exact fun h => h
/-! ### loops -/
theorem WS_forN {w : Walk} {tg : Tg} {b : Sl → Sto → OutS} {Q : Po} (I : Nat → Sl → Sto → Prop) {n : Nat}
    (hend : ∀ σ S, I n σ S → wgo w n S = some none)
    (hgo : ∀ i σ S, i < n → I i σ S → ∃ d σ', wgo w i S = some (some d) ∧ setTg tg d σ = some σ' ∧ WS (b σ' S) { nx := fun σ S => I (i + 1) σ S, rt := Q.rt, bk := Q.nx, ct := fun σ S => I (i + 1) σ S, er := Q.er })
    (hq : ∀ σ S, I n σ S → Q.nx σ S) : ∀ k i σ S, i + k = n → I i σ S → WS (forN w tg b k i σ S) Q := by
  intro k
  induction k with
  | zero =>
    intro i σ S e h
    have : i = n := by omega
    subst this
    unfold forN
    rw [hend σ S h]
    exact hq σ S h
  | succ k ih =>
    intro i σ S e h
    obtain ⟨d, σ', h1, h2, h3⟩ := hgo i σ S (by omega) h
    unfold forN
    rw [h1]
    show WS (match setTg tg d σ with
      | none => .bad
      | some σ' => match b σ' S with
        | .nx σ' S' => forN w tg b k (i + 1) σ' S'
        | .ct σ' S' => forN w tg b k (i + 1) σ' S'
        | .bk σ' S' => .nx σ' S'
        | x => x) Q
    rw [h2]
    show WS (match b σ' S with
        | .nx σ' S' => forN w tg b k (i + 1) σ' S'
        | .ct σ' S' => forN w tg b k (i + 1) σ' S'
        | .bk σ' S' => .nx σ' S'
        | x => x) Q
    revert h3
    cases b σ' S with
    | nx σ1 S1 => exact fun h3 => ih (i + 1) σ1 S1 (by omega) h3
    | ct σ1 S1 => exact fun h3 => ih (i + 1) σ1 S1 (by omega) h3
    | bk σ1 S1 => exact fun h3 => h3
    | rt d S1 => exact fun h3 => h3
    | err => exact fun h3 => h3
    | bad => exact fun h3 => h3
/-- a for over a walk whose length stays -/
theorem WS_for {w : Walk} {tg : Tg} {b : Sl → Sto → OutS} {Q : Po} {n : Nat} {σ : Sl} {S : Sto} (I : Nat → Sl → Sto → Prop) (h0 : I 0 σ S)
    (hend : ∀ σ S, I n σ S → wgo w n S = some none)
    (hgo : ∀ i σ S, i < n → I i σ S → ∃ d σ', wgo w i S = some (some d) ∧ setTg tg d σ = some σ' ∧ WS (b σ' S) { nx := fun σ S => I (i + 1) σ S, rt := Q.rt, bk := Q.nx, ct := fun σ S => I (i + 1) σ S, er := Q.er })
    (hq : ∀ σ S, I n σ S → Q.nx σ S) : WS (forN w tg b n 0 σ S) Q := WS_forN I hend hgo hq n 0 σ S (by omega) h0
theorem whlN_more {t : Sl → Sto → Out Bool} {b : Sl → Sto → OutS} : ∀ {n m : Nat} {σ : Sl} {S : Sto}, whlN t b n σ S ≠ .bad → n ≤ m → whlN t b m σ S = whlN t b n σ S := by
  intro n
  induction n with
  | zero => intro m σ S h; exact absurd rfl h
  | succ n ih =>
    intro m σ S h hm
    obtain ⟨m, rfl⟩ : ∃ k, m = k + 1 := ⟨m - 1, by omega⟩
    unfold whlN at h ⊢
    revert h
    cases t σ S with
    | bad => intro h; rfl
    | err => intro h; rfl
    | ok k S1 =>
      show ((if k = true then _ else _) ≠ OutS.bad) → (if k = true then _ else _) = (if k = true then _ else _)
      cases k with
      | false => intro h; rfl
      | true =>
        rw [if_pos rfl]
        cases b σ S1 with
        | nx σ' S' => exact fun h => ih h (by omega)
        | ct σ' S' => exact fun h => ih h (by omega)
        | bk => intro h; rfl
        | rt => intro h; rfl
        | err => intro h; rfl
        | bad => intro h; rfl
theorem whl_of {t : Sl → Sto → Out Bool} {b : Sl → Sto → OutS} {n : Nat} {σ : Sl} {S : Sto} (h : whlN t b n σ S ≠ .bad) : whl t b σ S = whlN t b n σ S := by
  have hx : ∃ n, whlN t b n σ S ≠ .bad := ⟨n, h⟩
  unfold whl
  rw [dif_pos hx]
  have hc := Classical.choose_spec hx
  by_cases q : n ≤ Classical.choose hx
  · exact whlN_more h q
  · exact (whlN_more hc (by omega)).symm
theorem WS_ne {o : OutS} {Q : Po} (h : WS o Q) : o ≠ .bad := fun e => by rw [e] at h; exact h
theorem WS_whlN {t : Sl → Sto → Out Bool} {b : Sl → Sto → OutS} {Q : Po} (I : Nat → Sl → Sto → Prop)
    (hs : ∀ m σ S, I m σ S → W (t σ S) fun k S1 => if k = true then WS (b σ S1) { nx := fun σ S => ∃ m', m' < m ∧ I m' σ S, rt := Q.rt, bk := Q.nx, ct := fun σ S => ∃ m', m' < m ∧ I m' σ S, er := Q.er } else Q.nx σ S1) :
    ∀ n m σ S, m < n → I m σ S → WS (whlN t b n σ S) Q := by
  intro n
  induction n with
  | zero => intro m σ S h; omega
  | succ n ih =>
    intro m σ S hm h
    have := hs m σ S h
    unfold whlN
    refine WS_thn (W_mono this fun k S1 h => ?_)
    cases k with
    | false => exact h
    | true =>
      rw [if_pos rfl] at h ⊢
      revert h
      cases b σ S1 with
      | nx σ' S' => exact fun ⟨m', h1, h2⟩ => ih m' σ' S' (by omega) h2
      | ct σ' S' => exact fun ⟨m', h1, h2⟩ => ih m' σ' S' (by omega) h2
      | bk => exact fun h => h
      | rt => exact fun h => h
      | err => exact fun h => h
      | bad => exact fun h => h
/-- a while by a measure -/
theorem WS_whl {t : Sl → Sto → Out Bool} {b : Sl → Sto → OutS} {Q : Po} {σ : Sl} {S : Sto} (I : Nat → Sl → Sto → Prop) {m : Nat} (h0 : I m σ S)
    (hs : ∀ m σ S, I m σ S → W (t σ S) fun k S1 => if k = true then WS (b σ S1) { nx := fun σ S => ∃ m', m' < m ∧ I m' σ S, rt := Q.rt, bk := Q.nx, ct := fun σ S => ∃ m', m' < m ∧ I m' σ S, er := Q.er } else Q.nx σ S1) : WS (whl t b σ S) Q := by
  have h := WS_whlN I hs (m + 1) m σ S (by omega) h0
  rw [whl_of (WS_ne h)]
  exact h
/-- a comprehension's loop: J i acc S: behind i turns, S the store without the new list -/
theorem W_lcLoop {w : Walk} {tg : Tg} {σ : Sl} {n : Nat} {test : Sl → Sto → Out Bool} {elt : Sl → Sto → Out D} {Q : Unit → Sto → Prop} (J : Nat → Sto → Prop) {k0 : Nat}
    (hend : ∀ S, J k0 S → wgo w k0 S = some none)
    (hgo : ∀ i S, i < k0 → J i S → ∃ d σ', wgo w i S = some (some d) ∧ setTg tg d σ = some σ' ∧ W (test σ' S) fun t S1 => if t = true then W (elt σ' S1) fun v S2 => ∃ acc, S2[n]? = some (.lst acc) ∧ acc.length < sizeLine ∧ J (i + 1) (S2.set n (.lst (acc ++ [v]))) else J (i + 1) S1)
    (hq : ∀ S, J k0 S → Q () S) : ∀ k i S, i + k = k0 → J i S → W (lcLoop w tg σ n test elt k i S) Q := by
  intro k
  induction k with
  | zero =>
    intro i S e h
    have : i = k0 := by omega
    subst this
    unfold lcLoop
    rw [hend S h]
    exact hq S h
  | succ k ih =>
    intro i S e h
    obtain ⟨d, σ', h1, h2, h3⟩ := hgo i S (by omega) h
    unfold lcLoop
    rw [h1]
    show W (match setTg tg d σ with
      | none => .bad
      | some σ' => match test σ' S with
        | .ok false S1 => lcLoop w tg σ n test elt k (i + 1) S1
        | .ok true S1 => match elt σ' S1 with
          | .ok v S2 => match S2[n]? with
            | some (.lst acc) => if acc.length < sizeLine then lcLoop w tg σ n test elt k (i + 1) (S2.set n (.lst (acc ++ [v]))) else .bad
            | _ => .bad
          | _ => .bad
        | _ => .bad) Q
    rw [h2]
    show W (match test σ' S with
        | .ok false S1 => lcLoop w tg σ n test elt k (i + 1) S1
        | .ok true S1 => match elt σ' S1 with
          | .ok v S2 => match S2[n]? with
            | some (.lst acc) => if acc.length < sizeLine then lcLoop w tg σ n test elt k (i + 1) (S2.set n (.lst (acc ++ [v]))) else .bad
            | _ => .bad
          | _ => .bad
        | _ => .bad) Q
    revert h3
    cases test σ' S with
    | err => exact fun h3 => h3
    | bad => exact fun h3 => h3
    | ok t S1 =>
      cases t with
      | false => exact fun h3 => ih (i + 1) S1 (by omega) h3
      | true =>
        intro h3
        replace h3 : W (elt σ' S1) _ := h3
        show W (match elt σ' S1 with
          | .ok v S2 => match S2[n]? with
            | some (.lst acc) => if acc.length < sizeLine then lcLoop w tg σ n test elt k (i + 1) (S2.set n (.lst (acc ++ [v]))) else .bad
            | _ => .bad
          | _ => .bad) Q
        revert h3
        cases elt σ' S1 with
        | err => exact fun h3 => h3.elim
        | bad => exact fun h3 => h3.elim
        | ok v S2 =>
          rintro ⟨acc, a1, a2, a3⟩
          show W (match S2[n]? with
            | some (.lst acc) => if acc.length < sizeLine then lcLoop w tg σ n test elt k (i + 1) (S2.set n (.lst (acc ++ [v]))) else .bad
            | _ => .bad) Q
          rw [a1]
          show W (if acc.length < sizeLine then lcLoop w tg σ n test elt k (i + 1) (S2.set n (.lst (acc ++ [v]))) else .bad) Q
          rw [if_pos a2]
          exact ih (i + 1) _ (by omega) a3
end
/-! ### frames: all but the cells of B stay -/
def Fr (B : List Nat) (S S' : Sto) : Prop := S.length ≤ S'.length ∧ ∀ k, k < S.length → k ∉ B → S'[k]? = S[k]?
theorem Fr.refl {B : List Nat} {S : Sto} : Fr B S S := ⟨Nat.le_refl _, fun _ _ _ => rfl⟩
theorem Fr.trans {B : List Nat} {S S1 S2 : Sto} (a : Fr B S S1) (b : Fr B S1 S2) : Fr B S S2 := ⟨Nat.le_trans a.1 b.1, fun k h1 h2 => (b.2 k (Nat.lt_of_lt_of_le h1 a.1) h2).trans (a.2 k h1 h2)⟩
theorem Fr.push {B : List Nat} {S : Sto} {c : Cell} : Fr B S (S ++ [c]) := ⟨by simp, fun k h _ => by rw [List.getElem?_append_left h]⟩
theorem Fr.set {B : List Nat} {S : Sto} {i : Nat} {c : Cell} (h : i ∈ B ∨ S.length ≤ i) : Fr B S (S.set i c) := ⟨by simp, fun k h1 h2 => by
  rw [List.getElem?_set_ne]
  rintro rfl
  rcases h with h | h
  · exact h2 h
  · omega⟩
theorem Fr.sub {B B' : List Nat} {S S' : Sto} (a : Fr B S S') (h : ∀ k ∈ B, k < S.length → k ∈ B') : Fr B' S S' := ⟨a.1, fun k h1 h2 => a.2 k h1 fun h3 => h2 (h k h3 h1)⟩
theorem Fr.get {B : List Nat} {S S' : Sto} (a : Fr B S S') {k : Nat} {c : Cell} (h : S[k]? = some c) (hk : k ∉ B) : S'[k]? = some c := by
  rw [a.2 k (List.getElem?_eq_some_iff.mp h).1 hk]; exact h
theorem Fr.lt {B : List Nat} {S S' : Sto} (a : Fr B S S') {k : Nat} (h : k < S.length) : k < S'.length := Nat.lt_of_lt_of_le h a.1
/-- grow, then change what is new or of B -/
theorem Fr.setr {B : List Nat} {S S1 : Sto} {i : Nat} {c : Cell} (a : Fr B S S1) (h : i ∈ B ∨ S.length ≤ i) : Fr B S (S1.set i c) := ⟨by simpa using a.1, fun k h1 h2 => by
  rw [List.getElem?_set_ne]
  · exact a.2 k h1 h2
  · rintro rfl
    rcases h with h | h
    · exact h2 h
    · omega⟩
theorem Fr.pushr {B : List Nat} {S S1 : Sto} {c : Cell} (a : Fr B S S1) : Fr B S (S1 ++ [c]) := a.trans Fr.push
theorem get_push {S : Sto} {c : Cell} : (S ++ [c])[S.length]? = some c := by simp
theorem get_pushl {S : Sto} {c c' : Cell} {k : Nat} (h : S[k]? = some c') : (S ++ [c])[k]? = some c' := by
  rw [List.getElem?_append_left (List.getElem?_eq_some_iff.mp h).1]; exact h
theorem get_set {S : Sto} {c : Cell} {k : Nat} (h : k < S.length) : (S.set k c)[k]? = some c := by simp [h]
theorem get_setn {S : Sto} {c : Cell} {k i : Nat} (h : i ≠ k) : (S.set i c)[k]? = S[k]? := List.getElem?_set_ne h
theorem lt_of {S : Sto} {c : Cell} {k : Nat} (h : S[k]? = some c) : k < S.length := (List.getElem?_eq_some_iff.mp h).1
end DI

set_option Elab.async false
set_option linter.all false
set_option maxRecDepth 100000
set_option maxHeartbeats 4000000
/-! The calculus's steps, one for each construct. -/
namespace DI
open L2 PySem PySem.Spec PyProof.Rows
section
variable {P : Pg} {C : Nat → List D → Sto → Out D} {σ : Sl} {S : Sto} {Q : D → Sto → Prop} {b : Bool}
theorem w_int {i : Int} (k : Q (.int i) S) : W (de P C (.cst (.int i)) false σ S) Q := by simp only [de, fin_f]; exact k
theorem w_str {i : Str} (k : Q (.str i) S) : W (de P C (.cst (.str i)) false σ S) Q := by simp only [de, fin_f]; exact k
theorem w_blc {i : Bool} (k : Q (.bl i) S) : W (de P C (.cst (.bl i)) false σ S) Q := by simp only [de, fin_f]; exact k
theorem w_non (k : Q .non S) : W (de P C (.cst .non) false σ S) Q := by simp only [de, fin_f]; exact k
theorem w_var {i : Nat} (h : ∃ d, σ[i]? = some (some d) ∧ Q d S) : W (de P C (.var i) false σ S) Q := by
  obtain ⟨d, h, k⟩ := h
  simp only [de, fin_f, h]; exact k
theorem w_bty {n : String} (k : Q (.ty n) S) : W (de P C (.bty n) false σ S) Q := by simp only [de, fin_f]; exact k
theorem w_glo {x : Str} {d : D} (h : P.glo x = some d) (k : Q d S) : W (de P C (.glo x) false σ S) Q := by simp only [de, fin_f, h]; exact k
theorem W_of {o : Option (D × Sto)} {r : D × Sto} (h : o = some r) (k : Q r.1 r.2) : W (.of o) Q := by subst h; exact k
theorem w_bin {o : Operator} {a c : Ex} (k : W (de P C a false σ S) fun x S => W (de P C c false σ S) fun y S => W (.of (opSem o x y S)) Q) : W (de P C (.bin o a c) false σ S) Q := by
  simp only [de, fin_f, W_bind]; exact k
theorem w_add {i j : Int} (k : Q (.int (i + j)) S) : W (.of (opSem .Add (.int i) (.int j) S)) Q := k
theorem w_sub {i j : Int} (k : Q (.int (i - j)) S) : W (.of (opSem .Sub (.int i) (.int j) S)) Q := k
theorem w_mul {i j : Int} (h : (-(2 ^ 64) < i ∧ i < 2 ^ 64) ∨ (-(2 ^ 64) < j ∧ j < 2 ^ 64)) (k : Q (.int (i * j)) S) : W (.of (opSem .Mult (.int i) (.int j) S)) Q := by
  unfold opSem
  simp only [h, if_true]
  exact k
theorem w_div {i j : Int} (h : 0 < j ∧ j < 1073741824) (k : Q (.int (i / j)) S) : W (.of (opSem .FloorDiv (.int i) (.int j) S)) Q := by
  unfold opSem
  simp only [h, if_true, and_self]
  exact k
theorem w_mod {i j : Int} (h : 0 < j) (k : Q (.int (i % j)) S) : W (.of (opSem .Mod (.int i) (.int j) S)) Q := by
  unfold opSem
  simp only [h, if_true]
  exact k
theorem w_pow {i j : Int} (h : 0 ≤ j ∧ j ≤ 1000000 ∧ i.natAbs < 2 ^ 64) (k : Q (.int (i ^ j.toNat)) S) : W (.of (opSem .Pow (.int i) (.int j) S)) Q := by
  unfold opSem
  simp only [h, if_true, and_self]
  exact k
theorem w_addT {xs ys : List D} (h : xs.length + ys.length ≤ sizeLine) (k : Q (.tup (xs ++ ys)) S) : W (.of (opSem .Add (.tup xs) (.tup ys) S)) Q := by
  unfold opSem
  simp only [h, if_true]
  exact k
theorem w_addL {a c : Nat} {xs ys : List D} (h1 : S[a]? = some (.lst xs)) (h2 : S[c]? = some (.lst ys)) (h : xs.length + ys.length ≤ sizeLine) (k : Q (.loc S.length) (S ++ [.lst (xs ++ ys)])) : W (.of (opSem .Add (.loc a) (.loc c) S)) Q := by
  unfold opSem
  simp only [h1, h2, h, if_true]
  exact k
theorem w_neg {a : Ex} (k : W (de P C a false σ S) fun x S => ∃ i, x = .int i ∧ Q (.int (-i)) S) : W (de P C (.neg a) false σ S) Q := by
  simp only [de, fin_f, W_bind]
  refine W_mono k fun x S h => ?_
  obtain ⟨i, rfl, h⟩ := h
  exact h
theorem W_at {α : Type} {o : Option α} {d : α} {Q : α → Sto → Prop} (h : o = some d) (k : Q d S) : W (.at S o) Q := by subst h; exact k
theorem w_cmp {o : CmpOp} {a c : Ex} (k : W (de P C a false σ S) fun x S => W (de P C c false σ S) fun y S => ∃ t, cmpSem o x y S = some t ∧ Q (.bl t) S) : W (de P C (.cmp o a c) b σ S) Q := by
  simp only [de, W_bind]
  refine W_mono k fun x S h => W_mono h fun y S h => ?_
  obtain ⟨t, h1, h2⟩ := h
  rw [h1]; exact h2
theorem w_chn {o o' : CmpOp} {a c e : Ex} (k : W (de P C a false σ S) fun x S => W (de P C c false σ S) fun y S => ∃ t, cmpSem o x y S = some t ∧ (t = true → W (de P C e false σ S) fun z S => ∃ t, cmpSem o' y z S = some t ∧ Q (.bl t) S) ∧ (t = false → Q (.bl false) S)) : W (de P C (.chn o o' a c e) b σ S) Q := by
  simp only [de, W_bind]
  refine W_mono k fun x S h => W_mono h fun y S h => ?_
  obtain ⟨t, h1, h2, h3⟩ := h
  rw [h1]
  cases t with
  | false => exact h3 rfl
  | true =>
    show W (Out.bind _ _) Q
    rw [W_bind]
    refine W_mono (h2 rfl) fun z S h => ?_
    obtain ⟨t, h1, h2⟩ := h
    rw [h1]; exact h2
theorem w_and {a c : Ex} (k : W (de P C a b σ S) fun x S => ∃ t, truSem x S = some t ∧ (t = true → W (de P C c b σ S) Q) ∧ (t = false → Q x S)) : W (de P C (.and_ a c) b σ S) Q := by
  simp only [de, W_bind]
  refine W_mono k fun x S h => ?_
  obtain ⟨t, h1, h2, h3⟩ := h
  rw [h1]
  cases t with
  | false => exact h3 rfl
  | true => exact h2 rfl
theorem w_or {a c : Ex} (k : W (de P C a b σ S) fun x S => ∃ t, truSem x S = some t ∧ (t = true → Q x S) ∧ (t = false → W (de P C c b σ S) Q)) : W (de P C (.or_ a c) b σ S) Q := by
  simp only [de, W_bind]
  refine W_mono k fun x S h => ?_
  obtain ⟨t, h1, h2, h3⟩ := h
  rw [h1]
  cases t with
  | false => exact h3 rfl
  | true => exact h2 rfl
theorem w_not {a : Ex} (k : W (de P C a b σ S) fun x S => ∃ t, truSem x S = some t ∧ Q (.bl (!t)) S) : W (de P C (.not_ a) b σ S) Q := by
  simp only [de, W_bind]
  refine W_mono k fun x S h => ?_
  obtain ⟨t, h1, h2⟩ := h
  rw [h1]; exact h2
theorem w_ite {t a c : Ex} (k : W (de P C t true σ S) fun d S => ∃ t, d = .bl t ∧ (t = true → W (de P C a b σ S) Q) ∧ (t = false → W (de P C c b σ S) Q)) : W (de P C (.ite t a c) b σ S) Q := by
  simp only [de, W_bind, W_tst]
  refine W_mono k fun x S h => ?_
  obtain ⟨t, rfl, h2, h3⟩ := h
  cases t with
  | false => exact h3 rfl
  | true => exact h2 rfl
theorem w_fld {c : Nat} {o : Ex} {f : Str} (k : W (de P C o false σ S) fun x S => ∃ d, fldSem x c f S = some d ∧ Q d S) : W (de P C (.fld c o f) false σ S) Q := by
  simp only [de, fin_f, W_bind]
  refine W_mono k fun x S h => ?_
  obtain ⟨d, h1, h2⟩ := h
  rw [h1]; exact h2
theorem w_ix {o i : Ex} (k : W (de P C o false σ S) fun x S => W (de P C i false σ S) fun y S => ∃ d, itemSem x y S = some d ∧ Q d S) : W (de P C (.ix o i) false σ S) Q := by
  simp only [de, fin_f, W_bind]
  refine W_mono k fun x S h => W_mono h fun y S h => ?_
  obtain ⟨d, h1, h2⟩ := h
  rw [h1]; exact h2
theorem w_no {Q : Option Int → Sto → Prop} (k : Q none S) : W (deO P C .no σ S) Q := by simp only [deO]; exact k
theorem w_so {e : Ex} {Q : Option Int → Sto → Prop} (k : W (de P C e false σ S) fun d S => ∃ i, d = .int i ∧ Q (some i) S) : W (deO P C (.so e) σ S) Q := by
  simp only [deO, W_bind]
  refine W_mono k fun x S h => ?_
  obtain ⟨i, rfl, h⟩ := h
  exact h
theorem w_sl {o : Ex} {lo hi : Ox} (k : W (de P C o false σ S) fun x S => W (deO P C lo σ S) fun l S => W (deO P C hi σ S) fun h S => ∃ r S', sliceSem x l h S = some (r, S') ∧ Q r S') : W (de P C (.sl o lo hi) false σ S) Q := by
  simp only [de, fin_f, W_bind]
  refine W_mono k fun x S h => W_mono h fun l S h => W_mono h fun h S k => ?_
  obtain ⟨r, S', h1, h2⟩ := k
  rw [h1]; exact h2
theorem w_nil {Q : List D → Sto → Prop} (k : Q [] S) : W (des P C .nil σ S) Q := by simp only [des]; exact k
theorem w_cons {e : Ex} {es : Exs} {Q : List D → Sto → Prop} (k : W (de P C e false σ S) fun d S => W (des P C es σ S) fun ds S => Q (d :: ds) S) : W (des P C (.cons e es) σ S) Q := by
  simp only [des, W_bind]; exact k
theorem w_tup {es : Exs} (k : W (des P C es σ S) fun ds S => ds.length ≤ sizeLine ∧ Q (.tup ds) S) : W (de P C (.tup es) false σ S) Q := by
  simp only [de, fin_f, W_bind]
  refine W_mono k fun ds S h => ?_
  rw [if_pos h.1]; exact h.2
theorem w_lst {es : Exs} (k : W (des P C es σ S) fun ds S => ds.length ≤ sizeLine ∧ Q (.loc S.length) (S ++ [.lst ds])) : W (de P C (.lst es) false σ S) Q := by
  simp only [de, fin_f, W_bind]
  refine W_mono k fun ds S h => ?_
  rw [if_pos h.1]; exact h.2
theorem w_cal {j : Nat} {es : Exs} (k : W (des P C es σ S) fun ds S => W (C j ds S) Q) : W (de P C (.cal j es) false σ S) Q := by
  simp only [de, fin_f, W_bind]; exact k
theorem w_mk {c j : Nat} {es : Exs} (k : W (des P C es σ S) fun ds S => W (C j (.loc S.length :: ds) (S ++ [.ins c []])) fun r S' => r = .non ∧ Q (.loc S.length) S') : W (de P C (.mk c j es) false σ S) Q := by
  simp only [de, fin_f, W_bind]
  refine W_mono k fun ds S h => W_mono h fun r S' h => ?_
  obtain ⟨rfl, h⟩ := h
  exact h
theorem w_mth {c j : Nat} {o : Ex} {m : Str} {es : Exs} (k : W (de P C o false σ S) fun x S => ∃ a fs, x = .loc a ∧ S[a]? = some (.ins c fs) ∧ fs.lookup m = none ∧ W (des P C es σ S) fun ds S => W (C j (.loc a :: ds) S) Q) : W (de P C (.mth c j o m es) false σ S) Q := by
  simp only [de, fin_f, W_bind]
  refine W_mono k fun x S h => ?_
  obtain ⟨a, fs, rfl, h1, h2, h3⟩ := h
  simp only [h1, h2, and_self, if_true, W_bind]
  exact h3
theorem w_calK {j n : Nat} {ks : List Str} {pm : List Nat} {es kes : Exs} (k : W (des P C es σ S) fun ds S => W (des P C kes σ S) fun zs S => (ds.length = n ∧ zs.length = ks.length) ∧ W (C j (pmL pm (ds ++ zs)) S) Q) : W (de P C (.calK j n ks pm es kes) false σ S) Q := by
  simp only [de, fin_f, W_bind]
  refine W_mono k fun ds S h => W_mono h fun zs S h => ?_
  rw [if_pos h.1]; exact h.2
theorem w_mthK {c j : Nat} {o : Ex} {m : Str} {n : Nat} {ks : List Str} {pm : List Nat} {es kes : Exs} (k : W (de P C o false σ S) fun x S => ∃ a fs, x = .loc a ∧ S[a]? = some (.ins c fs) ∧ fs.lookup m = none ∧ W (des P C es σ S) fun ds S => W (des P C kes σ S) fun zs S => (ds.length + 1 = n ∧ zs.length = ks.length) ∧ W (C j (pmL pm (.loc a :: ds ++ zs)) S) Q) : W (de P C (.mthK c j o m n ks pm es kes) false σ S) Q := by
  simp only [de, fin_f, W_bind]
  refine W_mono k fun x S h => ?_
  obtain ⟨a, fs, rfl, h1, h2, h3⟩ := h
  simp only [h1, h2, and_self, if_true, W_bind]
  refine W_mono h3 fun ds S h => W_mono h fun zs S h => ?_
  rw [if_pos h.1]; exact h.2
theorem w_lrg {a c : Ex} (k : W (de P C a false σ S) fun x S => W (de P C c false σ S) fun y S => ∃ i j, x = .int i ∧ y = .int j ∧ lrgOk i j = true ∧ Q (.loc S.length) (S ++ [.lst (lrgD i j)])) : W (de P C (.lrg a c) false σ S) Q := by
  simp only [de, fin_f, W_bind]
  refine W_mono k fun x S h => W_mono h fun y S h => ?_
  obtain ⟨i, j, rfl, rfl, h1, h2⟩ := h
  simp only [h1, if_true]; exact h2
theorem w_bi {f : BI} {es : Exs} (k : W (des P C es σ S) fun ds S => ∃ r S', biSem f ds S = some (r, S') ∧ Q r S') : W (de P C (.bi f es) false σ S) Q := by
  simp only [de, fin_f, W_bind]
  refine W_mono k fun ds S h => ?_
  obtain ⟨r, S', h1, h2⟩ := h
  rw [h1]; exact h2
theorem w_bm {f : BM} {o : Ex} {es : Exs} (k : W (de P C o false σ S) fun x S => ∃ a xs, x = .loc a ∧ S[a]? = some (.lst xs) ∧ W (des P C es σ S) fun ds S => ∃ r S', bmSem f (.loc a) ds S = some (r, S') ∧ Q r S') : W (de P C (.bm f o es) false σ S) Q := by
  simp only [de, fin_f, W_bind]
  refine W_mono k fun x S h => ?_
  obtain ⟨a, xs, rfl, h1, h2⟩ := h
  simp only [h1, W_bind]
  refine W_mono h2 fun ds S h => ?_
  obtain ⟨r, S', h1, h2⟩ := h
  rw [h1]; exact h2
theorem w_dctK {ks : List Str} {es : Exs} (k : W (des P C es σ (S ++ [.dk []])) fun ds S2 => S2[S.length]? = some (.dk []) ∧ (ds.length = ks.length ∧ ks.length ≤ 15) ∧ Q (.loc S.length) (S2.set S.length (.dk (mergeD [] ((ks.map Sum.inr).zip ds))))) : W (de P C (.dctK ks es) false σ S) Q := by
  simp only [de, fin_f, W_bind]
  refine W_mono k fun ds S h => ?_
  obtain ⟨h1, h2, h3⟩ := h
  rw [h1]
  dsimp only
  rw [if_pos h2]; exact h3
theorem w_calV {js : List Nat} {i : Nat} {es : Exs} {j : Nat} (h1 : σ[i]? = some (some (.fn j))) (h2 : j ∈ js) (k : W (des P C es σ S) fun ds S => W (C j ds S) Q) : W (de P C (.calV js i es) false σ S) Q := by
  simp only [de, fin_f, h1, h2, if_true, W_bind]; exact k
theorem w_dget1 {o y : Ex} (k : W (de P C o false σ S) fun x S => ∃ a c, x = .loc a ∧ S[a]? = some c ∧ isDk c = true ∧ W (de P C y false σ S) fun z S => ∃ c r, S[a]? = some c ∧ dictAt c z = some r ∧ Q (r.getD .non) S) : W (de P C (.dget1 o y) false σ S) Q := by
  simp only [de, fin_f, W_bind]
  refine W_mono k fun x S h => ?_
  obtain ⟨a, c, rfl, h1, h2, h3⟩ := h
  simp only [h1, h2, if_true, W_bind]
  refine W_mono h3 fun z S h => ?_
  obtain ⟨c, r, h1, h2, h3⟩ := h
  simp only [h1, h2, Option.map_some]; exact h3
theorem w_dget2 {o y d : Ex} (k : W (de P C o false σ S) fun x S => ∃ a c, x = .loc a ∧ S[a]? = some c ∧ isDk c = true ∧ W (de P C y false σ S) fun z S => W (de P C d false σ S) fun u S => ∃ c r, S[a]? = some c ∧ dictAt c z = some r ∧ Q (r.getD u) S) : W (de P C (.dget2 o y d) false σ S) Q := by
  simp only [de, fin_f, W_bind]
  refine W_mono k fun x S h => ?_
  obtain ⟨a, c, rfl, h1, h2, h3⟩ := h
  simp only [h1, h2, if_true, W_bind]
  refine W_mono h3 fun z S h => W_mono h fun u S h => ?_
  obtain ⟨c, r, h1, h2, h3⟩ := h
  simp only [h1, h2, Option.map_some]; exact h3
theorem w_rev {e : Ex} (k : W (de P C e false σ S) fun x S => ∃ xs, listD x S = some xs ∧ Q (.loc S.length) (S ++ [.lst xs.reverse])) : W (de P C (.rev e) false σ S) Q := by
  simp only [de, fin_f, W_bind]
  refine W_mono k fun x S h => ?_
  obtain ⟨xs, h1, h2⟩ := h
  rw [h1]; exact h2
theorem w_lc {own : List (Str × Nat)} {tg : Tg} {it : Ir} {ifs : Exs} {elt : Ex} (k : W (deI P C it σ S) fun w S1 => W (lcLoop w tg (wipeD σ (own.map (·.2))) S1.length (fun σ S => deT P C ifs σ S) (fun σ S => de P C elt false σ S) (wlen w S1) 0 (S1 ++ [.lst []])) fun _ S' => Q (.loc S1.length) S') : W (de P C (.lc own tg it ifs elt) false σ S) Q := by
  simp only [de, fin_f, W_bind]
  exact k
theorem w_iex {e : Ex} {Q : Walk → Sto → Prop} (k : W (de P C e false σ S) fun x S => ∃ w, walkOf x S = some w ∧ Q w S) : W (deI P C (.ex e) σ S) Q := by
  simp only [deI, W_bind]
  refine W_mono k fun x S h => ?_
  obtain ⟨w, h1, h2⟩ := h
  rw [h1]; exact h2
theorem w_rng1 {e : Ex} {Q : Walk → Sto → Prop} (k : W (de P C e false σ S) fun x S => ∃ j, x = .int j ∧ rngOk 0 j = true ∧ Q (.rng 0 j.toNat) S) : W (deI P C (.rng1 e) σ S) Q := by
  simp only [deI, W_bind]
  refine W_mono k fun x S h => ?_
  obtain ⟨j, rfl, h1, h2⟩ := h
  simp only [h1, if_true]; exact h2
theorem w_rng2 {e e' : Ex} {Q : Walk → Sto → Prop} (k : W (de P C e false σ S) fun x S => W (de P C e' false σ S) fun y S => ∃ i j, x = .int i ∧ y = .int j ∧ rngOk i j = true ∧ Q (.rng i (j - i).toNat) S) : W (deI P C (.rng2 e e') σ S) Q := by
  simp only [deI, W_bind]
  refine W_mono k fun x S h => W_mono h fun y S h => ?_
  obtain ⟨i, j, rfl, rfl, h1, h2⟩ := h
  simp only [h1, if_true]; exact h2
theorem w_enum {e : Ex} {Q : Walk → Sto → Prop} (k : W (de P C e false σ S) fun x S => ∃ w, walkL x S = some w ∧ Q (.en w) S) : W (deI P C (.enum e) σ S) Q := by
  simp only [deI, W_bind]
  refine W_mono k fun x S h => ?_
  obtain ⟨w, h1, h2⟩ := h
  rw [h1]; exact h2
theorem w_T0 {Q : Bool → Sto → Prop} (k : Q true S) : W (deT P C .nil σ S) Q := by simp only [deT]; exact k
theorem w_T1 {e : Ex} {Q : Bool → Sto → Prop} (k : W (de P C e true σ S) fun d S => ∃ t, d = .bl t ∧ Q t S) : W (deT P C (.cons e .nil) σ S) Q := by
  simp only [deT, W_tst]
  refine W_mono k fun x S h => ?_
  obtain ⟨t, rfl, h⟩ := h
  exact h
def isFin : Ex → Bool
  | .cmp .. => false | .chn .. => false | .and_ .. => false | .or_ .. => false | .not_ .. => false | .ite .. => false | _ => true
theorem w_tru {e : Ex} (h : isFin e = true) (k : W (de P C e false σ S) fun d S => ∃ t, truSem d S = some t ∧ Q (.bl t) S) : W (de P C e true σ S) Q := by
  have e1 : de P C e true σ S = fin true (de P C e false σ S) := by
    cases e <;> first | (simp only [de] <;> rfl) | (simp [isFin] at h)
  rw [e1, fin_t, W_bind]
  refine W_mono k fun x S h => ?_
  obtain ⟨t, h1, h2⟩ := h
  rw [h1]; exact h2
end
section
variable {P : Pg} {C : Nat → List D → Sto → Out D} {σ : Sl} {S : Sto} {Q : Po} {ss : Sms}
theorem z_nil (k : Q.nx σ S) : WS (dSs P C .nil σ S) Q := by simp only [dSs]; exact k
theorem z_set {i : Nat} {e : Ex} (k : W (de P C e false σ S) fun d S => WS (dSs P C ss (σ.set i (some d)) S) Q) : WS (dSs P C (.cons (.set i e) ss) σ S) Q := by
  simp only [dSs, dS, WS_nxt]
  exact WS_thn k
theorem z_setT {is : List Nat} {e : Ex} (k : W (de P C e false σ S) fun d S => ∃ σ', setTg (.tp is) d σ = some σ' ∧ WS (dSs P C ss σ' S) Q) : WS (dSs P C (.cons (.setT is e) ss) σ S) Q := by
  simp only [dSs, dS, WS_nxt]
  refine WS_thn (W_mono k fun d S h => ?_)
  obtain ⟨σ', h1, h2⟩ := h
  rw [h1]; exact h2
theorem z_par {i j : Nat} {a b : Ex} (k : W (de P C a false σ S) fun x S => W (de P C b false σ S) fun y S => WS (dSs P C ss ((σ.set i (some x)).set j (some y)) S) Q) : WS (dSs P C (.cons (.par i j a b) ss) σ S) Q := by
  simp only [dSs, dS, WS_nxt]
  exact WS_thn (W_mono k fun _ _ h => WS_thn h)
theorem z_fld {c : Nat} {o : Ex} {f : Str} {e : Ex} (k : W (de P C e false σ S) fun d S => W (de P C o false σ S) fun x S => ∃ S', putSem x c f d S = some S' ∧ WS (dSs P C ss σ S') Q) : WS (dSs P C (.cons (.fld c o f e) ss) σ S) Q := by
  simp only [dSs, dS, WS_nxt]
  refine WS_thn (W_mono k fun d S h => WS_thn (W_mono h fun x S h => ?_))
  obtain ⟨σ', h1, h2⟩ := h
  rw [h1]; exact h2
theorem z_sub {o i e : Ex} (k : W (de P C e false σ S) fun d S => W (de P C o false σ S) fun x S => W (de P C i false σ S) fun y S => ∃ S', setSem x y d S = some S' ∧ WS (dSs P C ss σ S') Q) : WS (dSs P C (.cons (.sub o i e) ss) σ S) Q := by
  simp only [dSs, dS, WS_nxt]
  refine WS_thn (W_mono k fun d S h => WS_thn (W_mono h fun x S h => WS_thn (W_mono h fun y S h => ?_)))
  obtain ⟨σ', h1, h2⟩ := h
  rw [h1]; exact h2
theorem z_augA {i : Nat} {a : Int} {e : Ex} (h : σ[i]? = some (some (.int a))) (k : W (de P C e false σ S) fun d S => ∃ b, d = .int b ∧ WS (dSs P C ss (σ.set i (some (.int (a + b)))) S) Q) : WS (dSs P C (.cons (.aug i .Add e) ss) σ S) Q := by
  simp only [dSs, dS, h, WS_nxt]
  refine WS_thn (W_mono k fun d S h => ?_)
  obtain ⟨b, rfl, h⟩ := h
  exact h
theorem z_augS {i : Nat} {a : Int} {e : Ex} (h : σ[i]? = some (some (.int a))) (k : W (de P C e false σ S) fun d S => ∃ b, d = .int b ∧ WS (dSs P C ss (σ.set i (some (.int (a - b)))) S) Q) : WS (dSs P C (.cons (.aug i .Sub e) ss) σ S) Q := by
  simp only [dSs, dS, h, WS_nxt]
  refine WS_thn (W_mono k fun d S h => ?_)
  obtain ⟨b, rfl, h⟩ := h
  exact h
theorem z_exp {e : Ex} (k : W (de P C e false σ S) fun _ S => WS (dSs P C ss σ S) Q) : WS (dSs P C (.cons (.exp e) ss) σ S) Q := by
  simp only [dSs, dS, WS_nxt]
  exact WS_thn k
theorem z_ret {e : Ex} (k : W (de P C e false σ S) Q.rt) : WS (dSs P C (.cons (.ret e) ss) σ S) Q := by
  simp only [dSs, dS, WS_nxt]
  exact WS_thn k
theorem z_retN (k : Q.rt .non S) : WS (dSs P C (.cons .retN ss) σ S) Q := by
  simp only [dSs, dS, WS_nxt]
  exact k
theorem z_ite {c : Ex} {a b : Sms} (k : W (de P C c true σ S) fun d S => ∃ t, d = .bl t ∧ (t = true → WS (dSs P C a σ S) { Q with nx := fun σ S => WS (dSs P C ss σ S) Q }) ∧ (t = false → WS (dSs P C b σ S) { Q with nx := fun σ S => WS (dSs P C ss σ S) Q })) : WS (dSs P C (.cons (.ite c a b) ss) σ S) Q := by
  simp only [dSs, dS, WS_nxt]
  refine WS_thn ?_
  rw [W_tst]
  refine W_mono k fun x S h => ?_
  obtain ⟨t, rfl, h2, h3⟩ := h
  cases t with
  | false => exact h3 rfl
  | true => exact h2 rfl
theorem z_whl {c : Ex} {b : Sms} (k : WS (whl (fun σ S => tstO (de P C c true σ S)) (fun σ S => dSs P C b σ S) σ S) { Q with nx := fun σ S => WS (dSs P C ss σ S) Q }) : WS (dSs P C (.cons (.whl c b) ss) σ S) Q := by
  simp only [dSs, dS, WS_nxt]
  exact k
theorem z_for {tg : Tg} {it : Ir} {b : Sms} (k : W (deI P C it σ S) fun w S => WS (forN w tg (fun σ S => dSs P C b σ S) (wlen w S) 0 σ S) { Q with nx := fun σ S => WS (dSs P C ss σ S) Q }) : WS (dSs P C (.cons (.for_ tg it b) ss) σ S) Q := by
  simp only [dSs, dS, WS_nxt]
  exact WS_thn k
theorem z_pass (k : WS (dSs P C ss σ S) Q) : WS (dSs P C (.cons .pass ss) σ S) Q := by
  simp only [dSs, dS, WS_nxt]
  exact k
theorem z_brk (k : Q.bk σ S) : WS (dSs P C (.cons .brk ss) σ S) Q := by
  simp only [dSs, dS, WS_nxt]
  exact k
theorem z_cnt (k : Q.ct σ S) : WS (dSs P C (.cons .cnt ss) σ S) Q := by
  simp only [dSs, dS, WS_nxt]
  exact k
theorem z_par3 {i j l : Nat} {a b c : Ex} (k : W (de P C a false σ S) fun x S => W (de P C b false σ S) fun y S => W (de P C c false σ S) fun z S => WS (dSs P C ss (((σ.set i (some x)).set j (some y)).set l (some z)) S) Q) : WS (dSs P C (.cons (.par3 i j l a b c) ss) σ S) Q := by
  simp only [dSs, dS, WS_nxt]
  exact WS_thn (W_mono k fun _ _ h => WS_thn (W_mono h fun _ _ h => WS_thn h))
theorem z_sub2 {o1 i1 o2 i2 a b : Ex} (k : W (de P C a false σ S) fun d1 S => W (de P C b false σ S) fun d2 S => W (de P C o1 false σ S) fun x1 S => W (de P C i1 false σ S) fun y1 S => ∃ S', setSem x1 y1 d1 S = some S' ∧ W (de P C o2 false σ S') fun x2 S => W (de P C i2 false σ S) fun y2 S => ∃ S', setSem x2 y2 d2 S = some S' ∧ WS (dSs P C ss σ S') Q) :
    WS (dSs P C (.cons (.sub2 o1 i1 o2 i2 a b) ss) σ S) Q := by
  simp only [dSs, dS, WS_nxt]
  refine WS_thn (W_mono k fun _ _ h => WS_thn (W_mono h fun _ _ h => WS_thn (W_mono h fun _ _ h => WS_thn (W_mono h fun _ _ h => ?_))))
  obtain ⟨S1, e1, h⟩ := h
  rw [e1]
  refine WS_thn (W_mono h fun _ _ h => WS_thn (W_mono h fun _ _ h => ?_))
  obtain ⟨S2, e2, h⟩ := h
  rw [e2]; exact h
theorem z_sub3 {o1 i1 o2 i2 o3 i3 a b c : Ex} (k : W (de P C a false σ S) fun d1 S => W (de P C b false σ S) fun d2 S => W (de P C c false σ S) fun d3 S => W (de P C o1 false σ S) fun x1 S => W (de P C i1 false σ S) fun y1 S => ∃ S', setSem x1 y1 d1 S = some S' ∧ W (de P C o2 false σ S') fun x2 S => W (de P C i2 false σ S) fun y2 S => ∃ S', setSem x2 y2 d2 S = some S' ∧ W (de P C o3 false σ S') fun x3 S => W (de P C i3 false σ S) fun y3 S => ∃ S', setSem x3 y3 d3 S = some S' ∧ WS (dSs P C ss σ S') Q) :
    WS (dSs P C (.cons (.sub3 o1 i1 o2 i2 o3 i3 a b c) ss) σ S) Q := by
  simp only [dSs, dS, WS_nxt]
  refine WS_thn (W_mono k fun _ _ h => WS_thn (W_mono h fun _ _ h => WS_thn (W_mono h fun _ _ h => WS_thn (W_mono h fun _ _ h => WS_thn (W_mono h fun _ _ h => ?_)))))
  obtain ⟨S1, e1, h⟩ := h
  rw [e1]
  refine WS_thn (W_mono h fun _ _ h => WS_thn (W_mono h fun _ _ h => ?_))
  obtain ⟨S2, e2, h⟩ := h
  rw [e2]
  refine WS_thn (W_mono h fun _ _ h => WS_thn (W_mono h fun _ _ h => ?_))
  obtain ⟨S3, e3, h⟩ := h
  rw [e3]; exact h
theorem z_raiF {c : Nat} {x f : Str} {e : Ex} (k : W (de P C e false σ S) fun d S => Q.er c (some [(f, d)]) S) : WS (dSs P C (.cons (.raiF c x f e) ss) σ S) Q := by
  simp only [dSs, dS, WS_nxt]
  exact WS_thn k
theorem z_rai {c : Nat} {x : Str} (k : Q.er c none S) : WS (dSs P C (.cons (.rai c x) ss) σ S) Q := by
  simp only [dSs, dS, WS_nxt]
  exact k
/-- x = f(..), where f may raise -/
theorem z_setX {i j : Nat} {es : Exs} (k : W (des P C es σ S) fun ds S => WE (C j ds S) (fun d S => WS (dSs P C ss (σ.set i (some d)) S) Q) Q.er) : WS (dSs P C (.cons (.set i (.cal j es)) ss) σ S) Q := by
  simp only [dSs, dS, WS_nxt]
  refine WS_thnE ?_
  simp only [de, fin_f]
  obtain ⟨ds, S1, e, h⟩ := W_ex k
  rw [e]
  exact h
theorem z_try1 {b : Sms} {c : Nat} {x : Str} {i : Nat} {f lit : Str} (k : WS (dSs P C b σ S) { Q with nx := fun σ S => WS (dSs P C ss σ S) Q, er := fun c' fs S' => ∃ l d, c' = c ∧ fs = some l ∧ l.lookup f = some d ∧ Q.rt (.tup [.str lit, d]) S' }) : WS (dSs P C (.cons (.try1 b c x i f lit) ss) σ S) Q := by
  simp only [dSs, dS, WS_nxt]
  revert k
  cases dSs P C b σ S with
  | err c' fs σ1 S1 =>
    intro k
    obtain ⟨l, d, rfl, rfl, h3, h4⟩ := k
    simp only [h3, if_true]
    exact h4
  | _ => exact fun k => k
theorem z_forK {i v : Nat} {b : Sms} {a : Nat} {kvs : List (Key × D)} (h1 : σ[v]? = some (some (.loc a))) (h2 : S[a]? = some (.dk kvs)) (k : WS (forN (.vs (kvs.map fun kv => keyD' kv.1)) (.nm i) (fun σ S => dSs P C b σ S) kvs.length 0 σ (S.set a (.fk kvs)))
      { nx := fun σ S => (∃ z, S[a]? = some (.fk z)) ∧ WS (dSs P C ss σ (S.set a (.dk kvs))) Q, rt := fun d S => (∃ z, S[a]? = some (.fk z)) ∧ Q.rt d (S.set a (.dk kvs)) }) : WS (dSs P C (.cons (.forK i v b) ss) σ S) Q := by
  simp only [dSs, dS, WS_nxt, h1, h2]
  revert k
  cases forN (.vs (kvs.map fun kv => keyD' kv.1)) (.nm i) (fun σ S => dSs P C b σ S) kvs.length 0 σ (S.set a (.fk kvs)) with
  | nx σ1 S1 =>
    rintro ⟨⟨z, hz⟩, k⟩
    unfold unfk
    simp only [hz]
    exact k
  | rt d S1 =>
    rintro ⟨⟨z, hz⟩, k⟩
    unfold unfk
    simp only [hz]
    exact k
  | _ => exact fun k => k.elim
end
end DI

set_option Elab.async false
set_option linter.all false
set_option maxRecDepth 100000
set_option maxHeartbeats 4000000
/-! Equality of plain data. -/
namespace DI
open L2 PySem PySem.Spec PyProof.Rows
def plD : Nat → D → Bool
  | 0, _ => false
  | _ + 1, .non => true
  | _ + 1, .int _ => true
  | _ + 1, .str x => PyData.canLay0 (.str x)
  | n + 1, .tup xs => xs.all (plD n)
  | _ + 1, _ => false
def toQ : Nat → D → PyData
  | 0, _ => .none
  | _ + 1, .int i => .int i
  | _ + 1, .str x => .str x
  | n + 1, .tup xs => .tuple (xs.map (toQ n))
  | _ + 1, _ => .none
theorem toP_all {S : Sto} {n : Nat} (ih : ∀ x, plD n x = true → toP S n x = some (toQ n x)) : ∀ xs : List D, xs.all (plD n) = true → xs.mapM (toP S n) = some (xs.map (toQ n))
  | [], _ => rfl
  | x :: xs, h => by
    simp only [List.all_cons, Bool.and_eq_true] at h
    rw [List.mapM_cons, ih x h.1, toP_all ih xs h.2]
    rfl
theorem toP_pl {S : Sto} : ∀ n x, plD n x = true → toP S n x = some (toQ n x) := by
  intro n
  induction n with
  | zero => intro x h; simp [plD] at h
  | succ n ih =>
    intro x h
    cases x with
    | non => rfl
    | int i => rfl
    | str z => rfl
    | tup xs =>
      simp only [plD] at h
      simp only [toP, toP_all ih xs h, toQ, Option.map_some]
    | _ => simp [plD] at h
theorem lay_all {n : Nat} (ih : ∀ x, plD n x = true → PyData.canLay0 (toQ n x) = true) : ∀ xs : List D, xs.all (plD n) = true → PyData.canLayAll0 (xs.map (toQ n)) = true
  | [], _ => by simp [PyData.canLayAll0]
  | x :: xs, h => by
    simp only [List.all_cons, Bool.and_eq_true] at h
    simp only [List.map_cons, PyData.canLayAll0, ih x h.1, lay_all ih xs h.2, Bool.and_self]
theorem lay_pl : ∀ n x, plD n x = true → PyData.canLay0 (toQ n x) = true := by
  intro n
  induction n with
  | zero => intro x h; simp [plD] at h
  | succ n ih =>
    intro x h
    cases x with
    | non => simp [toQ, PyData.canLay0]
    | int i => simp [toQ, PyData.canLay0]
    | str z => simpa [toQ, plD] using h
    | tup xs =>
      simp only [plD] at h
      simp only [toQ, PyData.canLay0, lay_all ih xs h]
    | _ => simp [plD] at h
theorem dep_all {n : Nat} (ih : ∀ x, PyData.depth (toQ n x) ≤ n) : ∀ xs : List D, PyData.depthAll (xs.map (toQ n)) ≤ n
  | [] => by simp [PyData.depthAll]
  | x :: xs => by
    simp only [List.map_cons, PyData.depthAll]
    exact Nat.max_le.mpr ⟨ih x, dep_all ih xs⟩
theorem dep_pl : ∀ n x, PyData.depth (toQ n x) ≤ n := by
  intro n
  induction n with
  | zero => intro x; simp [toQ, PyData.depth]
  | succ n ih =>
    intro x
    cases x with
    | tup xs =>
      simp only [toQ, PyData.depth]
      have := dep_all ih xs
      omega
    | _ => simp [toQ, PyData.depth]
theorem eqv_all {n : Nat} (ih : ∀ x y, plD n x = true → plD n y = true → (PyData.eqv (toQ n x) (toQ n y) = true ↔ x = y)) : ∀ xs ys : List D, xs.all (plD n) = true → ys.all (plD n) = true → (PyData.eqvAll (xs.map (toQ n)) (ys.map (toQ n)) = true ↔ xs = ys)
  | [], [], _, _ => by simp [PyData.eqvAll]
  | [], _ :: _, _, _ => by simp [PyData.eqvAll]
  | _ :: _, [], _, _ => by simp [PyData.eqvAll]
  | x :: xs, y :: ys, h, g => by
    simp only [List.all_cons, Bool.and_eq_true] at h g
    simp only [List.map_cons, PyData.eqvAll, Bool.and_eq_true, ih x y h.1 g.1, eqv_all ih xs ys h.2 g.2, List.cons.injEq]
theorem eqv_pl : ∀ n x y, plD n x = true → plD n y = true → (PyData.eqv (toQ n x) (toQ n y) = true ↔ x = y) := by
  intro n
  induction n with
  | zero => intro x y h; simp [plD] at h
  | succ n ih =>
    intro x y h g
    cases x <;> (try (simp [plD] at h; done)) <;> cases y <;> (try (simp [plD] at g; done)) <;> simp only [toQ, PyData.eqv, reduceCtorEq, iff_false, Bool.false_eq_true, not_false_eq_true, beq_iff_eq, D.int.injEq, D.str.injEq, true_iff, iff_true]
    simp only [plD] at h g
    rw [eqv_all ih _ _ h g, D.tup.injEq]
/-- equality of plain data -/
theorem eq_pl {S : Sto} {x y : D} (hx : plD 32 x = true) (hy : plD 32 y = true) : ∃ t, eqSem x y S = some t ∧ (t = true ↔ x = y) := by
  refine ⟨PyData.eqv (toQ 32 x) (toQ 32 y), ?_, eqv_pl 32 x y hx hy⟩
  unfold eqSem
  rw [toP_pl 32 x hx, toP_pl 32 y hy]
  have a : ∀ x, plD 32 x = true → SeqAt.shaped (toQ 32 x) = true := fun x h => by
    unfold SeqAt.shaped
    rw [lay_pl 32 x h, Bool.true_and]
    have := dep_pl 32 x
    exact decide_eq_true (by omega)
  simp only [a x hx, a y hy, and_self, if_true]
theorem eqD_int {S : Sto} {i j : Int} : eqSem (.int i) (.int j) S = some (i == j) := by
  obtain ⟨t, h1, h2⟩ := eq_pl (S := S) (x := .int i) (y := .int j) rfl rfl
  rw [h1]
  congr 1
  rw [Bool.eq_iff_iff, h2, D.int.injEq, beq_iff_eq]
theorem sz {n : Nat} (h : n ≤ 1000000) : n ≤ sizeLine := Nat.le_trans h (by decide)
theorem ix_loc {S : Sto} {Q : D → Prop} {a : Nat} {xs : List D} {k : Int} {d : D} (h : S[a]? = some (.lst xs)) (h2 : atI xs k = some d) (q : Q d) : ∃ d, itemSem (.loc a) (.int k) S = some d ∧ Q d := ⟨d, by simp only [itemSem, h, h2], q⟩
theorem set_loc {S : Sto} {Q : Sto → Prop} {a : Nat} {xs : List D} {k : Int} {j : Nat} {d : D} (h : S[a]? = some (.lst xs)) (h2 : ixN xs.length k = some j) (q : Q (S.set a (.lst (xs.set j d)))) : ∃ S', setSem (.loc a) (.int k) d S = some S' ∧ Q S' := ⟨_, by simp only [setSem, h, h2, Option.map_some], q⟩
theorem ixN_nat {n k : Nat} (h : k < n) : ixN n (k : Int) = some k := by
  unfold ixN
  rw [if_pos (Int.natCast_nonneg k), if_pos (by omega), Int.toNat_natCast]
theorem atI_nat {xs : List D} {k : Nat} {d : D} (h : xs[k]? = some d) : atI xs (k : Int) = some d := by
  unfold atI
  rw [ixN_nat (List.getElem?_eq_some_iff.mp h).1]
  exact h
theorem atI_of {xs : List D} {x : Int} (h0 : 0 ≤ x) (h1 : x < xs.length) : ∃ d, xs[x.toNat]? = some d ∧ atI xs x = some d := by
  obtain ⟨k, rfl⟩ := Int.eq_ofNat_of_zero_le h0
  have hk : k < xs.length := by omega
  refine ⟨xs[k], ?_, atI_nat (List.getElem?_eq_getElem hk)⟩
  rw [Int.toNat_natCast]
  exact List.getElem?_eq_getElem hk
end DI

set_option Elab.async false
set_option linter.all false
set_option maxRecDepth 100000
set_option maxHeartbeats 4000000
/-! Comprehensions whose tests and items change nothing; lists of ints. -/
namespace DI
open L2 PySem PySem.Spec PyProof.Rows
theorem intsD_map : ∀ l : List Int, intsD (l.map D.int) = some l
  | [] => rfl
  | i :: r => by
    show (intsD (r.map D.int)).map (i :: ·) = _
    rw [intsD_map r]
    rfl
section
variable {P : Pg} {C : Nat → List D → Sto → Out D}
theorem lcLoop_pure {w : Walk} {tg : Tg} {σ : Sl} {S : Sto} {test : Sl → Sto → Out Bool} {elt : Sl → Sto → Out D} {xs : List D} (f : D → Option D) (hw : ∀ i acc, wgo w i (S ++ [Cell.lst acc]) = some xs[i]?) (hlen : xs.length ≤ 1000000)
    (step : ∀ d, d ∈ xs → ∀ acc : List D, ∃ σ', setTg tg d σ = some σ' ∧ W (test σ' (S ++ [Cell.lst acc])) fun t S1 => S1 = S ++ [Cell.lst acc] ∧ (t = true → W (elt σ' (S ++ [Cell.lst acc])) fun v S2 => S2 = S ++ [Cell.lst acc] ∧ f d = some v) ∧ (t = false → f d = none)) :
    W (lcLoop w tg σ S.length test elt xs.length 0 (S ++ [Cell.lst []])) fun _ S' => S' = S ++ [Cell.lst (xs.filterMap f)] := by
  refine W_lcLoop (J := fun i S' => i ≤ xs.length ∧ S' = S ++ [Cell.lst ((xs.take i).filterMap f)]) (k0 := xs.length) ?_ ?_ ?_ xs.length 0 _ (by omega) ⟨by omega, by simp⟩
  · rintro S' ⟨_, rfl⟩
    rw [hw]
    simp
  · rintro i S' hi ⟨_, rfl⟩
    obtain ⟨σ', h1, h2⟩ := step xs[i] (List.getElem_mem hi) ((xs.take i).filterMap f)
    refine ⟨xs[i], σ', ?_, h1, W_mono h2 ?_⟩
    · rw [hw, List.getElem?_eq_getElem hi]
    · rintro t S1 ⟨rfl, h3, h4⟩
      have et : xs.take (i + 1) = xs.take i ++ [xs[i]] := by simp
      cases t with
      | false =>
        refine ⟨by omega, ?_⟩
        rw [et, List.filterMap_append]
        simp [h4 rfl]
      | true =>
        refine W_mono (h3 rfl) ?_
        rintro v S2 ⟨rfl, h5⟩
        refine ⟨(xs.take i).filterMap f, get_push, ?_, by omega, ?_⟩
        · have := List.length_filterMap_le f (xs.take i)
          have h7 : (xs.take i).length ≤ i := by simp; omega
          exact Nat.lt_of_lt_of_le (Nat.lt_of_le_of_lt (Nat.le_trans this h7) (Nat.lt_of_lt_of_le hi hlen)) (by decide)
        · rw [et, List.filterMap_append]
          simp [h5]
  · rintro S' ⟨_, rfl⟩
    simp
theorem li_walk {S : Sto} {a : Nat} {xs : List D} (h : S[a]? = some (.lst xs)) (i : Nat) (acc : List D) : wgo (.li a) i (S ++ [Cell.lst acc]) = some xs[i]? := by
  simp only [wgo, get_pushl h]
theorem rng_walk {S : Sto} {n : Nat} (i : Nat) (acc : List D) : wgo (.rng 0 n) i (S ++ [Cell.lst acc]) = some ((List.range n).map (fun k : Nat => D.int k))[i]? := by
  simp only [wgo, List.getElem?_map, List.getElem?_range']
  by_cases h : i < n
  · simp [h]
  · simp [h]
end
theorem foldl_max : ∀ (l : List Int) (a : Int), a ≤ l.foldl max a ∧ ∀ x ∈ l, x ≤ l.foldl max a
  | [], a => ⟨Int.le_refl _, by simp⟩
  | y :: l, a => by
    have h := foldl_max l (max a y)
    refine ⟨?_, fun x hx => ?_⟩
    · simp only [List.foldl_cons]; have := h.1; omega
    · simp only [List.foldl_cons]
      rcases List.mem_cons.mp hx with rfl | hx
      · have := h.1; omega
      · exact h.2 x hx
theorem foldl_min : ∀ (l : List Int) (a : Int), l.foldl min a ≤ a ∧ (∀ x ∈ l, l.foldl min a ≤ x) ∧ (l.foldl min a = a ∨ l.foldl min a ∈ l)
  | [], a => ⟨Int.le_refl _, by simp, .inl rfl⟩
  | y :: l, a => by
    have h := foldl_min l (min a y)
    simp only [List.foldl_cons]
    refine ⟨?_, fun x hx => ?_, ?_⟩
    · have := h.1; omega
    · rcases List.mem_cons.mp hx with rfl | hx
      · have := h.1; omega
      · exact h.2.1 x hx
    · rcases h.2.2 with h3 | h3
      · rw [h3]
        by_cases c : a ≤ y
        · left; omega
        · right; have : min a y = y := by omega
          rw [this]; simp
      · right; exact List.mem_cons_of_mem _ h3
/-! ### what changes nothing -/
def V (P : Pg) (C : Nat → List D → Sto → Out D) (e : Ex) (σ : Sl) (S : Sto) (v : D) : Prop := W (de P C e false σ S) fun d S' => S' = S ∧ d = v
def T (P : Pg) (C : Nat → List D → Sto → Out D) (e : Ex) (σ : Sl) (S : Sto) (p : Bool) : Prop := W (de P C e true σ S) fun d S' => S' = S ∧ d = .bl p
section
variable {P : Pg} {C : Nat → List D → Sto → Out D} {σ : Sl} {S : Sto} {a c : Ex} {x y z : D} {p q : Bool}
theorem V_var {i : Nat} (h : σ[i]? = some (some x)) : V P C (.var i) σ S x := w_var ⟨_, h, rfl, rfl⟩
theorem V_int {i : Int} : V P C (.cst (.int i)) σ S (.int i) := w_int ⟨rfl, rfl⟩
theorem V_str {i : Str} : V P C (.cst (.str i)) σ S (.str i) := w_str ⟨rfl, rfl⟩
theorem V_non : V P C (.cst .non) σ S .non := w_non ⟨rfl, rfl⟩
theorem V_bl {i : Bool} : V P C (.cst (.bl i)) σ S (.bl i) := w_blc ⟨rfl, rfl⟩
theorem V_bty {n : String} : V P C (.bty n) σ S (.ty n) := w_bty ⟨rfl, rfl⟩
theorem V_use {e : Ex} {Q : D → Sto → Prop} (h : V P C e σ S x) (k : Q x S) : W (de P C e false σ S) Q := W_mono h fun d S' ⟨e1, e2⟩ => by rw [e1, e2]; exact k
theorem T_use {e : Ex} {Q : D → Sto → Prop} (h : T P C e σ S p) (k : Q (.bl p) S) : W (de P C e true σ S) Q := W_mono h fun d S' ⟨e1, e2⟩ => by rw [e1, e2]; exact k
theorem V_bin {o : Operator} (ha : V P C a σ S x) (hc : V P C c σ S y) (h : opSem o x y S = some (z, S)) : V P C (.bin o a c) σ S z := w_bin (V_use ha (V_use hc (by rw [h]; exact ⟨rfl, rfl⟩)))
theorem V_ix {o i : Ex} (ha : V P C o σ S x) (hc : V P C i σ S y) (h : itemSem x y S = some z) : V P C (.ix o i) σ S z := w_ix (V_use ha (V_use hc ⟨_, h, rfl, rfl⟩))
theorem V_fld {n : Nat} {f : Str} (ha : V P C a σ S x) (h : fldSem x n f S = some z) : V P C (.fld n a f) σ S z := w_fld (V_use ha ⟨_, h, rfl, rfl⟩)
theorem V_bi1 {f : BI} (ha : V P C a σ S x) (h : biSem f [x] S = some (z, S)) : V P C (.bi f (.cons a .nil)) σ S z := w_bi (w_cons (V_use ha (w_nil ⟨_, _, h, rfl, rfl⟩)))
theorem V_bi2 {f : BI} (ha : V P C a σ S x) (hc : V P C c σ S y) (h : biSem f [x, y] S = some (z, S)) : V P C (.bi f (.cons a (.cons c .nil))) σ S z := w_bi (w_cons (V_use ha (w_cons (V_use hc (w_nil ⟨_, _, h, rfl, rfl⟩)))))
theorem V_neg {i : Int} (ha : V P C a σ S (.int i)) : V P C (.neg a) σ S (.int (-i)) := w_neg (V_use ha ⟨_, rfl, rfl, rfl⟩)
theorem V_cmp {o : CmpOp} (ha : V P C a σ S x) (hc : V P C c σ S y) (h : cmpSem o x y S = some p) : V P C (.cmp o a c) σ S (.bl p) := w_cmp (V_use ha (V_use hc ⟨_, h, rfl, rfl⟩))
theorem T_cmp {o : CmpOp} (ha : V P C a σ S x) (hc : V P C c σ S y) (h : cmpSem o x y S = some p) : T P C (.cmp o a c) σ S p := w_cmp (V_use ha (V_use hc ⟨_, h, rfl, rfl⟩))
theorem T_tru (h : isFin a = true) (ha : V P C a σ S x) (ht : truSem x S = some p) : T P C a σ S p := w_tru h (V_use ha ⟨_, ht, rfl, rfl⟩)
theorem T_and (ha : T P C a σ S p) (hc : p = true → T P C c σ S q) : T P C (.and_ a c) σ S (p && q) := w_and (T_use ha ⟨_, rfl, fun h => by subst h; exact hc rfl, fun h => by subst h; exact ⟨rfl, rfl⟩⟩)
theorem T_or (ha : T P C a σ S p) (hc : p = false → T P C c σ S q) : T P C (.or_ a c) σ S (p || q) := w_or (T_use ha ⟨_, rfl, fun h => by subst h; exact ⟨rfl, rfl⟩, fun h => by subst h; exact hc rfl⟩)
theorem T_not (ha : T P C a σ S p) : T P C (.not_ a) σ S (!p) := w_not (T_use ha ⟨_, rfl, rfl, rfl⟩)
theorem T_cast (h : T P C a σ S p) (e : p = q) : T P C a σ S q := e ▸ h
theorem z_iteT {Q : Po} {ss a b : Sms} (h : T P C c σ S p) (h1 : p = true → WS (dSs P C a σ S) { Q with nx := fun σ S => WS (dSs P C ss σ S) Q }) (h2 : p = false → WS (dSs P C b σ S) { Q with nx := fun σ S => WS (dSs P C ss σ S) Q }) : WS (dSs P C (.cons (.ite c a b) ss) σ S) Q := z_ite (T_use h ⟨_, rfl, h1, h2⟩)
theorem w_iteT {Q : D → Sto → Prop} {t : Ex} {b : Bool} (h : T P C t σ S p) (h1 : p = true → W (de P C a b σ S) Q) (h2 : p = false → W (de P C c b σ S) Q) : W (de P C (.ite t a c) b σ S) Q := w_ite (T_use h ⟨_, rfl, h1, h2⟩)
end
theorem bi_max1 {S : Sto} {a : Nat} {st : Int} {l : List Int} (h : S[a]? = some (.lst (D.int st :: l.map D.int))) : biSem .max1 [.loc a] S = some (.int (l.foldl max st), S) := by
  have e : intsD (D.int st :: l.map D.int) = some (st :: l) := by rw [← List.map_cons, intsD_map]
  simp only [biSem, listD, h, e, maxL, Option.bind, Option.map]
theorem bi_min1 {S : Sto} {a : Nat} {st : Int} {l : List Int} (h : S[a]? = some (.lst (D.int st :: l.map D.int))) : biSem .min1 [.loc a] S = some (.int (l.foldl min st), S) := by
  have e : intsD (D.int st :: l.map D.int) = some (st :: l) := by rw [← List.map_cons, intsD_map]
  simp only [biSem, listD, h, e, minL, Option.bind, Option.map]
end DI

set_option Elab.async false
set_option linter.all false
set_option maxRecDepth 100000
set_option maxHeartbeats 4000000
/-! Comprehensions over a list of any kind, by a test and an item; equality of lists; walks. -/
namespace DI
open L2 PySem PySem.Spec PyProof.Rows
def IsW (w : Walk) (S : Sto) (xs : List D) : Prop := (∀ i acc, wgo w i (S ++ [Cell.lst acc]) = some xs[i]?) ∧ wlen w S = xs.length ∧ xs.length ≤ 1000000
theorem IsW.li {S : Sto} {a : Nat} {xs : List D} (h : S[a]? = some (.lst xs)) (hl : xs.length ≤ 1000000) : IsW (.li a) S xs := ⟨fun i acc => li_walk h i acc, by simp only [wlen, h], hl⟩
theorem IsW.vs {S : Sto} {xs : List D} (hl : xs.length ≤ 1000000) : IsW (.vs xs) S xs := ⟨fun i acc => rfl, rfl, hl⟩
theorem IsW.rng {S : Sto} {n : Nat} (hl : n ≤ 1000000) : IsW (.rng 0 n) S ((List.range n).map fun k : Nat => D.int k) := ⟨fun i acc => rng_walk i acc, by simp only [wlen, List.length_map, List.length_range], by simpa using hl⟩
section
variable {P : Pg} {C : Nat → List D → Sto → Out D} {σ : Sl} {S : Sto}
theorem lc_pure {α : Type} {xs : List α} (rd : α → D) (p : α → Bool) (g : α → D) {own : List (Str × Nat)} {tg : Tg} {it : Ir} {ifs : Exs} {elt : Ex} {Q : D → Sto → Prop}
    (hit : W (deI P C it σ S) fun w S1 => IsW w S1 (xs.map rd) ∧ (∀ x ∈ xs, ∀ acc, ∃ σ', setTg tg (rd x) (wipeD σ (own.map (·.2))) = some σ' ∧ W (deT P C ifs σ' (S1 ++ [Cell.lst acc])) (fun t S2 => S2 = S1 ++ [Cell.lst acc] ∧ t = p x) ∧ (p x = true → V P C elt σ' (S1 ++ [Cell.lst acc]) (g x))) ∧
      Q (.loc S1.length) (S1 ++ [Cell.lst ((xs.filter p).map g)])) : W (de P C (.lc own tg it ifs elt) false σ S) Q := by
  refine w_lc (W_mono hit fun w S1 ⟨⟨hw1, hw2, hw3⟩, hs, hq⟩ => ?_)
  rw [hw2, List.length_map]
  rw [List.length_map] at hw3
  refine W_lcLoop (J := fun i S' => i ≤ xs.length ∧ S' = S1 ++ [Cell.lst (((xs.take i).filter p).map g)]) (k0 := xs.length) ?_ ?_ ?_ xs.length 0 _ (by omega) ⟨by omega, by simp⟩
  · rintro S' ⟨_, rfl⟩
    rw [hw1]
    simp
  · rintro i S' hi ⟨_, rfl⟩
    obtain ⟨σ', h1, h2, h3⟩ := hs xs[i] (List.getElem_mem hi) (((xs.take i).filter p).map g)
    refine ⟨rd xs[i], σ', ?_, h1, W_mono h2 ?_⟩
    · rw [hw1, List.getElem?_map, List.getElem?_eq_getElem hi]
      rfl
    · rintro t S2 ⟨rfl, rfl⟩
      have et : xs.take (i + 1) = xs.take i ++ [xs[i]] := by simp
      cases hp : p xs[i] with
      | false =>
        show if false = true then _ else _
        rw [if_neg (by decide)]
        refine ⟨by omega, ?_⟩
        rw [et, List.filter_append]
        simp [hp]
      | true =>
        show if true = true then _ else _
        rw [if_pos rfl]
        refine W_mono (h3 hp) ?_
        rintro v S3 ⟨rfl, rfl⟩
        refine ⟨((xs.take i).filter p).map g, get_push, ?_, by omega, ?_⟩
        · have h6 := List.length_filter_le p (xs.take i)
          have h7 : (xs.take i).length ≤ i := by simp; omega
          rw [List.length_map]
          exact Nat.lt_of_lt_of_le (Nat.lt_of_le_of_lt (Nat.le_trans h6 h7) (Nat.lt_of_lt_of_le hi hw3)) (by decide)
        · rw [et, List.filter_append]
          simp [hp]
  · rintro S' ⟨_, rfl⟩
    rw [List.take_length]
    exact hq
theorem dT1 {e : Ex} {p : Bool} (h : T P C e σ S p) : W (deT P C (.cons e .nil) σ S) fun t S' => S' = S ∧ t = p := w_T1 (W_mono h fun d S' ⟨e1, e2⟩ => ⟨p, e2, e1, rfl⟩)
theorem dT0 : W (deT P C .nil σ S) fun t S' => S' = S ∧ t = true := w_T0 ⟨rfl, rfl⟩
theorem lc_set {own : List (Str × Nat)} {v : Nat} {d : D} {e : own.map (·.2) = [v]} : setTg (.nm v) d (wipeD σ (own.map (·.2))) = some (σ.set v (some d)) := by
  rw [e]
  show some ((σ.set v none).set v (some d)) = _
  rw [List.set_set]
end
theorem toP_list {S : Sto} {a : Nat} {xs : List D} (h : S[a]? = some (.lst xs)) (hp : xs.all (plD 31) = true) : toP S 32 (.loc a) = some (.list (xs.map (toQ 31))) := by
  simp only [toP, h, toP_all (fun x hx => toP_pl 31 x hx) xs hp, Option.map_some]
theorem shaped_list {xs : List D} (p1 : xs.all (plD 31) = true) : SeqAt.shaped (.list (xs.map (toQ 31))) = true := by
  unfold SeqAt.shaped
  have h1 := lay_all (fun x hx => lay_pl 31 x hx) xs p1
  have h2 := dep_all (fun x => dep_pl 31 x) xs
  simp only [PyData.canLay0, h1, Bool.true_and, PyData.depth]
  exact decide_eq_true (by omega)
/-- equality of lists of plain data -/
theorem eq_lls {S : Sto} {a b : Nat} {xs ys : List D} (h1 : S[a]? = some (.lst xs)) (h2 : S[b]? = some (.lst ys)) (p1 : xs.all (plD 31) = true) (p2 : ys.all (plD 31) = true) : ∃ t, eqSem (.loc a) (.loc b) S = some t ∧ (t = true ↔ xs = ys) := by
  refine ⟨PyData.eqv (.list (xs.map (toQ 31))) (.list (ys.map (toQ 31))), ?_, ?_⟩
  · simp only [eqSem, toP_list h1 p1, toP_list h2 p2, shaped_list p1, shaped_list p2, and_self, if_true]
  · simp only [PyData.eqv]
    exact eqv_all (fun x y hx hy => eqv_pl 31 x y hx hy) xs ys p1 p2
theorem pl_ints : ∀ (l : List Int), (l.map D.int).all (plD 31) = true
  | [] => rfl
  | i :: l => by simp only [List.map_cons, List.all_cons, pl_ints l, Bool.and_true]; rfl
/-- a list of ints is not empty -/
theorem ne_nil {S : Sto} {a b : Nat} {l : List Int} (h1 : S[a]? = some (.lst (l.map D.int))) (h2 : S[b]? = some (.lst [])) : cmpSem .NotEq (.loc a) (.loc b) S = some (!l.isEmpty) := by
  obtain ⟨t, e, i⟩ := eq_lls h1 h2 (pl_ints l) rfl
  simp only [cmpSem, e, Option.map_some]
  cases l with
  | nil => rw [i.mpr rfl]; rfl
  | cons x l => cases t with
    | false => rfl
    | true => have := i.mp rfl; simp at this
theorem NE_of {x y : D} {S : Sto} {t : Bool} (h : eqSem x y S = some t) : cmpSem .NotEq x y S = some (!t) := by simp only [cmpSem, h, Option.map_some]
theorem eq_self {x : D} {S : Sto} (h : plD 32 x = true) : eqSem x x S = some true := by
  obtain ⟨t, e, i⟩ := eq_pl (S := S) h h
  rw [e, i.mpr rfl]
theorem ne_self {x : D} {S : Sto} (h : plD 32 x = true) : cmpSem .NotEq x x S = some false := NE_of (eq_self h)
section
variable {P : Pg} {C : Nat → List D → Sto → Out D} {σ : Sl} {S : Sto} {a c e : Ex} {x y z : D} {p q : Bool}
theorem T_chn {o o' : CmpOp} (ha : V P C a σ S x) (hc : V P C c σ S y) (h : cmpSem o x y S = some p) (he : p = true → V P C e σ S z) (h' : cmpSem o' y z S = some q) : T P C (.chn o o' a c e) σ S (p && q) :=
  w_chn (V_use ha (V_use hc ⟨_, h, fun hp => by subst hp; exact V_use (he rfl) ⟨_, h', rfl, rfl⟩, fun hp => by subst hp; exact ⟨rfl, rfl⟩⟩))
end
theorem walk_lst {S : Sto} {a : Nat} {xs : List D} (h : S[a]? = some (.lst xs)) : walkOf (.loc a) S = some (.li a) := by simp only [walkOf, h]
/-- a comprehension without tests, whose item may change what stands -/
theorem lc_eff {P : Pg} {C : Nat → List D → Sto → Out D} {σ : Sl} {S : Sto} {α : Type} {xs : List α} (rd : α → D) (I : Nat → List D → Sto → Prop) {own : List (Str × Nat)} {tg : Tg} {it : Ir} {elt : Ex} {Q : D → Sto → Prop}
    (hit : W (deI P C it σ S) fun w S1 => (∀ i acc S', I i acc S' → S'[S1.length]? = some (Cell.lst acc) → wgo w i S' = some (xs.map rd)[i]?) ∧ wlen w S1 = xs.length ∧ xs.length ≤ 1000000 ∧ I 0 [] (S1 ++ [Cell.lst []]) ∧
      (∀ i (h : i < xs.length) acc S', acc.length = i → I i acc S' → S'[S1.length]? = some (Cell.lst acc) → ∃ σ', setTg tg (rd xs[i]) (wipeD σ (own.map (·.2))) = some σ' ∧ W (de P C elt false σ' S') fun v S2 => S2[S1.length]? = some (Cell.lst acc) ∧ I (i + 1) (acc ++ [v]) (S2.set S1.length (Cell.lst (acc ++ [v])))) ∧
      (∀ acc S', acc.length = xs.length → I xs.length acc S' → S'[S1.length]? = some (Cell.lst acc) → Q (.loc S1.length) S')) : W (de P C (.lc own tg it .nil elt) false σ S) Q := by
  refine w_lc (W_mono hit fun w S1 ⟨hw1, hw2, hw3, h0, hs, hq⟩ => ?_)
  rw [hw2]
  refine W_lcLoop (J := fun i S' => i ≤ xs.length ∧ ∃ acc, acc.length = i ∧ I i acc S' ∧ S'[S1.length]? = some (Cell.lst acc)) (k0 := xs.length) ?_ ?_ ?_ xs.length 0 _ (by omega) ⟨by omega, [], rfl, h0, get_push⟩
  · rintro S' ⟨_, acc, h1, h2, h3⟩
    rw [hw1 _ _ _ h2 h3]
    simp
  · rintro i S' hi ⟨_, acc, h1, h2, h3⟩
    obtain ⟨σ', e1, e2⟩ := hs i hi acc S' h1 h2 h3
    refine ⟨rd xs[i], σ', ?_, e1, w_T0 ?_⟩
    · rw [hw1 _ _ _ h2 h3, List.getElem?_map, List.getElem?_eq_getElem hi]
      rfl
    · rw [if_pos rfl]
      refine W_mono e2 fun v S2 ⟨k1, k2⟩ => ⟨acc, k1, ?_, by omega, _, ?_, k2, get_set (lt_of k1)⟩
      · exact Nat.lt_of_lt_of_le (m := 1000001) (by omega) (by decide)
      · rw [List.length_append, h1]; rfl
  · rintro S' ⟨_, acc, h1, h2, h3⟩
    exact hq acc S' h1 h2 h3
theorem w_mulL {a : Nat} {k : Int} {xs : List D} {S : Sto} {Q : D → Sto → Prop} (h : S[a]? = some (.lst xs)) (h1 : -(2 ^ 63) ≤ k ∧ k < 2 ^ 63 ∧ xs.length * k.toNat ≤ sizeLine) (hk : Q (.loc S.length) (S ++ [.lst (List.replicate k.toNat xs).flatten])) : W (.of (opSem .Mult (.loc a) (.int k) S)) Q := by
  unfold opSem
  simp only [h, h1, and_self, if_true]
  exact hk
end DI

set_option Elab.async false
set_option linter.all false
set_option maxRecDepth 100000
set_option maxHeartbeats 4000000
/-! Plain values by their types; expressions that change nothing. -/
namespace DI
open L2 PySem PySem.Spec PyProof.Rows
/-- data that an equality takes -/
def Sh (S : Sto) (d : D) : Prop := ∃ p, toP S 32 d = some p ∧ SeqAt.shaped p = true
/-- a value of a type that can be told -/
inductive VOk (S : Sto) : D → Prop
  | non : VOk S .non
  | bl (b : Bool) : VOk S (.bl b)
  | int (i : Int) : VOk S (.int i)
  | str {x : Str} : PyData.canLay0 (.str x) = true → VOk S (.str x)
  | tup {xs : List D} : (∀ x ∈ xs, VOk S x) → (∀ x ∈ xs, Sh S x) → VOk S (.tup xs)
  | lst {a : Nat} {xs : List D} : S[a]? = some (.lst xs) → VOk S (.loc a)
  | dk {a : Nat} {kvs : List (Key × D)} : S[a]? = some (.dk kvs) → VOk S (.loc a)
  | fk {a : Nat} {kvs : List (Key × D)} : S[a]? = some (.fk kvs) → VOk S (.loc a)
/-- .. of which no more is asked -/
inductive TOk (S : Sto) : D → Prop
  | non : TOk S .non
  | bl (b : Bool) : TOk S (.bl b)
  | int (i : Int) : TOk S (.int i)
  | str (x : Str) : TOk S (.str x)
  | tup (xs : List D) : TOk S (.tup xs)
  | lst {a : Nat} {xs : List D} : S[a]? = some (.lst xs) → TOk S (.loc a)
  | dk {a : Nat} {kvs : List (Key × D)} : S[a]? = some (.dk kvs) → TOk S (.loc a)
  | fk {a : Nat} {kvs : List (Key × D)} : S[a]? = some (.fk kvs) → TOk S (.loc a)
theorem VOk.t {S : Sto} {d : D} (h : VOk S d) : TOk S d := by
  cases h with
  | non => exact .non
  | bl b => exact .bl b
  | int i => exact .int i
  | str h => exact .str _
  | tup _ _ => exact .tup _
  | lst h => exact .lst h
  | dk h => exact .dk h
  | fk h => exact .fk h
theorem TOk.mono {S S' : Sto} (hs : ∀ (a : Nat) (c : Cell), S[a]? = some c → S'[a]? = some c) {d : D} (h : TOk S d) : TOk S' d := by
  cases h with
  | non => exact .non
  | bl b => exact .bl b
  | int i => exact .int i
  | str x => exact .str x
  | tup xs => exact .tup xs
  | lst h => exact .lst (hs _ _ h)
  | dk h => exact .dk (hs _ _ h)
  | fk h => exact .fk (hs _ _ h)
def ti : D → Bool | .int _ => true | .bl _ => true | _ => false
def tb : D → Bool | .bl _ => true | _ => false
def ts : D → Bool | .str _ => true | _ => false
def tt : D → Bool | .tup _ => true | _ => false
def td (S : Sto) : D → Bool
  | .loc a => match S[a]? with | some c => isDk c | none => false
  | _ => false
section
variable {P : Pg} {C : Nat → List D → Sto → Out D} {σ : Sl} {S : Sto} {a c : Ex} {d x y z : D} {p q : Bool}
theorem V_and (ha : V P C a σ S (.bl p)) (hc : p = true → V P C c σ S (.bl q)) : V P C (.and_ a c) σ S (.bl (p && q)) := w_and (V_use ha ⟨p, rfl, fun h => by subst h; exact hc rfl, fun h => by subst h; exact ⟨rfl, rfl⟩⟩)
theorem V_or (ha : V P C a σ S (.bl p)) (hc : p = false → V P C c σ S (.bl q)) : V P C (.or_ a c) σ S (.bl (p || q)) := w_or (V_use ha ⟨p, rfl, fun h => by subst h; exact ⟨rfl, rfl⟩, fun h => by subst h; exact hc rfl⟩)
theorem V_not (ha : V P C a σ S (.bl p)) : V P C (.not_ a) σ S (.bl (!p)) := w_not (V_use ha ⟨p, rfl, rfl, rfl⟩)
theorem V_glo {g : Str} (h : P.glo g = some d) : V P C (.glo g) σ S d := w_glo h ⟨rfl, rfl⟩
theorem V_cal {j : Nat} (ha : V P C a σ S x) (h : W (C j [x] S) fun r S' => S' = S ∧ r = z) : V P C (.cal j (.cons a .nil)) σ S z := w_cal (w_cons (V_use ha (w_nil h)))
theorem V_chn {o o' : CmpOp} {e : Ex} (ha : V P C a σ S x) (hc : V P C c σ S y) (h : cmpSem o x y S = some p) (he : p = true → V P C e σ S z) (h' : cmpSem o' y z S = some q) : V P C (.chn o o' a c e) σ S (.bl (p && q)) :=
  w_chn (V_use ha (V_use hc ⟨p, h, fun hp => by subst hp; exact V_use (he rfl) ⟨q, h', rfl, rfl⟩, fun hp => by subst hp; exact ⟨rfl, rfl⟩⟩))
theorem V_cast (h : V P C a σ S x) (e : x = y) : V P C a σ S y := e ▸ h
theorem T_bl (h : isFin a = true) (ha : V P C a σ S (.bl p)) : T P C a σ S p := T_tru h ha rfl
theorem isi_ok {n t : String} (h1 : tyName x S = some t) (h2 : kitB t n = some p) : biSem .isi [x, .ty n] S = some (.bl p, S) := by
  show ((tyName x S).bind fun t => (kitB t n).map fun b => ((.bl b, S) : D × Sto)) = _
  rw [h1]
  show (kitB t n).map _ = _
  rw [h2] <;> rfl
theorem ty_lst {i : Nat} {xs : List D} (h : S[i]? = some (.lst xs)) : tyName (.loc i) S = some "list" := by simp only [tyName, h]
theorem ty_dk {i : Nat} {xs : List (Key × D)} (h : S[i]? = some (.dk xs)) : tyName (.loc i) S = some "dict" := by simp only [tyName, h]
theorem ty_fk {i : Nat} {xs : List (Key × D)} (h : S[i]? = some (.fk xs)) : tyName (.loc i) S = some "dict" := by simp only [tyName, h]
theorem v_ti (hv : TOk S d) (ha : V P C a σ S d) : V P C (.bi .isi (.cons a (.cons (.bty "int") .nil))) σ S (.bl (ti d)) := by
  refine V_bi2 ha V_bty ?_
  cases hv with
  | lst h => exact isi_ok (ty_lst h) rfl
  | dk h => exact isi_ok (ty_dk h) rfl
  | fk h => exact isi_ok (ty_fk h) rfl
  | _ => rfl
theorem v_tb (hv : TOk S d) (ha : V P C a σ S d) : V P C (.bi .isi (.cons a (.cons (.bty "bool") .nil))) σ S (.bl (tb d)) := by
  refine V_bi2 ha V_bty ?_
  cases hv with
  | lst h => exact isi_ok (ty_lst h) rfl
  | dk h => exact isi_ok (ty_dk h) rfl
  | fk h => exact isi_ok (ty_fk h) rfl
  | _ => rfl
theorem v_ts (hv : TOk S d) (ha : V P C a σ S d) : V P C (.bi .isi (.cons a (.cons (.bty "str") .nil))) σ S (.bl (ts d)) := by
  refine V_bi2 ha V_bty ?_
  cases hv with
  | lst h => exact isi_ok (ty_lst h) rfl
  | dk h => exact isi_ok (ty_dk h) rfl
  | fk h => exact isi_ok (ty_fk h) rfl
  | _ => rfl
theorem v_tt (hv : TOk S d) (ha : V P C a σ S d) : V P C (.bi .isi (.cons a (.cons (.bty "tuple") .nil))) σ S (.bl (tt d)) := by
  refine V_bi2 ha V_bty ?_
  cases hv with
  | lst h => exact isi_ok (ty_lst h) rfl
  | dk h => exact isi_ok (ty_dk h) rfl
  | fk h => exact isi_ok (ty_fk h) rfl
  | _ => rfl
theorem v_td (hv : TOk S d) (ha : V P C a σ S d) : V P C (.bi .isi (.cons a (.cons (.bty "dict") .nil))) σ S (.bl (td S d)) := by
  refine V_bi2 ha V_bty ?_
  cases hv with
  | lst h => rw [show td S (.loc _) = false by simp only [td, h, isDk]]; exact isi_ok (ty_lst h) rfl
  | dk h => rw [show td S (.loc _) = true by simp only [td, h, isDk]]; exact isi_ok (ty_dk h) rfl
  | fk h => rw [show td S (.loc _) = true by simp only [td, h, isDk]]; exact isi_ok (ty_fk h) rfl
  | _ => rfl
/-- is: with None -/
def isN : D → Bool | .non => true | _ => false
theorem v_is (ha : V P C a σ S d) : V P C (.cmp .Is a (.cst .non)) σ S (.bl (isN d)) := V_cmp ha V_non (by cases d <;> rfl)
theorem v_isnt (ha : V P C a σ S d) : V P C (.cmp .IsNot a (.cst .non)) σ S (.bl (!isN d)) := V_cmp ha V_non (by cases d <;> rfl)
/-- == of anything with a text -/
def isS (s : Str) : D → Bool | .str x => x == s | _ => false
theorem shp {x : Str} (h : PyData.canLay0 (.str x) = true) : SeqAt.shaped (.str x) = true := by
  unfold SeqAt.shaped
  rw [h] <;> rfl
theorem eq_str {s : Str} (hs : PyData.canLay0 (.str s) = true) (h : Sh S d) : eqSem d (.str s) S = some (isS s d) := by
  obtain ⟨p, h1, h2⟩ := h
  have e2 : toP S 32 (.str s) = some (.str s) := rfl
  unfold eqSem
  rw [h1, e2]
  dsimp only
  rw [if_pos ⟨h2, shp hs⟩]
  congr 1
  cases d with
  | str x =>
    have : toP S 32 (.str x) = some (.str x) := rfl
    rw [this] at h1; cases h1
    simp only [PyData.eqv, isS]
  | non => cases h1; rfl
  | bl b => cases h1; rfl
  | int i => cases h1; rfl
  | tup xs =>
    simp only [toP, Option.map_eq_some_iff] at h1
    obtain ⟨ps, _, rfl⟩ := h1
    rfl
  | rl xs =>
    simp only [toP, Option.map_eq_some_iff] at h1
    obtain ⟨ps, _, rfl⟩ := h1
    rfl
  | loc i =>
    simp only [toP] at h1
    split at h1
    · simp only [Option.map_eq_some_iff] at h1
      obtain ⟨ps, _, rfl⟩ := h1
      rfl
    · cases h1
  | _ => simp [toP] at h1
theorem sh_str {x : Str} (h : PyData.canLay0 (.str x) = true) : Sh S (.str x) := ⟨.str x, rfl, shp h⟩
theorem sh_int {x : Int} : Sh S (.int x) := ⟨.int x, rfl, rfl⟩
theorem sh_bl {x : Bool} : Sh S (.bl x) := ⟨.bool x, rfl, rfl⟩
theorem sh_non : Sh S .non := ⟨.none, rfl, rfl⟩
theorem cmp_str {s : Str} : cmpSem .Eq d (.str s) S = eqSem d (.str s) S := by cases d <;> rfl
theorem v_eqS {s : Str} (h : Sh S d) (ha : V P C a σ S d) (hs : PyData.canLay0 (.str s) = true := by decide +kernel) : V P C (.cmp .Eq a (.cst (.str s))) σ S (.bl (isS s d)) := V_cmp ha V_str (cmp_str.trans (eq_str hs h))
/-- len of a tuple, == a number -/
theorem v_lenT {xs : List D} {n : Int} (ha : V P C a σ S (.tup xs)) : V P C (.cmp .Eq (.bi .len (.cons a .nil)) (.cst (.int n))) σ S (.bl ((xs.length : Int) == n)) := V_cmp (V_bi1 (z := .int xs.length) ha rfl) V_int (eqD_int (S := S))
theorem v_ixT {xs : List D} {n : Int} (ha : V P C a σ S (.tup xs)) (h : atI xs n = some d) : V P C (.ix a (.cst (.int n))) σ S d := V_ix ha V_int h
theorem v_geI {i n : Int} (ha : V P C a σ S (.int i)) : V P C (.cmp .GtE a (.cst (.int n))) σ S (.bl (decide (n ≤ i))) := V_cmp ha V_int rfl
end
/-! what stays when the store grows -/
theorem toPs_mono {S S' : Sto} {n : Nat} (ih : ∀ d p, toP S n d = some p → toP S' n d = some p) : ∀ (xs : List D) (ps : List PyData), xs.mapM (toP S n) = some ps → xs.mapM (toP S' n) = some ps
  | [], ps, h => h
  | x :: xs, ps, h => by
    rw [List.mapM_cons] at h ⊢
    cases h1 : toP S n x with
    | none => rw [h1] at h; cases h
    | some q =>
      rw [h1] at h
      rw [ih _ _ h1]
      cases h2 : xs.mapM (toP S n) with
      | none => rw [h2] at h; cases h
      | some qs =>
        rw [h2] at h
        rw [toPs_mono ih xs qs h2]
        exact h
theorem toP_monoL {S S' : Sto} (hs : ∀ (a : Nat) (c : List D), S[a]? = some (.lst c) → S'[a]? = some (.lst c)) : ∀ n d p, toP S n d = some p → toP S' n d = some p := by
  intro n
  induction n with
  | zero => intro d p h; simp [toP] at h
  | succ n ih =>
    intro d p h
    cases d with
    | tup xs =>
      simp only [toP, Option.map_eq_some_iff] at h ⊢
      obtain ⟨ps, h1, h2⟩ := h
      exact ⟨ps, toPs_mono ih xs ps h1, h2⟩
    | rl xs =>
      simp only [toP, Option.map_eq_some_iff] at h ⊢
      obtain ⟨ps, h1, h2⟩ := h
      exact ⟨ps, toPs_mono ih xs ps h1, h2⟩
    | loc a =>
      simp only [toP] at h ⊢
      split at h
      · rename_i xs hx
        rw [hs _ _ hx]
        simp only [Option.map_eq_some_iff] at h ⊢
        obtain ⟨ps, h1, h2⟩ := h
        exact ⟨ps, toPs_mono ih xs ps h1, h2⟩
      · cases h
    | _ => exact h
theorem toP_mono {S S' : Sto} (hs : ∀ (a : Nat) (c : Cell), S[a]? = some c → S'[a]? = some c) : ∀ n d p, toP S n d = some p → toP S' n d = some p := toP_monoL fun a c => hs a _
theorem Sh.mono {S S' : Sto} {d : D} (h : Sh S d) (hs : ∀ (a : Nat) (c : Cell), S[a]? = some c → S'[a]? = some c) : Sh S' d := let ⟨p, h1, h2⟩ := h; ⟨p, toP_mono hs _ _ _ h1, h2⟩
theorem VOk.mono {S S' : Sto} (hs : ∀ (a : Nat) (c : Cell), S[a]? = some c → S'[a]? = some c) : ∀ {d : D}, VOk S d → VOk S' d
  | _, .non => .non
  | _, .bl b => .bl b
  | _, .int i => .int i
  | _, .str h => .str h
  | _, .tup h1 h2 => .tup (fun x hx => VOk.mono hs (h1 x hx)) fun x hx => (h2 x hx).mono hs
  | _, .lst h => .lst (hs _ _ h)
  | _, .dk h => .dk (hs _ _ h)
  | _, .fk h => .fk (hs _ _ h)
/-- a dict is locked: values stay values -/
theorem VOk.lock {S : Sto} {a : Nat} {kvs : List (Key × D)} (h : S[a]? = some (.dk kvs)) : ∀ {d : D}, VOk S d → VOk (S.set a (.fk kvs)) d
  | _, .non => .non
  | _, .bl b => .bl b
  | _, .int i => .int i
  | _, .str h => .str h
  | _, .tup h1 h2 => .tup (fun x hx => VOk.lock h (h1 x hx)) fun x hx => let ⟨p, e1, e2⟩ := h2 x hx; ⟨p, toP_monoL (fun b c hb => by
      rw [List.getElem?_set_ne (fun e => by rw [e, hb] at h; cases h)]; exact hb) _ _ _ e1, e2⟩
  | _, .lst (a := b) hb => .lst (a := b) (by rw [List.getElem?_set_ne (fun e => by rw [e, hb] at h; cases h)]; exact hb)
  | _, .dk (a := b) (kvs := ks) hb => by
    by_cases e : a = b
    · subst e
      exact .fk (a := a) (get_set (lt_of h))
    · exact .dk (a := b) (by rw [List.getElem?_set_ne e]; exact hb)
  | _, .fk (a := b) hb => .fk (a := b) (by rw [List.getElem?_set_ne (fun e => by rw [e, hb] at h; cases h)]; exact hb)
theorem Fr.lock {S S1 : Sto} {a : Nat} {kvs : List (Key × D)} (h : S[a]? = some (.dk kvs)) (f : Fr [] (S.set a (.fk kvs)) S1) : Fr [] S (S1.set a (.dk kvs)) := by
  have hl := lt_of h
  refine ⟨by have := f.1; simp only [List.length_set] at this ⊢; exact this, fun k hk _ => ?_⟩
  by_cases e : a = k
  · subst e
    rw [get_set (Nat.lt_of_lt_of_le hl (by have := f.1; simpa using this)), h]
  · rw [List.getElem?_set_ne e, f.2 k (by simpa using hk) (by simp), List.getElem?_set_ne e]
theorem Fr.all {S S' : Sto} (f : Fr [] S S') : ∀ (a : Nat) (c : Cell), S[a]? = some c → S'[a]? = some c := fun a c h => f.get h (by simp)
theorem push_all' {S : Sto} {c : Cell} : ∀ (a : Nat) (c' : Cell), S[a]? = some c' → (S ++ [c])[a]? = some c' := fun a c' h => get_pushl h
theorem blsD_map : ∀ l : List Bool, blsD (l.map D.bl) = some l
  | [] => rfl
  | b :: r => by show (blsD (r.map D.bl)).map (b :: ·) = _; rw [blsD_map r]; rfl
theorem bi_all {S : Sto} {a : Nat} {l : List Bool} (h : S[a]? = some (.lst (l.map D.bl))) : biSem .all_ [.loc a] S = some (.bl (l.all id), S) := by
  simp only [biSem, listD, h, Option.bind_some, blsD_map, Option.map_some]
section
variable {P : Pg} {C : Nat → List D → Sto → Out D} {σ : Sl} {S : Sto} {Q : D → Sto → Prop}
theorem w_dct0 (k : Q (.loc S.length) (S ++ [.dk []])) : W (de P C (.dct0 false) false σ S) Q := by
  simp only [de, fin_f]; exact k
theorem tru_l {a : Nat} {xs : List D} (h : S[a]? = some (.lst xs)) : truSem (.loc a) S = some (!xs.isEmpty) := by simp only [truSem, h]
theorem bm_pop {a : Nat} {xs : List D} {d : D} (h : S[a]? = some (.lst (xs ++ [d]))) : bmSem .pop (.loc a) [] S = some (d, S.set a (.lst xs)) := by
  simp only [bmSem, h]
  rw [show (xs ++ [d]).length - 1 = xs.length by simp, List.getElem?_append_right (Nat.le_refl _)]
  simp
theorem bm_ext {a c : Nat} {xs ys : List D} (h1 : S[a]? = some (.lst xs)) (h2 : S[c]? = some (.lst ys)) (h : xs.length + ys.length ≤ sizeLine) : bmSem .extend (.loc a) [.loc c] S = some (.non, S.set a (.lst (xs ++ ys))) := by
  simp only [bmSem, h1, h2, h, if_true]
def ixs (ks : List D) : List (Nat × D) := ks.mapIdx fun i d => (i, d)
theorem IsW.en {ks : List D} (hl : ks.length ≤ 1000000) : IsW (.en (.vs ks)) S ((ixs ks).map fun q => D.tup [.int (q.1 : Nat), q.2]) := by
  refine ⟨fun i acc => ?_, ?_, ?_⟩
  · show (some ks[i]?).map _ = _
    unfold ixs
    rw [List.getElem?_map, List.getElem?_mapIdx]
    cases ks[i]? <;> rfl
  · show ks.length = _
    unfold ixs
    rw [List.length_map, List.length_mapIdx]
  · unfold ixs
    rw [List.length_map, List.length_mapIdx]; exact hl
end
/-! dicts written with constants -/
def litD (l : List (Str × Lit)) : List (Key × D) := l.map fun q => (.inr q.1, q.2.d)
def litEs : List (Str × Lit) → Exs
  | [] => .nil
  | q :: r => .cons (.cst q.2) (litEs r)
def dictE (l : List (Str × Lit)) : Ex := match l with | [] => .dct0 false | _ => .dctK (l.map (·.1)) (litEs l)
def dictEs : List (List (Str × Lit)) → Exs
  | [] => .nil
  | l :: r => .cons (dictE l) (dictEs r)
def layL : Lit → Bool | .str x => PyData.canLay0 (.str x) | _ => true
def okL (l : List (Str × Lit)) : Bool := l.all (fun q => PyData.canLay0 (.str q.1) && layL q.2) && decide (l.map (·.1)).Nodup && decide (l.length ≤ 15)
theorem look_nd : ∀ {l : List (Str × Lit)}, (l.map (·.1)).Nodup → ∀ kv ∈ litD l, lookK (litD l) kv.1 = some kv.2
  | [], _, kv, h => by cases h
  | q :: r, hn, kv, h => by
    rw [List.map_cons, List.nodup_cons] at hn
    show lookK ((.inr q.1, q.2.d) :: litD r) kv.1 = _
    unfold lookK
    rw [List.find?_cons]
    rcases List.mem_cons.mp h with rfl | h
    · rw [decide_eq_true rfl] <;> rfl
    · have : (Sum.inr q.1 : Key) ≠ kv.1 := by
        intro e
        obtain ⟨q', h', e'⟩ := List.mem_map.mp h
        rw [← e'] at e
        exact hn.1 (List.mem_map.mpr ⟨q', h', (Sum.inr.inj e).symm⟩)
      rw [decide_eq_false this]
      exact look_nd hn.2 kv h
theorem any_lit {l : List (Str × Lit)} {k : Str} (h : k ∉ l.map (·.1)) : ((litD l).any fun kv => decide (kv.1 = (Sum.inr k : Key))) = false := by
  rw [Bool.eq_false_iff]
  intro hb
  obtain ⟨kv, h1, h2⟩ := List.any_eq_true.mp hb
  obtain ⟨q, h3, rfl⟩ := List.mem_map.mp h1
  exact h (List.mem_map.mpr ⟨q, h3, Sum.inr.inj (of_decide_eq_true h2)⟩)
theorem merge_lit : ∀ (l acc : List (Str × Lit)), ((acc ++ l).map (·.1)).Nodup → mergeD (litD acc) ((l.map fun q => (Sum.inr q.1 : Key)).zip (l.map fun q => q.2.d)) = litD (acc ++ l)
  | [], acc, _ => by simp [mergeD]
  | q :: r, acc, h => by
    show mergeD (putD (litD acc) (.inr q.1) q.2.d) _ = _
    have hq : q.1 ∉ acc.map (·.1) := by
      rw [List.map_append, List.map_cons, List.nodup_append] at h
      exact fun z => h.2.2 _ z _ List.mem_cons_self rfl
    unfold putD
    rw [any_lit hq, if_neg (by decide)]
    have e : litD acc ++ [((.inr q.1 : Key), q.2.d)] = litD (acc ++ [q]) := by unfold litD; rw [List.map_append]; rfl
    rw [e]
    have := merge_lit r (acc ++ [q]) (by rw [List.append_assoc]; exact h)
    rw [List.append_assoc] at this
    exact this
section
variable {P : Pg} {C : Nat → List D → Sto → Out D} {σ : Sl} {S : Sto}
theorem w_lits : ∀ {l : List (Str × Lit)} {Q : List D → Sto → Prop}, Q (l.map fun q => q.2.d) S → W (des P C (litEs l) σ S) Q
  | [], Q, h => w_nil h
  | q :: r, Q, h => w_cons (by
    show W (de P C (.cst q.2) false σ S) _
    simp only [de, fin_f]
    exact w_lits (l := r) (Q := fun ds S => Q (q.2.d :: ds) S) h)
theorem w_dictE {l : List (Str × Lit)} {Q : D → Sto → Prop} (h : okL l = true) (k : Q (.loc S.length) (S ++ [.dk (litD l)])) : W (de P C (dictE l) false σ S) Q := by
  unfold okL at h
  simp only [Bool.and_eq_true, decide_eq_true_eq] at h
  cases l with
  | nil => exact w_dct0 k
  | cons q r =>
    show W (de P C (.dctK ((q :: r).map (·.1)) (litEs (q :: r))) false σ S) Q
    refine w_dctK (w_lits ⟨get_push, ⟨by simp, by simpa using h.2⟩, ?_⟩)
    have e := merge_lit (q :: r) [] h.1.2
    rw [List.map_map]
    rw [show (mergeD [] (((q :: r).map (Sum.inr ∘ fun x => x.1)).zip ((q :: r).map fun q => q.2.d))) = litD (q :: r) from e]
    rw [show (S ++ [Cell.dk []]).set S.length (Cell.dk (litD (q :: r))) = S ++ [Cell.dk (litD (q :: r))] by simp]
    exact k
theorem w_dicts : ∀ {ls : List (List (Str × Lit))} {S : Sto} {Q : List D → Sto → Prop}, ls.all okL = true → Q ((List.range ls.length).map fun i => D.loc (S.length + i)) (S ++ ls.map fun l => Cell.dk (litD l)) → W (des P C (dictEs ls) σ S) Q
  | [], S, Q, _, k => w_nil (by simpa using k)
  | l :: r, S, Q, h, k => by
    rw [List.all_cons, Bool.and_eq_true] at h
    refine w_cons (w_dictE h.1 (w_dicts (ls := r) (Q := fun ds S' => Q (.loc S.length :: ds) S') h.2 ?_))
    rw [List.length_cons, List.range_succ_eq_map, List.map_cons, List.map_map] at k
    rw [List.length_append, List.length_singleton, List.append_assoc]
    have e : (fun i => D.loc (S.length + 1 + i)) = ((fun i => D.loc (S.length + i)) ∘ Nat.succ) := by funext i; show D.loc _ = D.loc _; congr 1; omega
    rw [e]
    exact k
end
theorem pick_of {ls : List (List (Str × Lit))} {S S' : Sto} {x : D} (hx : x ∈ (List.range ls.length).map fun i => D.loc (S.length + i)) (hs : ∀ (a : Nat) (kvs : List (Key × D)), (S ++ ls.map fun l => Cell.dk (litD l))[a]? = some (.dk kvs) → S'[a]? = some (.dk kvs)) :
    ∃ a l, l ∈ ls ∧ x = .loc a ∧ S'[a]? = some (.dk (litD l)) := by
  obtain ⟨i, hi, rfl⟩ := List.mem_map.mp hx
  have hi' := List.mem_range.mp hi
  refine ⟨_, ls[i], List.getElem_mem hi', rfl, hs _ _ ?_⟩
  rw [List.getElem?_append_right (by omega), Nat.add_sub_cancel_left, List.getElem?_map, List.getElem?_eq_getElem hi']
  rfl
theorem VOk.lit {S : Sto} {l : Lit} (h : layL l = true) : VOk S l.d := by
  cases l with
  | non => exact .non
  | bl b => exact .bl b
  | int i => exact .int i
  | str x => exact .str h
end DI

set_option Elab.async false
set_option linter.all false
set_option maxRecDepth 100000
set_option maxHeartbeats 4000000
namespace K29
open L2 DI PySem PySem.Spec PyProof.Rows
def dep : Nat := 60
/-- a drawer's list -/
def StL (l : List D) : Prop := (∃ n : Int, l = [.int n]) ∨ ∃ a b c : Int, l = [.int a, .int b, .int c]
def St (S : Sto) (i : Nat) : Prop := ∃ l, S[i]? = some (.lst l) ∧ StL l
theorem St.fr {S S' : Sto} {i : Nat} {B : List Nat} (h : St S i) (f : DI.Fr B S S') (hi : i ∉ B) : St S' i := by
  obtain ⟨l, h1, h2⟩ := h
  exact ⟨l, f.get h1 hi, h2⟩
theorem St.lt {S : Sto} {i : Nat} (h : St S i) : i < S.length := by
  obtain ⟨l, h1, h2⟩ := h
  exact lt_of h1
theorem digit_b {d i : Nat} {S : Sto} {a b c base : Int} (h : S[i]? = some (.lst [.int a, .int b, .int c])) (h0 : 0 < base) (h1 : base < 1073741824) (Q : Po)
    (hQ : ∀ x a' b' c' : Int, 0 ≤ x → x < base → Q.rt (.int x) (S.set i (.lst [.int a', .int b', .int c']))) :
    WS (dSs P0 (calls P0 fs d) t_law_digit_4 [some (.loc i), some (.int base), none, none] S) Q := by
  have hl := lt_of h
  unfold t_law_digit_4
  (repeat (first | ((with_reducible refine w_var ?_); refine ⟨_, rfl, ?_⟩) | with_reducible refine z_set ?_ | with_reducible refine z_setT ?_ | with_reducible refine z_par ?_ | with_reducible refine z_fld ?_ | with_reducible refine z_sub ?_ | with_reducible refine z_exp ?_ | with_reducible refine z_ret ?_ | with_reducible refine z_retN ?_ | with_reducible refine z_ite ?_ | with_reducible refine z_whl ?_ | with_reducible refine z_for ?_ | with_reducible refine z_pass ?_ | with_reducible refine z_brk ?_ | with_reducible refine z_cnt ?_ | with_reducible refine z_nil ?_ | with_reducible refine z_par3 ?_ | with_reducible refine z_sub2 ?_ | with_reducible refine z_sub3 ?_ | with_reducible refine z_raiF ?_ | with_reducible refine z_rai ?_ | with_reducible refine z_try1 ?_ | with_reducible refine w_bin ?_ | with_reducible refine w_int ?_ | with_reducible refine w_str ?_ | with_reducible refine w_blc ?_ | with_reducible refine w_non ?_ | with_reducible refine w_bty ?_ | with_reducible refine w_neg ?_ | with_reducible refine w_cmp ?_ | with_reducible refine w_chn ?_ | with_reducible refine w_and ?_ | with_reducible refine w_or ?_ | with_reducible refine w_not ?_ | with_reducible refine w_ite ?_ | with_reducible refine w_fld ?_ | with_reducible refine w_ix ?_ | with_reducible refine w_sl ?_ | with_reducible refine w_no ?_ | with_reducible refine w_so ?_ | with_reducible refine w_nil ?_ | with_reducible refine w_cons ?_ | with_reducible refine w_tup ?_ | with_reducible refine w_lst ?_ | with_reducible refine w_cal ?_ | with_reducible refine w_mk ?_ | with_reducible refine w_mth ?_ | with_reducible refine w_bi ?_ | with_reducible refine w_bm ?_ | with_reducible refine w_lc ?_ | with_reducible refine w_iex ?_ | with_reducible refine w_rng1 ?_ | with_reducible refine w_rng2 ?_ | with_reducible refine w_enum ?_ | with_reducible refine w_T0 ?_ | with_reducible refine w_T1 ?_ | with_reducible refine w_add ?_ | with_reducible refine w_sub ?_ | with_reducible refine w_dctK ?_ | with_reducible refine w_dget1 ?_ | with_reducible refine w_dget2 ?_ | with_reducible refine w_rev ?_ | ((with_reducible refine w_tru ?_ ?_); exact rfl)))
  refine ix_loc h (by rfl) ?_
  (repeat (first | ((with_reducible refine w_var ?_); refine ⟨_, rfl, ?_⟩) | with_reducible refine z_set ?_ | with_reducible refine z_setT ?_ | with_reducible refine z_par ?_ | with_reducible refine z_fld ?_ | with_reducible refine z_sub ?_ | with_reducible refine z_exp ?_ | with_reducible refine z_ret ?_ | with_reducible refine z_retN ?_ | with_reducible refine z_ite ?_ | with_reducible refine z_whl ?_ | with_reducible refine z_for ?_ | with_reducible refine z_pass ?_ | with_reducible refine z_brk ?_ | with_reducible refine z_cnt ?_ | with_reducible refine z_nil ?_ | with_reducible refine z_par3 ?_ | with_reducible refine z_sub2 ?_ | with_reducible refine z_sub3 ?_ | with_reducible refine z_raiF ?_ | with_reducible refine z_rai ?_ | with_reducible refine z_try1 ?_ | with_reducible refine w_bin ?_ | with_reducible refine w_int ?_ | with_reducible refine w_str ?_ | with_reducible refine w_blc ?_ | with_reducible refine w_non ?_ | with_reducible refine w_bty ?_ | with_reducible refine w_neg ?_ | with_reducible refine w_cmp ?_ | with_reducible refine w_chn ?_ | with_reducible refine w_and ?_ | with_reducible refine w_or ?_ | with_reducible refine w_not ?_ | with_reducible refine w_ite ?_ | with_reducible refine w_fld ?_ | with_reducible refine w_ix ?_ | with_reducible refine w_sl ?_ | with_reducible refine w_no ?_ | with_reducible refine w_so ?_ | with_reducible refine w_nil ?_ | with_reducible refine w_cons ?_ | with_reducible refine w_tup ?_ | with_reducible refine w_lst ?_ | with_reducible refine w_cal ?_ | with_reducible refine w_mk ?_ | with_reducible refine w_mth ?_ | with_reducible refine w_bi ?_ | with_reducible refine w_bm ?_ | with_reducible refine w_lc ?_ | with_reducible refine w_iex ?_ | with_reducible refine w_rng1 ?_ | with_reducible refine w_rng2 ?_ | with_reducible refine w_enum ?_ | with_reducible refine w_T0 ?_ | with_reducible refine w_T1 ?_ | with_reducible refine w_add ?_ | with_reducible refine w_sub ?_ | with_reducible refine w_dctK ?_ | with_reducible refine w_dget1 ?_ | with_reducible refine w_dget2 ?_ | with_reducible refine w_rev ?_ | ((with_reducible refine w_tru ?_ ?_); exact rfl)))
  refine ⟨_, rfl, _, rfl, fun _ => ?_, fun _ => ?_⟩
  · unfold t_law_digit_2
    (repeat (first | ((with_reducible refine w_var ?_); refine ⟨_, rfl, ?_⟩) | with_reducible refine z_set ?_ | with_reducible refine z_setT ?_ | with_reducible refine z_par ?_ | with_reducible refine z_fld ?_ | with_reducible refine z_sub ?_ | with_reducible refine z_exp ?_ | with_reducible refine z_ret ?_ | with_reducible refine z_retN ?_ | with_reducible refine z_ite ?_ | with_reducible refine z_whl ?_ | with_reducible refine z_for ?_ | with_reducible refine z_pass ?_ | with_reducible refine z_brk ?_ | with_reducible refine z_cnt ?_ | with_reducible refine z_nil ?_ | with_reducible refine z_par3 ?_ | with_reducible refine z_sub2 ?_ | with_reducible refine z_sub3 ?_ | with_reducible refine z_raiF ?_ | with_reducible refine z_rai ?_ | with_reducible refine z_try1 ?_ | with_reducible refine w_bin ?_ | with_reducible refine w_int ?_ | with_reducible refine w_str ?_ | with_reducible refine w_blc ?_ | with_reducible refine w_non ?_ | with_reducible refine w_bty ?_ | with_reducible refine w_neg ?_ | with_reducible refine w_cmp ?_ | with_reducible refine w_chn ?_ | with_reducible refine w_and ?_ | with_reducible refine w_or ?_ | with_reducible refine w_not ?_ | with_reducible refine w_ite ?_ | with_reducible refine w_fld ?_ | with_reducible refine w_ix ?_ | with_reducible refine w_sl ?_ | with_reducible refine w_no ?_ | with_reducible refine w_so ?_ | with_reducible refine w_nil ?_ | with_reducible refine w_cons ?_ | with_reducible refine w_tup ?_ | with_reducible refine w_lst ?_ | with_reducible refine w_cal ?_ | with_reducible refine w_mk ?_ | with_reducible refine w_mth ?_ | with_reducible refine w_bi ?_ | with_reducible refine w_bm ?_ | with_reducible refine w_lc ?_ | with_reducible refine w_iex ?_ | with_reducible refine w_rng1 ?_ | with_reducible refine w_rng2 ?_ | with_reducible refine w_enum ?_ | with_reducible refine w_T0 ?_ | with_reducible refine w_T1 ?_ | with_reducible refine w_add ?_ | with_reducible refine w_sub ?_ | with_reducible refine w_dctK ?_ | with_reducible refine w_dget1 ?_ | with_reducible refine w_dget2 ?_ | with_reducible refine w_rev ?_ | ((with_reducible refine w_tru ?_ ?_); exact rfl)))
    refine ix_loc h (by rfl) ?_
    (repeat (first | ((with_reducible refine w_var ?_); refine ⟨_, rfl, ?_⟩) | with_reducible refine z_set ?_ | with_reducible refine z_setT ?_ | with_reducible refine z_par ?_ | with_reducible refine z_fld ?_ | with_reducible refine z_sub ?_ | with_reducible refine z_exp ?_ | with_reducible refine z_ret ?_ | with_reducible refine z_retN ?_ | with_reducible refine z_ite ?_ | with_reducible refine z_whl ?_ | with_reducible refine z_for ?_ | with_reducible refine z_pass ?_ | with_reducible refine z_brk ?_ | with_reducible refine z_cnt ?_ | with_reducible refine z_nil ?_ | with_reducible refine z_par3 ?_ | with_reducible refine z_sub2 ?_ | with_reducible refine z_sub3 ?_ | with_reducible refine z_raiF ?_ | with_reducible refine z_rai ?_ | with_reducible refine z_try1 ?_ | with_reducible refine w_bin ?_ | with_reducible refine w_int ?_ | with_reducible refine w_str ?_ | with_reducible refine w_blc ?_ | with_reducible refine w_non ?_ | with_reducible refine w_bty ?_ | with_reducible refine w_neg ?_ | with_reducible refine w_cmp ?_ | with_reducible refine w_chn ?_ | with_reducible refine w_and ?_ | with_reducible refine w_or ?_ | with_reducible refine w_not ?_ | with_reducible refine w_ite ?_ | with_reducible refine w_fld ?_ | with_reducible refine w_ix ?_ | with_reducible refine w_sl ?_ | with_reducible refine w_no ?_ | with_reducible refine w_so ?_ | with_reducible refine w_nil ?_ | with_reducible refine w_cons ?_ | with_reducible refine w_tup ?_ | with_reducible refine w_lst ?_ | with_reducible refine w_cal ?_ | with_reducible refine w_mk ?_ | with_reducible refine w_mth ?_ | with_reducible refine w_bi ?_ | with_reducible refine w_bm ?_ | with_reducible refine w_lc ?_ | with_reducible refine w_iex ?_ | with_reducible refine w_rng1 ?_ | with_reducible refine w_rng2 ?_ | with_reducible refine w_enum ?_ | with_reducible refine w_T0 ?_ | with_reducible refine w_T1 ?_ | with_reducible refine w_add ?_ | with_reducible refine w_sub ?_ | with_reducible refine w_dctK ?_ | with_reducible refine w_dget1 ?_ | with_reducible refine w_dget2 ?_ | with_reducible refine w_rev ?_ | ((with_reducible refine w_tru ?_ ?_); exact rfl)))
    refine ⟨_, _, rfl, ?_⟩
    (repeat (first | ((with_reducible refine w_var ?_); refine ⟨_, rfl, ?_⟩) | with_reducible refine z_set ?_ | with_reducible refine z_setT ?_ | with_reducible refine z_par ?_ | with_reducible refine z_fld ?_ | with_reducible refine z_sub ?_ | with_reducible refine z_exp ?_ | with_reducible refine z_ret ?_ | with_reducible refine z_retN ?_ | with_reducible refine z_ite ?_ | with_reducible refine z_whl ?_ | with_reducible refine z_for ?_ | with_reducible refine z_pass ?_ | with_reducible refine z_brk ?_ | with_reducible refine z_cnt ?_ | with_reducible refine z_nil ?_ | with_reducible refine z_par3 ?_ | with_reducible refine z_sub2 ?_ | with_reducible refine z_sub3 ?_ | with_reducible refine z_raiF ?_ | with_reducible refine z_rai ?_ | with_reducible refine z_try1 ?_ | with_reducible refine w_bin ?_ | with_reducible refine w_int ?_ | with_reducible refine w_str ?_ | with_reducible refine w_blc ?_ | with_reducible refine w_non ?_ | with_reducible refine w_bty ?_ | with_reducible refine w_neg ?_ | with_reducible refine w_cmp ?_ | with_reducible refine w_chn ?_ | with_reducible refine w_and ?_ | with_reducible refine w_or ?_ | with_reducible refine w_not ?_ | with_reducible refine w_ite ?_ | with_reducible refine w_fld ?_ | with_reducible refine w_ix ?_ | with_reducible refine w_sl ?_ | with_reducible refine w_no ?_ | with_reducible refine w_so ?_ | with_reducible refine w_nil ?_ | with_reducible refine w_cons ?_ | with_reducible refine w_tup ?_ | with_reducible refine w_lst ?_ | with_reducible refine w_cal ?_ | with_reducible refine w_mk ?_ | with_reducible refine w_mth ?_ | with_reducible refine w_bi ?_ | with_reducible refine w_bm ?_ | with_reducible refine w_lc ?_ | with_reducible refine w_iex ?_ | with_reducible refine w_rng1 ?_ | with_reducible refine w_rng2 ?_ | with_reducible refine w_enum ?_ | with_reducible refine w_T0 ?_ | with_reducible refine w_T1 ?_ | with_reducible refine w_add ?_ | with_reducible refine w_sub ?_ | with_reducible refine w_dctK ?_ | with_reducible refine w_dget1 ?_ | with_reducible refine w_dget2 ?_ | with_reducible refine w_rev ?_ | ((with_reducible refine w_tru ?_ ?_); exact rfl)))
    refine w_mod h0 ?_
    (repeat (first | ((with_reducible refine w_var ?_); refine ⟨_, rfl, ?_⟩) | with_reducible refine z_set ?_ | with_reducible refine z_setT ?_ | with_reducible refine z_par ?_ | with_reducible refine z_fld ?_ | with_reducible refine z_sub ?_ | with_reducible refine z_exp ?_ | with_reducible refine z_ret ?_ | with_reducible refine z_retN ?_ | with_reducible refine z_ite ?_ | with_reducible refine z_whl ?_ | with_reducible refine z_for ?_ | with_reducible refine z_pass ?_ | with_reducible refine z_brk ?_ | with_reducible refine z_cnt ?_ | with_reducible refine z_nil ?_ | with_reducible refine z_par3 ?_ | with_reducible refine z_sub2 ?_ | with_reducible refine z_sub3 ?_ | with_reducible refine z_raiF ?_ | with_reducible refine z_rai ?_ | with_reducible refine z_try1 ?_ | with_reducible refine w_bin ?_ | with_reducible refine w_int ?_ | with_reducible refine w_str ?_ | with_reducible refine w_blc ?_ | with_reducible refine w_non ?_ | with_reducible refine w_bty ?_ | with_reducible refine w_neg ?_ | with_reducible refine w_cmp ?_ | with_reducible refine w_chn ?_ | with_reducible refine w_and ?_ | with_reducible refine w_or ?_ | with_reducible refine w_not ?_ | with_reducible refine w_ite ?_ | with_reducible refine w_fld ?_ | with_reducible refine w_ix ?_ | with_reducible refine w_sl ?_ | with_reducible refine w_no ?_ | with_reducible refine w_so ?_ | with_reducible refine w_nil ?_ | with_reducible refine w_cons ?_ | with_reducible refine w_tup ?_ | with_reducible refine w_lst ?_ | with_reducible refine w_cal ?_ | with_reducible refine w_mk ?_ | with_reducible refine w_mth ?_ | with_reducible refine w_bi ?_ | with_reducible refine w_bm ?_ | with_reducible refine w_lc ?_ | with_reducible refine w_iex ?_ | with_reducible refine w_rng1 ?_ | with_reducible refine w_rng2 ?_ | with_reducible refine w_enum ?_ | with_reducible refine w_T0 ?_ | with_reducible refine w_T1 ?_ | with_reducible refine w_add ?_ | with_reducible refine w_sub ?_ | with_reducible refine w_dctK ?_ | with_reducible refine w_dget1 ?_ | with_reducible refine w_dget2 ?_ | with_reducible refine w_rev ?_ | ((with_reducible refine w_tru ?_ ?_); exact rfl)))
    refine ix_loc h (by rfl) ?_
    (repeat (first | ((with_reducible refine w_var ?_); refine ⟨_, rfl, ?_⟩) | with_reducible refine z_set ?_ | with_reducible refine z_setT ?_ | with_reducible refine z_par ?_ | with_reducible refine z_fld ?_ | with_reducible refine z_sub ?_ | with_reducible refine z_exp ?_ | with_reducible refine z_ret ?_ | with_reducible refine z_retN ?_ | with_reducible refine z_ite ?_ | with_reducible refine z_whl ?_ | with_reducible refine z_for ?_ | with_reducible refine z_pass ?_ | with_reducible refine z_brk ?_ | with_reducible refine z_cnt ?_ | with_reducible refine z_nil ?_ | with_reducible refine z_par3 ?_ | with_reducible refine z_sub2 ?_ | with_reducible refine z_sub3 ?_ | with_reducible refine z_raiF ?_ | with_reducible refine z_rai ?_ | with_reducible refine z_try1 ?_ | with_reducible refine w_bin ?_ | with_reducible refine w_int ?_ | with_reducible refine w_str ?_ | with_reducible refine w_blc ?_ | with_reducible refine w_non ?_ | with_reducible refine w_bty ?_ | with_reducible refine w_neg ?_ | with_reducible refine w_cmp ?_ | with_reducible refine w_chn ?_ | with_reducible refine w_and ?_ | with_reducible refine w_or ?_ | with_reducible refine w_not ?_ | with_reducible refine w_ite ?_ | with_reducible refine w_fld ?_ | with_reducible refine w_ix ?_ | with_reducible refine w_sl ?_ | with_reducible refine w_no ?_ | with_reducible refine w_so ?_ | with_reducible refine w_nil ?_ | with_reducible refine w_cons ?_ | with_reducible refine w_tup ?_ | with_reducible refine w_lst ?_ | with_reducible refine w_cal ?_ | with_reducible refine w_mk ?_ | with_reducible refine w_mth ?_ | with_reducible refine w_bi ?_ | with_reducible refine w_bm ?_ | with_reducible refine w_lc ?_ | with_reducible refine w_iex ?_ | with_reducible refine w_rng1 ?_ | with_reducible refine w_rng2 ?_ | with_reducible refine w_enum ?_ | with_reducible refine w_T0 ?_ | with_reducible refine w_T1 ?_ | with_reducible refine w_add ?_ | with_reducible refine w_sub ?_ | with_reducible refine w_dctK ?_ | with_reducible refine w_dget1 ?_ | with_reducible refine w_dget2 ?_ | with_reducible refine w_rev ?_ | ((with_reducible refine w_tru ?_ ?_); exact rfl)))
    refine w_div ⟨h0, h1⟩ ?_
    (repeat (first | ((with_reducible refine w_var ?_); refine ⟨_, rfl, ?_⟩) | with_reducible refine z_set ?_ | with_reducible refine z_setT ?_ | with_reducible refine z_par ?_ | with_reducible refine z_fld ?_ | with_reducible refine z_sub ?_ | with_reducible refine z_exp ?_ | with_reducible refine z_ret ?_ | with_reducible refine z_retN ?_ | with_reducible refine z_ite ?_ | with_reducible refine z_whl ?_ | with_reducible refine z_for ?_ | with_reducible refine z_pass ?_ | with_reducible refine z_brk ?_ | with_reducible refine z_cnt ?_ | with_reducible refine z_nil ?_ | with_reducible refine z_par3 ?_ | with_reducible refine z_sub2 ?_ | with_reducible refine z_sub3 ?_ | with_reducible refine z_raiF ?_ | with_reducible refine z_rai ?_ | with_reducible refine z_try1 ?_ | with_reducible refine w_bin ?_ | with_reducible refine w_int ?_ | with_reducible refine w_str ?_ | with_reducible refine w_blc ?_ | with_reducible refine w_non ?_ | with_reducible refine w_bty ?_ | with_reducible refine w_neg ?_ | with_reducible refine w_cmp ?_ | with_reducible refine w_chn ?_ | with_reducible refine w_and ?_ | with_reducible refine w_or ?_ | with_reducible refine w_not ?_ | with_reducible refine w_ite ?_ | with_reducible refine w_fld ?_ | with_reducible refine w_ix ?_ | with_reducible refine w_sl ?_ | with_reducible refine w_no ?_ | with_reducible refine w_so ?_ | with_reducible refine w_nil ?_ | with_reducible refine w_cons ?_ | with_reducible refine w_tup ?_ | with_reducible refine w_lst ?_ | with_reducible refine w_cal ?_ | with_reducible refine w_mk ?_ | with_reducible refine w_mth ?_ | with_reducible refine w_bi ?_ | with_reducible refine w_bm ?_ | with_reducible refine w_lc ?_ | with_reducible refine w_iex ?_ | with_reducible refine w_rng1 ?_ | with_reducible refine w_rng2 ?_ | with_reducible refine w_enum ?_ | with_reducible refine w_T0 ?_ | with_reducible refine w_T1 ?_ | with_reducible refine w_add ?_ | with_reducible refine w_sub ?_ | with_reducible refine w_dctK ?_ | with_reducible refine w_dget1 ?_ | with_reducible refine w_dget2 ?_ | with_reducible refine w_rev ?_ | ((with_reducible refine w_tru ?_ ?_); exact rfl)))
    refine set_loc h (by rfl) ?_
    (repeat (first | ((with_reducible refine w_var ?_); refine ⟨_, rfl, ?_⟩) | with_reducible refine z_set ?_ | with_reducible refine z_setT ?_ | with_reducible refine z_par ?_ | with_reducible refine z_fld ?_ | with_reducible refine z_sub ?_ | with_reducible refine z_exp ?_ | with_reducible refine z_ret ?_ | with_reducible refine z_retN ?_ | with_reducible refine z_ite ?_ | with_reducible refine z_whl ?_ | with_reducible refine z_for ?_ | with_reducible refine z_pass ?_ | with_reducible refine z_brk ?_ | with_reducible refine z_cnt ?_ | with_reducible refine z_nil ?_ | with_reducible refine z_par3 ?_ | with_reducible refine z_sub2 ?_ | with_reducible refine z_sub3 ?_ | with_reducible refine z_raiF ?_ | with_reducible refine z_rai ?_ | with_reducible refine z_try1 ?_ | with_reducible refine w_bin ?_ | with_reducible refine w_int ?_ | with_reducible refine w_str ?_ | with_reducible refine w_blc ?_ | with_reducible refine w_non ?_ | with_reducible refine w_bty ?_ | with_reducible refine w_neg ?_ | with_reducible refine w_cmp ?_ | with_reducible refine w_chn ?_ | with_reducible refine w_and ?_ | with_reducible refine w_or ?_ | with_reducible refine w_not ?_ | with_reducible refine w_ite ?_ | with_reducible refine w_fld ?_ | with_reducible refine w_ix ?_ | with_reducible refine w_sl ?_ | with_reducible refine w_no ?_ | with_reducible refine w_so ?_ | with_reducible refine w_nil ?_ | with_reducible refine w_cons ?_ | with_reducible refine w_tup ?_ | with_reducible refine w_lst ?_ | with_reducible refine w_cal ?_ | with_reducible refine w_mk ?_ | with_reducible refine w_mth ?_ | with_reducible refine w_bi ?_ | with_reducible refine w_bm ?_ | with_reducible refine w_lc ?_ | with_reducible refine w_iex ?_ | with_reducible refine w_rng1 ?_ | with_reducible refine w_rng2 ?_ | with_reducible refine w_enum ?_ | with_reducible refine w_T0 ?_ | with_reducible refine w_T1 ?_ | with_reducible refine w_add ?_ | with_reducible refine w_sub ?_ | with_reducible refine w_dctK ?_ | with_reducible refine w_dget1 ?_ | with_reducible refine w_dget2 ?_ | with_reducible refine w_rev ?_ | ((with_reducible refine w_tru ?_ ?_); exact rfl)))
    exact hQ _ _ _ _ (Int.emod_nonneg _ (by omega)) (Int.emod_lt_of_pos _ h0)
  · (repeat (first | ((with_reducible refine w_var ?_); refine ⟨_, rfl, ?_⟩) | with_reducible refine z_set ?_ | with_reducible refine z_setT ?_ | with_reducible refine z_par ?_ | with_reducible refine z_fld ?_ | with_reducible refine z_sub ?_ | with_reducible refine z_exp ?_ | with_reducible refine z_ret ?_ | with_reducible refine z_retN ?_ | with_reducible refine z_ite ?_ | with_reducible refine z_whl ?_ | with_reducible refine z_for ?_ | with_reducible refine z_pass ?_ | with_reducible refine z_brk ?_ | with_reducible refine z_cnt ?_ | with_reducible refine z_nil ?_ | with_reducible refine z_par3 ?_ | with_reducible refine z_sub2 ?_ | with_reducible refine z_sub3 ?_ | with_reducible refine z_raiF ?_ | with_reducible refine z_rai ?_ | with_reducible refine z_try1 ?_ | with_reducible refine w_bin ?_ | with_reducible refine w_int ?_ | with_reducible refine w_str ?_ | with_reducible refine w_blc ?_ | with_reducible refine w_non ?_ | with_reducible refine w_bty ?_ | with_reducible refine w_neg ?_ | with_reducible refine w_cmp ?_ | with_reducible refine w_chn ?_ | with_reducible refine w_and ?_ | with_reducible refine w_or ?_ | with_reducible refine w_not ?_ | with_reducible refine w_ite ?_ | with_reducible refine w_fld ?_ | with_reducible refine w_ix ?_ | with_reducible refine w_sl ?_ | with_reducible refine w_no ?_ | with_reducible refine w_so ?_ | with_reducible refine w_nil ?_ | with_reducible refine w_cons ?_ | with_reducible refine w_tup ?_ | with_reducible refine w_lst ?_ | with_reducible refine w_cal ?_ | with_reducible refine w_mk ?_ | with_reducible refine w_mth ?_ | with_reducible refine w_bi ?_ | with_reducible refine w_bm ?_ | with_reducible refine w_lc ?_ | with_reducible refine w_iex ?_ | with_reducible refine w_rng1 ?_ | with_reducible refine w_rng2 ?_ | with_reducible refine w_enum ?_ | with_reducible refine w_T0 ?_ | with_reducible refine w_T1 ?_ | with_reducible refine w_add ?_ | with_reducible refine w_sub ?_ | with_reducible refine w_dctK ?_ | with_reducible refine w_dget1 ?_ | with_reducible refine w_dget2 ?_ | with_reducible refine w_rev ?_ | ((with_reducible refine w_tru ?_ ?_); exact rfl)))
    unfold t_law_digit_3
    (repeat (first | ((with_reducible refine w_var ?_); refine ⟨_, rfl, ?_⟩) | with_reducible refine z_set ?_ | with_reducible refine z_setT ?_ | with_reducible refine z_par ?_ | with_reducible refine z_fld ?_ | with_reducible refine z_sub ?_ | with_reducible refine z_exp ?_ | with_reducible refine z_ret ?_ | with_reducible refine z_retN ?_ | with_reducible refine z_ite ?_ | with_reducible refine z_whl ?_ | with_reducible refine z_for ?_ | with_reducible refine z_pass ?_ | with_reducible refine z_brk ?_ | with_reducible refine z_cnt ?_ | with_reducible refine z_nil ?_ | with_reducible refine z_par3 ?_ | with_reducible refine z_sub2 ?_ | with_reducible refine z_sub3 ?_ | with_reducible refine z_raiF ?_ | with_reducible refine z_rai ?_ | with_reducible refine z_try1 ?_ | with_reducible refine w_bin ?_ | with_reducible refine w_int ?_ | with_reducible refine w_str ?_ | with_reducible refine w_blc ?_ | with_reducible refine w_non ?_ | with_reducible refine w_bty ?_ | with_reducible refine w_neg ?_ | with_reducible refine w_cmp ?_ | with_reducible refine w_chn ?_ | with_reducible refine w_and ?_ | with_reducible refine w_or ?_ | with_reducible refine w_not ?_ | with_reducible refine w_ite ?_ | with_reducible refine w_fld ?_ | with_reducible refine w_ix ?_ | with_reducible refine w_sl ?_ | with_reducible refine w_no ?_ | with_reducible refine w_so ?_ | with_reducible refine w_nil ?_ | with_reducible refine w_cons ?_ | with_reducible refine w_tup ?_ | with_reducible refine w_lst ?_ | with_reducible refine w_cal ?_ | with_reducible refine w_mk ?_ | with_reducible refine w_mth ?_ | with_reducible refine w_bi ?_ | with_reducible refine w_bm ?_ | with_reducible refine w_lc ?_ | with_reducible refine w_iex ?_ | with_reducible refine w_rng1 ?_ | with_reducible refine w_rng2 ?_ | with_reducible refine w_enum ?_ | with_reducible refine w_T0 ?_ | with_reducible refine w_T1 ?_ | with_reducible refine w_add ?_ | with_reducible refine w_sub ?_ | with_reducible refine w_dctK ?_ | with_reducible refine w_dget1 ?_ | with_reducible refine w_dget2 ?_ | with_reducible refine w_rev ?_ | ((with_reducible refine w_tru ?_ ?_); exact rfl)))
    refine ix_loc h (by rfl) ?_
    (repeat (first | ((with_reducible refine w_var ?_); refine ⟨_, rfl, ?_⟩) | with_reducible refine z_set ?_ | with_reducible refine z_setT ?_ | with_reducible refine z_par ?_ | with_reducible refine z_fld ?_ | with_reducible refine z_sub ?_ | with_reducible refine z_exp ?_ | with_reducible refine z_ret ?_ | with_reducible refine z_retN ?_ | with_reducible refine z_ite ?_ | with_reducible refine z_whl ?_ | with_reducible refine z_for ?_ | with_reducible refine z_pass ?_ | with_reducible refine z_brk ?_ | with_reducible refine z_cnt ?_ | with_reducible refine z_nil ?_ | with_reducible refine z_par3 ?_ | with_reducible refine z_sub2 ?_ | with_reducible refine z_sub3 ?_ | with_reducible refine z_raiF ?_ | with_reducible refine z_rai ?_ | with_reducible refine z_try1 ?_ | with_reducible refine w_bin ?_ | with_reducible refine w_int ?_ | with_reducible refine w_str ?_ | with_reducible refine w_blc ?_ | with_reducible refine w_non ?_ | with_reducible refine w_bty ?_ | with_reducible refine w_neg ?_ | with_reducible refine w_cmp ?_ | with_reducible refine w_chn ?_ | with_reducible refine w_and ?_ | with_reducible refine w_or ?_ | with_reducible refine w_not ?_ | with_reducible refine w_ite ?_ | with_reducible refine w_fld ?_ | with_reducible refine w_ix ?_ | with_reducible refine w_sl ?_ | with_reducible refine w_no ?_ | with_reducible refine w_so ?_ | with_reducible refine w_nil ?_ | with_reducible refine w_cons ?_ | with_reducible refine w_tup ?_ | with_reducible refine w_lst ?_ | with_reducible refine w_cal ?_ | with_reducible refine w_mk ?_ | with_reducible refine w_mth ?_ | with_reducible refine w_bi ?_ | with_reducible refine w_bm ?_ | with_reducible refine w_lc ?_ | with_reducible refine w_iex ?_ | with_reducible refine w_rng1 ?_ | with_reducible refine w_rng2 ?_ | with_reducible refine w_enum ?_ | with_reducible refine w_T0 ?_ | with_reducible refine w_T1 ?_ | with_reducible refine w_add ?_ | with_reducible refine w_sub ?_ | with_reducible refine w_dctK ?_ | with_reducible refine w_dget1 ?_ | with_reducible refine w_dget2 ?_ | with_reducible refine w_rev ?_ | ((with_reducible refine w_tru ?_ ?_); exact rfl)))
    refine set_loc h (by rfl) ?_
    (repeat (first | ((with_reducible refine w_var ?_); refine ⟨_, rfl, ?_⟩) | with_reducible refine z_set ?_ | with_reducible refine z_setT ?_ | with_reducible refine z_par ?_ | with_reducible refine z_fld ?_ | with_reducible refine z_sub ?_ | with_reducible refine z_exp ?_ | with_reducible refine z_ret ?_ | with_reducible refine z_retN ?_ | with_reducible refine z_ite ?_ | with_reducible refine z_whl ?_ | with_reducible refine z_for ?_ | with_reducible refine z_pass ?_ | with_reducible refine z_brk ?_ | with_reducible refine z_cnt ?_ | with_reducible refine z_nil ?_ | with_reducible refine z_par3 ?_ | with_reducible refine z_sub2 ?_ | with_reducible refine z_sub3 ?_ | with_reducible refine z_raiF ?_ | with_reducible refine z_rai ?_ | with_reducible refine z_try1 ?_ | with_reducible refine w_bin ?_ | with_reducible refine w_int ?_ | with_reducible refine w_str ?_ | with_reducible refine w_blc ?_ | with_reducible refine w_non ?_ | with_reducible refine w_bty ?_ | with_reducible refine w_neg ?_ | with_reducible refine w_cmp ?_ | with_reducible refine w_chn ?_ | with_reducible refine w_and ?_ | with_reducible refine w_or ?_ | with_reducible refine w_not ?_ | with_reducible refine w_ite ?_ | with_reducible refine w_fld ?_ | with_reducible refine w_ix ?_ | with_reducible refine w_sl ?_ | with_reducible refine w_no ?_ | with_reducible refine w_so ?_ | with_reducible refine w_nil ?_ | with_reducible refine w_cons ?_ | with_reducible refine w_tup ?_ | with_reducible refine w_lst ?_ | with_reducible refine w_cal ?_ | with_reducible refine w_mk ?_ | with_reducible refine w_mth ?_ | with_reducible refine w_bi ?_ | with_reducible refine w_bm ?_ | with_reducible refine w_lc ?_ | with_reducible refine w_iex ?_ | with_reducible refine w_rng1 ?_ | with_reducible refine w_rng2 ?_ | with_reducible refine w_enum ?_ | with_reducible refine w_T0 ?_ | with_reducible refine w_T1 ?_ | with_reducible refine w_add ?_ | with_reducible refine w_sub ?_ | with_reducible refine w_dctK ?_ | with_reducible refine w_dget1 ?_ | with_reducible refine w_dget2 ?_ | with_reducible refine w_rev ?_ | ((with_reducible refine w_tru ?_ ?_); exact rfl)))
    refine ix_loc (get_set hl) (by rfl) ?_
    (repeat (first | ((with_reducible refine w_var ?_); refine ⟨_, rfl, ?_⟩) | with_reducible refine z_set ?_ | with_reducible refine z_setT ?_ | with_reducible refine z_par ?_ | with_reducible refine z_fld ?_ | with_reducible refine z_sub ?_ | with_reducible refine z_exp ?_ | with_reducible refine z_ret ?_ | with_reducible refine z_retN ?_ | with_reducible refine z_ite ?_ | with_reducible refine z_whl ?_ | with_reducible refine z_for ?_ | with_reducible refine z_pass ?_ | with_reducible refine z_brk ?_ | with_reducible refine z_cnt ?_ | with_reducible refine z_nil ?_ | with_reducible refine z_par3 ?_ | with_reducible refine z_sub2 ?_ | with_reducible refine z_sub3 ?_ | with_reducible refine z_raiF ?_ | with_reducible refine z_rai ?_ | with_reducible refine z_try1 ?_ | with_reducible refine w_bin ?_ | with_reducible refine w_int ?_ | with_reducible refine w_str ?_ | with_reducible refine w_blc ?_ | with_reducible refine w_non ?_ | with_reducible refine w_bty ?_ | with_reducible refine w_neg ?_ | with_reducible refine w_cmp ?_ | with_reducible refine w_chn ?_ | with_reducible refine w_and ?_ | with_reducible refine w_or ?_ | with_reducible refine w_not ?_ | with_reducible refine w_ite ?_ | with_reducible refine w_fld ?_ | with_reducible refine w_ix ?_ | with_reducible refine w_sl ?_ | with_reducible refine w_no ?_ | with_reducible refine w_so ?_ | with_reducible refine w_nil ?_ | with_reducible refine w_cons ?_ | with_reducible refine w_tup ?_ | with_reducible refine w_lst ?_ | with_reducible refine w_cal ?_ | with_reducible refine w_mk ?_ | with_reducible refine w_mth ?_ | with_reducible refine w_bi ?_ | with_reducible refine w_bm ?_ | with_reducible refine w_lc ?_ | with_reducible refine w_iex ?_ | with_reducible refine w_rng1 ?_ | with_reducible refine w_rng2 ?_ | with_reducible refine w_enum ?_ | with_reducible refine w_T0 ?_ | with_reducible refine w_T1 ?_ | with_reducible refine w_add ?_ | with_reducible refine w_sub ?_ | with_reducible refine w_dctK ?_ | with_reducible refine w_dget1 ?_ | with_reducible refine w_dget2 ?_ | with_reducible refine w_rev ?_ | ((with_reducible refine w_tru ?_ ?_); exact rfl)))
    refine ix_loc (get_set hl) (by rfl) ?_
    (repeat (first | ((with_reducible refine w_var ?_); refine ⟨_, rfl, ?_⟩) | with_reducible refine z_set ?_ | with_reducible refine z_setT ?_ | with_reducible refine z_par ?_ | with_reducible refine z_fld ?_ | with_reducible refine z_sub ?_ | with_reducible refine z_exp ?_ | with_reducible refine z_ret ?_ | with_reducible refine z_retN ?_ | with_reducible refine z_ite ?_ | with_reducible refine z_whl ?_ | with_reducible refine z_for ?_ | with_reducible refine z_pass ?_ | with_reducible refine z_brk ?_ | with_reducible refine z_cnt ?_ | with_reducible refine z_nil ?_ | with_reducible refine z_par3 ?_ | with_reducible refine z_sub2 ?_ | with_reducible refine z_sub3 ?_ | with_reducible refine z_raiF ?_ | with_reducible refine z_rai ?_ | with_reducible refine z_try1 ?_ | with_reducible refine w_bin ?_ | with_reducible refine w_int ?_ | with_reducible refine w_str ?_ | with_reducible refine w_blc ?_ | with_reducible refine w_non ?_ | with_reducible refine w_bty ?_ | with_reducible refine w_neg ?_ | with_reducible refine w_cmp ?_ | with_reducible refine w_chn ?_ | with_reducible refine w_and ?_ | with_reducible refine w_or ?_ | with_reducible refine w_not ?_ | with_reducible refine w_ite ?_ | with_reducible refine w_fld ?_ | with_reducible refine w_ix ?_ | with_reducible refine w_sl ?_ | with_reducible refine w_no ?_ | with_reducible refine w_so ?_ | with_reducible refine w_nil ?_ | with_reducible refine w_cons ?_ | with_reducible refine w_tup ?_ | with_reducible refine w_lst ?_ | with_reducible refine w_cal ?_ | with_reducible refine w_mk ?_ | with_reducible refine w_mth ?_ | with_reducible refine w_bi ?_ | with_reducible refine w_bm ?_ | with_reducible refine w_lc ?_ | with_reducible refine w_iex ?_ | with_reducible refine w_rng1 ?_ | with_reducible refine w_rng2 ?_ | with_reducible refine w_enum ?_ | with_reducible refine w_T0 ?_ | with_reducible refine w_T1 ?_ | with_reducible refine w_add ?_ | with_reducible refine w_sub ?_ | with_reducible refine w_dctK ?_ | with_reducible refine w_dget1 ?_ | with_reducible refine w_dget2 ?_ | with_reducible refine w_rev ?_ | ((with_reducible refine w_tru ?_ ?_); exact rfl)))
    refine w_mul (.inl (by omega)) ?_
    (repeat (first | ((with_reducible refine w_var ?_); refine ⟨_, rfl, ?_⟩) | with_reducible refine z_set ?_ | with_reducible refine z_setT ?_ | with_reducible refine z_par ?_ | with_reducible refine z_fld ?_ | with_reducible refine z_sub ?_ | with_reducible refine z_exp ?_ | with_reducible refine z_ret ?_ | with_reducible refine z_retN ?_ | with_reducible refine z_ite ?_ | with_reducible refine z_whl ?_ | with_reducible refine z_for ?_ | with_reducible refine z_pass ?_ | with_reducible refine z_brk ?_ | with_reducible refine z_cnt ?_ | with_reducible refine z_nil ?_ | with_reducible refine z_par3 ?_ | with_reducible refine z_sub2 ?_ | with_reducible refine z_sub3 ?_ | with_reducible refine z_raiF ?_ | with_reducible refine z_rai ?_ | with_reducible refine z_try1 ?_ | with_reducible refine w_bin ?_ | with_reducible refine w_int ?_ | with_reducible refine w_str ?_ | with_reducible refine w_blc ?_ | with_reducible refine w_non ?_ | with_reducible refine w_bty ?_ | with_reducible refine w_neg ?_ | with_reducible refine w_cmp ?_ | with_reducible refine w_chn ?_ | with_reducible refine w_and ?_ | with_reducible refine w_or ?_ | with_reducible refine w_not ?_ | with_reducible refine w_ite ?_ | with_reducible refine w_fld ?_ | with_reducible refine w_ix ?_ | with_reducible refine w_sl ?_ | with_reducible refine w_no ?_ | with_reducible refine w_so ?_ | with_reducible refine w_nil ?_ | with_reducible refine w_cons ?_ | with_reducible refine w_tup ?_ | with_reducible refine w_lst ?_ | with_reducible refine w_cal ?_ | with_reducible refine w_mk ?_ | with_reducible refine w_mth ?_ | with_reducible refine w_bi ?_ | with_reducible refine w_bm ?_ | with_reducible refine w_lc ?_ | with_reducible refine w_iex ?_ | with_reducible refine w_rng1 ?_ | with_reducible refine w_rng2 ?_ | with_reducible refine w_enum ?_ | with_reducible refine w_T0 ?_ | with_reducible refine w_T1 ?_ | with_reducible refine w_add ?_ | with_reducible refine w_sub ?_ | with_reducible refine w_dctK ?_ | with_reducible refine w_dget1 ?_ | with_reducible refine w_dget2 ?_ | with_reducible refine w_rev ?_ | ((with_reducible refine w_tru ?_ ?_); exact rfl)))
    refine w_mul (.inr (by omega)) ?_
    refine ⟨_, _, rfl, ?_⟩
    (repeat (first | ((with_reducible refine w_var ?_); refine ⟨_, rfl, ?_⟩) | with_reducible refine z_set ?_ | with_reducible refine z_setT ?_ | with_reducible refine z_par ?_ | with_reducible refine z_fld ?_ | with_reducible refine z_sub ?_ | with_reducible refine z_exp ?_ | with_reducible refine z_ret ?_ | with_reducible refine z_retN ?_ | with_reducible refine z_ite ?_ | with_reducible refine z_whl ?_ | with_reducible refine z_for ?_ | with_reducible refine z_pass ?_ | with_reducible refine z_brk ?_ | with_reducible refine z_cnt ?_ | with_reducible refine z_nil ?_ | with_reducible refine z_par3 ?_ | with_reducible refine z_sub2 ?_ | with_reducible refine z_sub3 ?_ | with_reducible refine z_raiF ?_ | with_reducible refine z_rai ?_ | with_reducible refine z_try1 ?_ | with_reducible refine w_bin ?_ | with_reducible refine w_int ?_ | with_reducible refine w_str ?_ | with_reducible refine w_blc ?_ | with_reducible refine w_non ?_ | with_reducible refine w_bty ?_ | with_reducible refine w_neg ?_ | with_reducible refine w_cmp ?_ | with_reducible refine w_chn ?_ | with_reducible refine w_and ?_ | with_reducible refine w_or ?_ | with_reducible refine w_not ?_ | with_reducible refine w_ite ?_ | with_reducible refine w_fld ?_ | with_reducible refine w_ix ?_ | with_reducible refine w_sl ?_ | with_reducible refine w_no ?_ | with_reducible refine w_so ?_ | with_reducible refine w_nil ?_ | with_reducible refine w_cons ?_ | with_reducible refine w_tup ?_ | with_reducible refine w_lst ?_ | with_reducible refine w_cal ?_ | with_reducible refine w_mk ?_ | with_reducible refine w_mth ?_ | with_reducible refine w_bi ?_ | with_reducible refine w_bm ?_ | with_reducible refine w_lc ?_ | with_reducible refine w_iex ?_ | with_reducible refine w_rng1 ?_ | with_reducible refine w_rng2 ?_ | with_reducible refine w_enum ?_ | with_reducible refine w_T0 ?_ | with_reducible refine w_T1 ?_ | with_reducible refine w_add ?_ | with_reducible refine w_sub ?_ | with_reducible refine w_dctK ?_ | with_reducible refine w_dget1 ?_ | with_reducible refine w_dget2 ?_ | with_reducible refine w_rev ?_ | ((with_reducible refine w_tru ?_ ?_); exact rfl)))
    refine w_mod (by omega) ?_
    (repeat (first | ((with_reducible refine w_var ?_); refine ⟨_, rfl, ?_⟩) | with_reducible refine z_set ?_ | with_reducible refine z_setT ?_ | with_reducible refine z_par ?_ | with_reducible refine z_fld ?_ | with_reducible refine z_sub ?_ | with_reducible refine z_exp ?_ | with_reducible refine z_ret ?_ | with_reducible refine z_retN ?_ | with_reducible refine z_ite ?_ | with_reducible refine z_whl ?_ | with_reducible refine z_for ?_ | with_reducible refine z_pass ?_ | with_reducible refine z_brk ?_ | with_reducible refine z_cnt ?_ | with_reducible refine z_nil ?_ | with_reducible refine z_par3 ?_ | with_reducible refine z_sub2 ?_ | with_reducible refine z_sub3 ?_ | with_reducible refine z_raiF ?_ | with_reducible refine z_rai ?_ | with_reducible refine z_try1 ?_ | with_reducible refine w_bin ?_ | with_reducible refine w_int ?_ | with_reducible refine w_str ?_ | with_reducible refine w_blc ?_ | with_reducible refine w_non ?_ | with_reducible refine w_bty ?_ | with_reducible refine w_neg ?_ | with_reducible refine w_cmp ?_ | with_reducible refine w_chn ?_ | with_reducible refine w_and ?_ | with_reducible refine w_or ?_ | with_reducible refine w_not ?_ | with_reducible refine w_ite ?_ | with_reducible refine w_fld ?_ | with_reducible refine w_ix ?_ | with_reducible refine w_sl ?_ | with_reducible refine w_no ?_ | with_reducible refine w_so ?_ | with_reducible refine w_nil ?_ | with_reducible refine w_cons ?_ | with_reducible refine w_tup ?_ | with_reducible refine w_lst ?_ | with_reducible refine w_cal ?_ | with_reducible refine w_mk ?_ | with_reducible refine w_mth ?_ | with_reducible refine w_bi ?_ | with_reducible refine w_bm ?_ | with_reducible refine w_lc ?_ | with_reducible refine w_iex ?_ | with_reducible refine w_rng1 ?_ | with_reducible refine w_rng2 ?_ | with_reducible refine w_enum ?_ | with_reducible refine w_T0 ?_ | with_reducible refine w_T1 ?_ | with_reducible refine w_add ?_ | with_reducible refine w_sub ?_ | with_reducible refine w_dctK ?_ | with_reducible refine w_dget1 ?_ | with_reducible refine w_dget2 ?_ | with_reducible refine w_rev ?_ | ((with_reducible refine w_tru ?_ ?_); exact rfl)))
    refine w_div (by omega) ?_
    (repeat (first | ((with_reducible refine w_var ?_); refine ⟨_, rfl, ?_⟩) | with_reducible refine z_set ?_ | with_reducible refine z_setT ?_ | with_reducible refine z_par ?_ | with_reducible refine z_fld ?_ | with_reducible refine z_sub ?_ | with_reducible refine z_exp ?_ | with_reducible refine z_ret ?_ | with_reducible refine z_retN ?_ | with_reducible refine z_ite ?_ | with_reducible refine z_whl ?_ | with_reducible refine z_for ?_ | with_reducible refine z_pass ?_ | with_reducible refine z_brk ?_ | with_reducible refine z_cnt ?_ | with_reducible refine z_nil ?_ | with_reducible refine z_par3 ?_ | with_reducible refine z_sub2 ?_ | with_reducible refine z_sub3 ?_ | with_reducible refine z_raiF ?_ | with_reducible refine z_rai ?_ | with_reducible refine z_try1 ?_ | with_reducible refine w_bin ?_ | with_reducible refine w_int ?_ | with_reducible refine w_str ?_ | with_reducible refine w_blc ?_ | with_reducible refine w_non ?_ | with_reducible refine w_bty ?_ | with_reducible refine w_neg ?_ | with_reducible refine w_cmp ?_ | with_reducible refine w_chn ?_ | with_reducible refine w_and ?_ | with_reducible refine w_or ?_ | with_reducible refine w_not ?_ | with_reducible refine w_ite ?_ | with_reducible refine w_fld ?_ | with_reducible refine w_ix ?_ | with_reducible refine w_sl ?_ | with_reducible refine w_no ?_ | with_reducible refine w_so ?_ | with_reducible refine w_nil ?_ | with_reducible refine w_cons ?_ | with_reducible refine w_tup ?_ | with_reducible refine w_lst ?_ | with_reducible refine w_cal ?_ | with_reducible refine w_mk ?_ | with_reducible refine w_mth ?_ | with_reducible refine w_bi ?_ | with_reducible refine w_bm ?_ | with_reducible refine w_lc ?_ | with_reducible refine w_iex ?_ | with_reducible refine w_rng1 ?_ | with_reducible refine w_rng2 ?_ | with_reducible refine w_enum ?_ | with_reducible refine w_T0 ?_ | with_reducible refine w_T1 ?_ | with_reducible refine w_add ?_ | with_reducible refine w_sub ?_ | with_reducible refine w_dctK ?_ | with_reducible refine w_dget1 ?_ | with_reducible refine w_dget2 ?_ | with_reducible refine w_rev ?_ | ((with_reducible refine w_tru ?_ ?_); exact rfl)))
    refine w_mul (.inl ?_) ?_
    · constructor <;> omega
    refine ⟨_, _, rfl, ?_⟩
    (repeat (first | ((with_reducible refine w_var ?_); refine ⟨_, rfl, ?_⟩) | with_reducible refine z_set ?_ | with_reducible refine z_setT ?_ | with_reducible refine z_par ?_ | with_reducible refine z_fld ?_ | with_reducible refine z_sub ?_ | with_reducible refine z_exp ?_ | with_reducible refine z_ret ?_ | with_reducible refine z_retN ?_ | with_reducible refine z_ite ?_ | with_reducible refine z_whl ?_ | with_reducible refine z_for ?_ | with_reducible refine z_pass ?_ | with_reducible refine z_brk ?_ | with_reducible refine z_cnt ?_ | with_reducible refine z_nil ?_ | with_reducible refine z_par3 ?_ | with_reducible refine z_sub2 ?_ | with_reducible refine z_sub3 ?_ | with_reducible refine z_raiF ?_ | with_reducible refine z_rai ?_ | with_reducible refine z_try1 ?_ | with_reducible refine w_bin ?_ | with_reducible refine w_int ?_ | with_reducible refine w_str ?_ | with_reducible refine w_blc ?_ | with_reducible refine w_non ?_ | with_reducible refine w_bty ?_ | with_reducible refine w_neg ?_ | with_reducible refine w_cmp ?_ | with_reducible refine w_chn ?_ | with_reducible refine w_and ?_ | with_reducible refine w_or ?_ | with_reducible refine w_not ?_ | with_reducible refine w_ite ?_ | with_reducible refine w_fld ?_ | with_reducible refine w_ix ?_ | with_reducible refine w_sl ?_ | with_reducible refine w_no ?_ | with_reducible refine w_so ?_ | with_reducible refine w_nil ?_ | with_reducible refine w_cons ?_ | with_reducible refine w_tup ?_ | with_reducible refine w_lst ?_ | with_reducible refine w_cal ?_ | with_reducible refine w_mk ?_ | with_reducible refine w_mth ?_ | with_reducible refine w_bi ?_ | with_reducible refine w_bm ?_ | with_reducible refine w_lc ?_ | with_reducible refine w_iex ?_ | with_reducible refine w_rng1 ?_ | with_reducible refine w_rng2 ?_ | with_reducible refine w_enum ?_ | with_reducible refine w_T0 ?_ | with_reducible refine w_T1 ?_ | with_reducible refine w_add ?_ | with_reducible refine w_sub ?_ | with_reducible refine w_dctK ?_ | with_reducible refine w_dget1 ?_ | with_reducible refine w_dget2 ?_ | with_reducible refine w_rev ?_ | ((with_reducible refine w_tru ?_ ?_); exact rfl)))
    refine w_mod (by omega) ?_
    (repeat (first | ((with_reducible refine w_var ?_); refine ⟨_, rfl, ?_⟩) | with_reducible refine z_set ?_ | with_reducible refine z_setT ?_ | with_reducible refine z_par ?_ | with_reducible refine z_fld ?_ | with_reducible refine z_sub ?_ | with_reducible refine z_exp ?_ | with_reducible refine z_ret ?_ | with_reducible refine z_retN ?_ | with_reducible refine z_ite ?_ | with_reducible refine z_whl ?_ | with_reducible refine z_for ?_ | with_reducible refine z_pass ?_ | with_reducible refine z_brk ?_ | with_reducible refine z_cnt ?_ | with_reducible refine z_nil ?_ | with_reducible refine z_par3 ?_ | with_reducible refine z_sub2 ?_ | with_reducible refine z_sub3 ?_ | with_reducible refine z_raiF ?_ | with_reducible refine z_rai ?_ | with_reducible refine z_try1 ?_ | with_reducible refine w_bin ?_ | with_reducible refine w_int ?_ | with_reducible refine w_str ?_ | with_reducible refine w_blc ?_ | with_reducible refine w_non ?_ | with_reducible refine w_bty ?_ | with_reducible refine w_neg ?_ | with_reducible refine w_cmp ?_ | with_reducible refine w_chn ?_ | with_reducible refine w_and ?_ | with_reducible refine w_or ?_ | with_reducible refine w_not ?_ | with_reducible refine w_ite ?_ | with_reducible refine w_fld ?_ | with_reducible refine w_ix ?_ | with_reducible refine w_sl ?_ | with_reducible refine w_no ?_ | with_reducible refine w_so ?_ | with_reducible refine w_nil ?_ | with_reducible refine w_cons ?_ | with_reducible refine w_tup ?_ | with_reducible refine w_lst ?_ | with_reducible refine w_cal ?_ | with_reducible refine w_mk ?_ | with_reducible refine w_mth ?_ | with_reducible refine w_bi ?_ | with_reducible refine w_bm ?_ | with_reducible refine w_lc ?_ | with_reducible refine w_iex ?_ | with_reducible refine w_rng1 ?_ | with_reducible refine w_rng2 ?_ | with_reducible refine w_enum ?_ | with_reducible refine w_T0 ?_ | with_reducible refine w_T1 ?_ | with_reducible refine w_add ?_ | with_reducible refine w_sub ?_ | with_reducible refine w_dctK ?_ | with_reducible refine w_dget1 ?_ | with_reducible refine w_dget2 ?_ | with_reducible refine w_rev ?_ | ((with_reducible refine w_tru ?_ ?_); exact rfl)))
    refine w_div (by omega) ?_
    (repeat (first | ((with_reducible refine w_var ?_); refine ⟨_, rfl, ?_⟩) | with_reducible refine z_set ?_ | with_reducible refine z_setT ?_ | with_reducible refine z_par ?_ | with_reducible refine z_fld ?_ | with_reducible refine z_sub ?_ | with_reducible refine z_exp ?_ | with_reducible refine z_ret ?_ | with_reducible refine z_retN ?_ | with_reducible refine z_ite ?_ | with_reducible refine z_whl ?_ | with_reducible refine z_for ?_ | with_reducible refine z_pass ?_ | with_reducible refine z_brk ?_ | with_reducible refine z_cnt ?_ | with_reducible refine z_nil ?_ | with_reducible refine z_par3 ?_ | with_reducible refine z_sub2 ?_ | with_reducible refine z_sub3 ?_ | with_reducible refine z_raiF ?_ | with_reducible refine z_rai ?_ | with_reducible refine z_try1 ?_ | with_reducible refine w_bin ?_ | with_reducible refine w_int ?_ | with_reducible refine w_str ?_ | with_reducible refine w_blc ?_ | with_reducible refine w_non ?_ | with_reducible refine w_bty ?_ | with_reducible refine w_neg ?_ | with_reducible refine w_cmp ?_ | with_reducible refine w_chn ?_ | with_reducible refine w_and ?_ | with_reducible refine w_or ?_ | with_reducible refine w_not ?_ | with_reducible refine w_ite ?_ | with_reducible refine w_fld ?_ | with_reducible refine w_ix ?_ | with_reducible refine w_sl ?_ | with_reducible refine w_no ?_ | with_reducible refine w_so ?_ | with_reducible refine w_nil ?_ | with_reducible refine w_cons ?_ | with_reducible refine w_tup ?_ | with_reducible refine w_lst ?_ | with_reducible refine w_cal ?_ | with_reducible refine w_mk ?_ | with_reducible refine w_mth ?_ | with_reducible refine w_bi ?_ | with_reducible refine w_bm ?_ | with_reducible refine w_lc ?_ | with_reducible refine w_iex ?_ | with_reducible refine w_rng1 ?_ | with_reducible refine w_rng2 ?_ | with_reducible refine w_enum ?_ | with_reducible refine w_T0 ?_ | with_reducible refine w_T1 ?_ | with_reducible refine w_add ?_ | with_reducible refine w_sub ?_ | with_reducible refine w_dctK ?_ | with_reducible refine w_dget1 ?_ | with_reducible refine w_dget2 ?_ | with_reducible refine w_rev ?_ | ((with_reducible refine w_tru ?_ ?_); exact rfl)))
    refine w_mul (.inl ?_) ?_
    · constructor <;> omega
    refine ⟨_, _, rfl, ?_⟩
    (repeat (first | ((with_reducible refine w_var ?_); refine ⟨_, rfl, ?_⟩) | with_reducible refine z_set ?_ | with_reducible refine z_setT ?_ | with_reducible refine z_par ?_ | with_reducible refine z_fld ?_ | with_reducible refine z_sub ?_ | with_reducible refine z_exp ?_ | with_reducible refine z_ret ?_ | with_reducible refine z_retN ?_ | with_reducible refine z_ite ?_ | with_reducible refine z_whl ?_ | with_reducible refine z_for ?_ | with_reducible refine z_pass ?_ | with_reducible refine z_brk ?_ | with_reducible refine z_cnt ?_ | with_reducible refine z_nil ?_ | with_reducible refine z_par3 ?_ | with_reducible refine z_sub2 ?_ | with_reducible refine z_sub3 ?_ | with_reducible refine z_raiF ?_ | with_reducible refine z_rai ?_ | with_reducible refine z_try1 ?_ | with_reducible refine w_bin ?_ | with_reducible refine w_int ?_ | with_reducible refine w_str ?_ | with_reducible refine w_blc ?_ | with_reducible refine w_non ?_ | with_reducible refine w_bty ?_ | with_reducible refine w_neg ?_ | with_reducible refine w_cmp ?_ | with_reducible refine w_chn ?_ | with_reducible refine w_and ?_ | with_reducible refine w_or ?_ | with_reducible refine w_not ?_ | with_reducible refine w_ite ?_ | with_reducible refine w_fld ?_ | with_reducible refine w_ix ?_ | with_reducible refine w_sl ?_ | with_reducible refine w_no ?_ | with_reducible refine w_so ?_ | with_reducible refine w_nil ?_ | with_reducible refine w_cons ?_ | with_reducible refine w_tup ?_ | with_reducible refine w_lst ?_ | with_reducible refine w_cal ?_ | with_reducible refine w_mk ?_ | with_reducible refine w_mth ?_ | with_reducible refine w_bi ?_ | with_reducible refine w_bm ?_ | with_reducible refine w_lc ?_ | with_reducible refine w_iex ?_ | with_reducible refine w_rng1 ?_ | with_reducible refine w_rng2 ?_ | with_reducible refine w_enum ?_ | with_reducible refine w_T0 ?_ | with_reducible refine w_T1 ?_ | with_reducible refine w_add ?_ | with_reducible refine w_sub ?_ | with_reducible refine w_dctK ?_ | with_reducible refine w_dget1 ?_ | with_reducible refine w_dget2 ?_ | with_reducible refine w_rev ?_ | ((with_reducible refine w_tru ?_ ?_); exact rfl)))
    refine w_mod (by omega) ?_
    (repeat (first | ((with_reducible refine w_var ?_); refine ⟨_, rfl, ?_⟩) | with_reducible refine z_set ?_ | with_reducible refine z_setT ?_ | with_reducible refine z_par ?_ | with_reducible refine z_fld ?_ | with_reducible refine z_sub ?_ | with_reducible refine z_exp ?_ | with_reducible refine z_ret ?_ | with_reducible refine z_retN ?_ | with_reducible refine z_ite ?_ | with_reducible refine z_whl ?_ | with_reducible refine z_for ?_ | with_reducible refine z_pass ?_ | with_reducible refine z_brk ?_ | with_reducible refine z_cnt ?_ | with_reducible refine z_nil ?_ | with_reducible refine z_par3 ?_ | with_reducible refine z_sub2 ?_ | with_reducible refine z_sub3 ?_ | with_reducible refine z_raiF ?_ | with_reducible refine z_rai ?_ | with_reducible refine z_try1 ?_ | with_reducible refine w_bin ?_ | with_reducible refine w_int ?_ | with_reducible refine w_str ?_ | with_reducible refine w_blc ?_ | with_reducible refine w_non ?_ | with_reducible refine w_bty ?_ | with_reducible refine w_neg ?_ | with_reducible refine w_cmp ?_ | with_reducible refine w_chn ?_ | with_reducible refine w_and ?_ | with_reducible refine w_or ?_ | with_reducible refine w_not ?_ | with_reducible refine w_ite ?_ | with_reducible refine w_fld ?_ | with_reducible refine w_ix ?_ | with_reducible refine w_sl ?_ | with_reducible refine w_no ?_ | with_reducible refine w_so ?_ | with_reducible refine w_nil ?_ | with_reducible refine w_cons ?_ | with_reducible refine w_tup ?_ | with_reducible refine w_lst ?_ | with_reducible refine w_cal ?_ | with_reducible refine w_mk ?_ | with_reducible refine w_mth ?_ | with_reducible refine w_bi ?_ | with_reducible refine w_bm ?_ | with_reducible refine w_lc ?_ | with_reducible refine w_iex ?_ | with_reducible refine w_rng1 ?_ | with_reducible refine w_rng2 ?_ | with_reducible refine w_enum ?_ | with_reducible refine w_T0 ?_ | with_reducible refine w_T1 ?_ | with_reducible refine w_add ?_ | with_reducible refine w_sub ?_ | with_reducible refine w_dctK ?_ | with_reducible refine w_dget1 ?_ | with_reducible refine w_dget2 ?_ | with_reducible refine w_rev ?_ | ((with_reducible refine w_tru ?_ ?_); exact rfl)))
    first
      | refine w_mod h0 ?_
      | (refine ⟨_, _, rfl, ?_⟩
         (repeat (first | ((with_reducible refine w_var ?_); refine ⟨_, rfl, ?_⟩) | with_reducible refine z_set ?_ | with_reducible refine z_setT ?_ | with_reducible refine z_par ?_ | with_reducible refine z_fld ?_ | with_reducible refine z_sub ?_ | with_reducible refine z_exp ?_ | with_reducible refine z_ret ?_ | with_reducible refine z_retN ?_ | with_reducible refine z_ite ?_ | with_reducible refine z_whl ?_ | with_reducible refine z_for ?_ | with_reducible refine z_pass ?_ | with_reducible refine z_brk ?_ | with_reducible refine z_cnt ?_ | with_reducible refine z_nil ?_ | with_reducible refine z_par3 ?_ | with_reducible refine z_sub2 ?_ | with_reducible refine z_sub3 ?_ | with_reducible refine z_raiF ?_ | with_reducible refine z_rai ?_ | with_reducible refine z_try1 ?_ | with_reducible refine w_bin ?_ | with_reducible refine w_int ?_ | with_reducible refine w_str ?_ | with_reducible refine w_blc ?_ | with_reducible refine w_non ?_ | with_reducible refine w_bty ?_ | with_reducible refine w_neg ?_ | with_reducible refine w_cmp ?_ | with_reducible refine w_chn ?_ | with_reducible refine w_and ?_ | with_reducible refine w_or ?_ | with_reducible refine w_not ?_ | with_reducible refine w_ite ?_ | with_reducible refine w_fld ?_ | with_reducible refine w_ix ?_ | with_reducible refine w_sl ?_ | with_reducible refine w_no ?_ | with_reducible refine w_so ?_ | with_reducible refine w_nil ?_ | with_reducible refine w_cons ?_ | with_reducible refine w_tup ?_ | with_reducible refine w_lst ?_ | with_reducible refine w_cal ?_ | with_reducible refine w_mk ?_ | with_reducible refine w_mth ?_ | with_reducible refine w_bi ?_ | with_reducible refine w_bm ?_ | with_reducible refine w_lc ?_ | with_reducible refine w_iex ?_ | with_reducible refine w_rng1 ?_ | with_reducible refine w_rng2 ?_ | with_reducible refine w_enum ?_ | with_reducible refine w_T0 ?_ | with_reducible refine w_T1 ?_ | with_reducible refine w_add ?_ | with_reducible refine w_sub ?_ | with_reducible refine w_dctK ?_ | with_reducible refine w_dget1 ?_ | with_reducible refine w_dget2 ?_ | with_reducible refine w_rev ?_ | ((with_reducible refine w_tru ?_ ?_); exact rfl)))
         refine w_mod h0 ?_)
    exact hQ _ _ _ _ (Int.emod_nonneg _ (by omega)) (Int.emod_lt_of_pos _ h0)
/-- a digit -/
theorem digit {d i : Nat} {S : Sto} {base : Int} (h : St S i) (h0 : 0 < base) (h1 : base < 1073741824) {Q : D → Sto → Prop}
    (hQ : ∀ (x : Int) (S' : Sto), 0 ≤ x → x < base → St S' i → DI.Fr [i] S S' → Q (.int x) S') : W (calls P0 fs (d + 1) 0 [.loc i, .int base] S) Q := by
  refine W_call (f := d_law_digit) rfl rfl ?_
  obtain ⟨l, hl, hs⟩ := h
  have hi := lt_of hl
  have fin : ∀ (S1 : Sto) (a b c : Int), S1[i]? = some (.lst [.int a, .int b, .int c]) → DI.Fr [i] S S1 → WS (dSs P0 (calls P0 fs d) t_law_digit_4 [some (.loc i), some (.int base), none, none] S1) { nx := fun _ S => Q .non S, rt := Q } := by
    intro S1 a b c e f
    refine digit_b e h0 h1 _ fun x a' b' c' hx hx2 => ?_
    refine hQ _ _ hx hx2 ⟨_, get_set (lt_of e), .inr ⟨_, _, _, rfl⟩⟩ (f.setr (.inl (by simp)))
  show WS (dSs P0 (calls P0 fs d) t_law_digit [some (.loc i), some (.int base), none, none] S) _
  unfold t_law_digit
  (repeat (first | ((with_reducible refine w_var ?_); refine ⟨_, rfl, ?_⟩) | with_reducible refine z_set ?_ | with_reducible refine z_setT ?_ | with_reducible refine z_par ?_ | with_reducible refine z_fld ?_ | with_reducible refine z_sub ?_ | with_reducible refine z_exp ?_ | with_reducible refine z_ret ?_ | with_reducible refine z_retN ?_ | with_reducible refine z_ite ?_ | with_reducible refine z_whl ?_ | with_reducible refine z_for ?_ | with_reducible refine z_pass ?_ | with_reducible refine z_brk ?_ | with_reducible refine z_cnt ?_ | with_reducible refine z_nil ?_ | with_reducible refine z_par3 ?_ | with_reducible refine z_sub2 ?_ | with_reducible refine z_sub3 ?_ | with_reducible refine z_raiF ?_ | with_reducible refine z_rai ?_ | with_reducible refine z_try1 ?_ | with_reducible refine w_bin ?_ | with_reducible refine w_int ?_ | with_reducible refine w_str ?_ | with_reducible refine w_blc ?_ | with_reducible refine w_non ?_ | with_reducible refine w_bty ?_ | with_reducible refine w_neg ?_ | with_reducible refine w_cmp ?_ | with_reducible refine w_chn ?_ | with_reducible refine w_and ?_ | with_reducible refine w_or ?_ | with_reducible refine w_not ?_ | with_reducible refine w_ite ?_ | with_reducible refine w_fld ?_ | with_reducible refine w_ix ?_ | with_reducible refine w_sl ?_ | with_reducible refine w_no ?_ | with_reducible refine w_so ?_ | with_reducible refine w_nil ?_ | with_reducible refine w_cons ?_ | with_reducible refine w_tup ?_ | with_reducible refine w_lst ?_ | with_reducible refine w_cal ?_ | with_reducible refine w_mk ?_ | with_reducible refine w_mth ?_ | with_reducible refine w_bi ?_ | with_reducible refine w_bm ?_ | with_reducible refine w_lc ?_ | with_reducible refine w_iex ?_ | with_reducible refine w_rng1 ?_ | with_reducible refine w_rng2 ?_ | with_reducible refine w_enum ?_ | with_reducible refine w_T0 ?_ | with_reducible refine w_T1 ?_ | with_reducible refine w_add ?_ | with_reducible refine w_sub ?_ | with_reducible refine w_dctK ?_ | with_reducible refine w_dget1 ?_ | with_reducible refine w_dget2 ?_ | with_reducible refine w_rev ?_ | ((with_reducible refine w_tru ?_ ?_); exact rfl)))
  rcases hs with ⟨n, rfl⟩ | ⟨a, b, c, rfl⟩
  · refine ⟨.int 1, S, by simp [biSem, hl], ?_⟩
    (repeat (first | ((with_reducible refine w_var ?_); refine ⟨_, rfl, ?_⟩) | with_reducible refine z_set ?_ | with_reducible refine z_setT ?_ | with_reducible refine z_par ?_ | with_reducible refine z_fld ?_ | with_reducible refine z_sub ?_ | with_reducible refine z_exp ?_ | with_reducible refine z_ret ?_ | with_reducible refine z_retN ?_ | with_reducible refine z_ite ?_ | with_reducible refine z_whl ?_ | with_reducible refine z_for ?_ | with_reducible refine z_pass ?_ | with_reducible refine z_brk ?_ | with_reducible refine z_cnt ?_ | with_reducible refine z_nil ?_ | with_reducible refine z_par3 ?_ | with_reducible refine z_sub2 ?_ | with_reducible refine z_sub3 ?_ | with_reducible refine z_raiF ?_ | with_reducible refine z_rai ?_ | with_reducible refine z_try1 ?_ | with_reducible refine w_bin ?_ | with_reducible refine w_int ?_ | with_reducible refine w_str ?_ | with_reducible refine w_blc ?_ | with_reducible refine w_non ?_ | with_reducible refine w_bty ?_ | with_reducible refine w_neg ?_ | with_reducible refine w_cmp ?_ | with_reducible refine w_chn ?_ | with_reducible refine w_and ?_ | with_reducible refine w_or ?_ | with_reducible refine w_not ?_ | with_reducible refine w_ite ?_ | with_reducible refine w_fld ?_ | with_reducible refine w_ix ?_ | with_reducible refine w_sl ?_ | with_reducible refine w_no ?_ | with_reducible refine w_so ?_ | with_reducible refine w_nil ?_ | with_reducible refine w_cons ?_ | with_reducible refine w_tup ?_ | with_reducible refine w_lst ?_ | with_reducible refine w_cal ?_ | with_reducible refine w_mk ?_ | with_reducible refine w_mth ?_ | with_reducible refine w_bi ?_ | with_reducible refine w_bm ?_ | with_reducible refine w_lc ?_ | with_reducible refine w_iex ?_ | with_reducible refine w_rng1 ?_ | with_reducible refine w_rng2 ?_ | with_reducible refine w_enum ?_ | with_reducible refine w_T0 ?_ | with_reducible refine w_T1 ?_ | with_reducible refine w_add ?_ | with_reducible refine w_sub ?_ | with_reducible refine w_dctK ?_ | with_reducible refine w_dget1 ?_ | with_reducible refine w_dget2 ?_ | with_reducible refine w_rev ?_ | ((with_reducible refine w_tru ?_ ?_); exact rfl)))
    refine ⟨true, by simp [cmpSem, eqD_int], true, rfl, fun _ => ?_, fun h => by cases h⟩
    unfold t_law_digit_1
    (repeat (first | ((with_reducible refine w_var ?_); refine ⟨_, rfl, ?_⟩) | with_reducible refine z_set ?_ | with_reducible refine z_setT ?_ | with_reducible refine z_par ?_ | with_reducible refine z_fld ?_ | with_reducible refine z_sub ?_ | with_reducible refine z_exp ?_ | with_reducible refine z_ret ?_ | with_reducible refine z_retN ?_ | with_reducible refine z_ite ?_ | with_reducible refine z_whl ?_ | with_reducible refine z_for ?_ | with_reducible refine z_pass ?_ | with_reducible refine z_brk ?_ | with_reducible refine z_cnt ?_ | with_reducible refine z_nil ?_ | with_reducible refine z_par3 ?_ | with_reducible refine z_sub2 ?_ | with_reducible refine z_sub3 ?_ | with_reducible refine z_raiF ?_ | with_reducible refine z_rai ?_ | with_reducible refine z_try1 ?_ | with_reducible refine w_bin ?_ | with_reducible refine w_int ?_ | with_reducible refine w_str ?_ | with_reducible refine w_blc ?_ | with_reducible refine w_non ?_ | with_reducible refine w_bty ?_ | with_reducible refine w_neg ?_ | with_reducible refine w_cmp ?_ | with_reducible refine w_chn ?_ | with_reducible refine w_and ?_ | with_reducible refine w_or ?_ | with_reducible refine w_not ?_ | with_reducible refine w_ite ?_ | with_reducible refine w_fld ?_ | with_reducible refine w_ix ?_ | with_reducible refine w_sl ?_ | with_reducible refine w_no ?_ | with_reducible refine w_so ?_ | with_reducible refine w_nil ?_ | with_reducible refine w_cons ?_ | with_reducible refine w_tup ?_ | with_reducible refine w_lst ?_ | with_reducible refine w_cal ?_ | with_reducible refine w_mk ?_ | with_reducible refine w_mth ?_ | with_reducible refine w_bi ?_ | with_reducible refine w_bm ?_ | with_reducible refine w_lc ?_ | with_reducible refine w_iex ?_ | with_reducible refine w_rng1 ?_ | with_reducible refine w_rng2 ?_ | with_reducible refine w_enum ?_ | with_reducible refine w_T0 ?_ | with_reducible refine w_T1 ?_ | with_reducible refine w_add ?_ | with_reducible refine w_sub ?_ | with_reducible refine w_dctK ?_ | with_reducible refine w_dget1 ?_ | with_reducible refine w_dget2 ?_ | with_reducible refine w_rev ?_ | ((with_reducible refine w_tru ?_ ?_); exact rfl)))
    refine ⟨i, _, rfl, hl, ?_⟩
    (repeat (first | ((with_reducible refine w_var ?_); refine ⟨_, rfl, ?_⟩) | with_reducible refine z_set ?_ | with_reducible refine z_setT ?_ | with_reducible refine z_par ?_ | with_reducible refine z_fld ?_ | with_reducible refine z_sub ?_ | with_reducible refine z_exp ?_ | with_reducible refine z_ret ?_ | with_reducible refine z_retN ?_ | with_reducible refine z_ite ?_ | with_reducible refine z_whl ?_ | with_reducible refine z_for ?_ | with_reducible refine z_pass ?_ | with_reducible refine z_brk ?_ | with_reducible refine z_cnt ?_ | with_reducible refine z_nil ?_ | with_reducible refine z_par3 ?_ | with_reducible refine z_sub2 ?_ | with_reducible refine z_sub3 ?_ | with_reducible refine z_raiF ?_ | with_reducible refine z_rai ?_ | with_reducible refine z_try1 ?_ | with_reducible refine w_bin ?_ | with_reducible refine w_int ?_ | with_reducible refine w_str ?_ | with_reducible refine w_blc ?_ | with_reducible refine w_non ?_ | with_reducible refine w_bty ?_ | with_reducible refine w_neg ?_ | with_reducible refine w_cmp ?_ | with_reducible refine w_chn ?_ | with_reducible refine w_and ?_ | with_reducible refine w_or ?_ | with_reducible refine w_not ?_ | with_reducible refine w_ite ?_ | with_reducible refine w_fld ?_ | with_reducible refine w_ix ?_ | with_reducible refine w_sl ?_ | with_reducible refine w_no ?_ | with_reducible refine w_so ?_ | with_reducible refine w_nil ?_ | with_reducible refine w_cons ?_ | with_reducible refine w_tup ?_ | with_reducible refine w_lst ?_ | with_reducible refine w_cal ?_ | with_reducible refine w_mk ?_ | with_reducible refine w_mth ?_ | with_reducible refine w_bi ?_ | with_reducible refine w_bm ?_ | with_reducible refine w_lc ?_ | with_reducible refine w_iex ?_ | with_reducible refine w_rng1 ?_ | with_reducible refine w_rng2 ?_ | with_reducible refine w_enum ?_ | with_reducible refine w_T0 ?_ | with_reducible refine w_T1 ?_ | with_reducible refine w_add ?_ | with_reducible refine w_sub ?_ | with_reducible refine w_dctK ?_ | with_reducible refine w_dget1 ?_ | with_reducible refine w_dget2 ?_ | with_reducible refine w_rev ?_ | ((with_reducible refine w_tru ?_ ?_); exact rfl)))
    refine ix_loc hl (by rfl) ?_
    refine ⟨_, _, rfl, ?_⟩
    (repeat (first | ((with_reducible refine w_var ?_); refine ⟨_, rfl, ?_⟩) | with_reducible refine z_set ?_ | with_reducible refine z_setT ?_ | with_reducible refine z_par ?_ | with_reducible refine z_fld ?_ | with_reducible refine z_sub ?_ | with_reducible refine z_exp ?_ | with_reducible refine z_ret ?_ | with_reducible refine z_retN ?_ | with_reducible refine z_ite ?_ | with_reducible refine z_whl ?_ | with_reducible refine z_for ?_ | with_reducible refine z_pass ?_ | with_reducible refine z_brk ?_ | with_reducible refine z_cnt ?_ | with_reducible refine z_nil ?_ | with_reducible refine z_par3 ?_ | with_reducible refine z_sub2 ?_ | with_reducible refine z_sub3 ?_ | with_reducible refine z_raiF ?_ | with_reducible refine z_rai ?_ | with_reducible refine z_try1 ?_ | with_reducible refine w_bin ?_ | with_reducible refine w_int ?_ | with_reducible refine w_str ?_ | with_reducible refine w_blc ?_ | with_reducible refine w_non ?_ | with_reducible refine w_bty ?_ | with_reducible refine w_neg ?_ | with_reducible refine w_cmp ?_ | with_reducible refine w_chn ?_ | with_reducible refine w_and ?_ | with_reducible refine w_or ?_ | with_reducible refine w_not ?_ | with_reducible refine w_ite ?_ | with_reducible refine w_fld ?_ | with_reducible refine w_ix ?_ | with_reducible refine w_sl ?_ | with_reducible refine w_no ?_ | with_reducible refine w_so ?_ | with_reducible refine w_nil ?_ | with_reducible refine w_cons ?_ | with_reducible refine w_tup ?_ | with_reducible refine w_lst ?_ | with_reducible refine w_cal ?_ | with_reducible refine w_mk ?_ | with_reducible refine w_mth ?_ | with_reducible refine w_bi ?_ | with_reducible refine w_bm ?_ | with_reducible refine w_lc ?_ | with_reducible refine w_iex ?_ | with_reducible refine w_rng1 ?_ | with_reducible refine w_rng2 ?_ | with_reducible refine w_enum ?_ | with_reducible refine w_T0 ?_ | with_reducible refine w_T1 ?_ | with_reducible refine w_add ?_ | with_reducible refine w_sub ?_ | with_reducible refine w_dctK ?_ | with_reducible refine w_dget1 ?_ | with_reducible refine w_dget2 ?_ | with_reducible refine w_rev ?_ | ((with_reducible refine w_tru ?_ ?_); exact rfl)))
    refine w_mod (by omega) ?_
    (repeat (first | ((with_reducible refine w_var ?_); refine ⟨_, rfl, ?_⟩) | with_reducible refine z_set ?_ | with_reducible refine z_setT ?_ | with_reducible refine z_par ?_ | with_reducible refine z_fld ?_ | with_reducible refine z_sub ?_ | with_reducible refine z_exp ?_ | with_reducible refine z_ret ?_ | with_reducible refine z_retN ?_ | with_reducible refine z_ite ?_ | with_reducible refine z_whl ?_ | with_reducible refine z_for ?_ | with_reducible refine z_pass ?_ | with_reducible refine z_brk ?_ | with_reducible refine z_cnt ?_ | with_reducible refine z_nil ?_ | with_reducible refine z_par3 ?_ | with_reducible refine z_sub2 ?_ | with_reducible refine z_sub3 ?_ | with_reducible refine z_raiF ?_ | with_reducible refine z_rai ?_ | with_reducible refine z_try1 ?_ | with_reducible refine w_bin ?_ | with_reducible refine w_int ?_ | with_reducible refine w_str ?_ | with_reducible refine w_blc ?_ | with_reducible refine w_non ?_ | with_reducible refine w_bty ?_ | with_reducible refine w_neg ?_ | with_reducible refine w_cmp ?_ | with_reducible refine w_chn ?_ | with_reducible refine w_and ?_ | with_reducible refine w_or ?_ | with_reducible refine w_not ?_ | with_reducible refine w_ite ?_ | with_reducible refine w_fld ?_ | with_reducible refine w_ix ?_ | with_reducible refine w_sl ?_ | with_reducible refine w_no ?_ | with_reducible refine w_so ?_ | with_reducible refine w_nil ?_ | with_reducible refine w_cons ?_ | with_reducible refine w_tup ?_ | with_reducible refine w_lst ?_ | with_reducible refine w_cal ?_ | with_reducible refine w_mk ?_ | with_reducible refine w_mth ?_ | with_reducible refine w_bi ?_ | with_reducible refine w_bm ?_ | with_reducible refine w_lc ?_ | with_reducible refine w_iex ?_ | with_reducible refine w_rng1 ?_ | with_reducible refine w_rng2 ?_ | with_reducible refine w_enum ?_ | with_reducible refine w_T0 ?_ | with_reducible refine w_T1 ?_ | with_reducible refine w_add ?_ | with_reducible refine w_sub ?_ | with_reducible refine w_dctK ?_ | with_reducible refine w_dget1 ?_ | with_reducible refine w_dget2 ?_ | with_reducible refine w_rev ?_ | ((with_reducible refine w_tru ?_ ?_); exact rfl)))
    refine ⟨sz (by simp), ?_⟩
    refine ⟨.non, (S ++ [Cell.lst [D.int (n % 2147483647), D.int 0]]).set i (Cell.lst [D.int n, D.int (n % 2147483647), D.int 0]), by simp [bmSem, get_pushl hl]; decide, ?_⟩
    obtain ⟨S3, hS3⟩ : ∃ S3 : Sto, S3 = (S ++ [Cell.lst [D.int (n % 2147483647), D.int 0]]).set i (Cell.lst [D.int n, D.int (n % 2147483647), D.int 0]) := ⟨_, rfl⟩
    rw [← hS3]
    have h3 : S3[i]? = some (.lst [.int n, .int (n % 2147483647), .int 0]) := by rw [hS3]; exact get_set (by simp; omega)
    have f3 : DI.Fr [i] S S3 := by rw [hS3]; exact DI.Fr.setr DI.Fr.push (.inl (by simp))
    (repeat (first | ((with_reducible refine w_var ?_); refine ⟨_, rfl, ?_⟩) | with_reducible refine z_set ?_ | with_reducible refine z_setT ?_ | with_reducible refine z_par ?_ | with_reducible refine z_fld ?_ | with_reducible refine z_sub ?_ | with_reducible refine z_exp ?_ | with_reducible refine z_ret ?_ | with_reducible refine z_retN ?_ | with_reducible refine z_ite ?_ | with_reducible refine z_whl ?_ | with_reducible refine z_for ?_ | with_reducible refine z_pass ?_ | with_reducible refine z_brk ?_ | with_reducible refine z_cnt ?_ | with_reducible refine z_nil ?_ | with_reducible refine z_par3 ?_ | with_reducible refine z_sub2 ?_ | with_reducible refine z_sub3 ?_ | with_reducible refine z_raiF ?_ | with_reducible refine z_rai ?_ | with_reducible refine z_try1 ?_ | with_reducible refine w_bin ?_ | with_reducible refine w_int ?_ | with_reducible refine w_str ?_ | with_reducible refine w_blc ?_ | with_reducible refine w_non ?_ | with_reducible refine w_bty ?_ | with_reducible refine w_neg ?_ | with_reducible refine w_cmp ?_ | with_reducible refine w_chn ?_ | with_reducible refine w_and ?_ | with_reducible refine w_or ?_ | with_reducible refine w_not ?_ | with_reducible refine w_ite ?_ | with_reducible refine w_fld ?_ | with_reducible refine w_ix ?_ | with_reducible refine w_sl ?_ | with_reducible refine w_no ?_ | with_reducible refine w_so ?_ | with_reducible refine w_nil ?_ | with_reducible refine w_cons ?_ | with_reducible refine w_tup ?_ | with_reducible refine w_lst ?_ | with_reducible refine w_cal ?_ | with_reducible refine w_mk ?_ | with_reducible refine w_mth ?_ | with_reducible refine w_bi ?_ | with_reducible refine w_bm ?_ | with_reducible refine w_lc ?_ | with_reducible refine w_iex ?_ | with_reducible refine w_rng1 ?_ | with_reducible refine w_rng2 ?_ | with_reducible refine w_enum ?_ | with_reducible refine w_T0 ?_ | with_reducible refine w_T1 ?_ | with_reducible refine w_add ?_ | with_reducible refine w_sub ?_ | with_reducible refine w_dctK ?_ | with_reducible refine w_dget1 ?_ | with_reducible refine w_dget2 ?_ | with_reducible refine w_rev ?_ | ((with_reducible refine w_tru ?_ ?_); exact rfl)))
    refine ix_loc h3 (by rfl) ?_
    refine ⟨sz (by simp), ?_⟩
    (repeat (first | ((with_reducible refine w_var ?_); refine ⟨_, rfl, ?_⟩) | with_reducible refine z_set ?_ | with_reducible refine z_setT ?_ | with_reducible refine z_par ?_ | with_reducible refine z_fld ?_ | with_reducible refine z_sub ?_ | with_reducible refine z_exp ?_ | with_reducible refine z_ret ?_ | with_reducible refine z_retN ?_ | with_reducible refine z_ite ?_ | with_reducible refine z_whl ?_ | with_reducible refine z_for ?_ | with_reducible refine z_pass ?_ | with_reducible refine z_brk ?_ | with_reducible refine z_cnt ?_ | with_reducible refine z_nil ?_ | with_reducible refine z_par3 ?_ | with_reducible refine z_sub2 ?_ | with_reducible refine z_sub3 ?_ | with_reducible refine z_raiF ?_ | with_reducible refine z_rai ?_ | with_reducible refine z_try1 ?_ | with_reducible refine w_bin ?_ | with_reducible refine w_int ?_ | with_reducible refine w_str ?_ | with_reducible refine w_blc ?_ | with_reducible refine w_non ?_ | with_reducible refine w_bty ?_ | with_reducible refine w_neg ?_ | with_reducible refine w_cmp ?_ | with_reducible refine w_chn ?_ | with_reducible refine w_and ?_ | with_reducible refine w_or ?_ | with_reducible refine w_not ?_ | with_reducible refine w_ite ?_ | with_reducible refine w_fld ?_ | with_reducible refine w_ix ?_ | with_reducible refine w_sl ?_ | with_reducible refine w_no ?_ | with_reducible refine w_so ?_ | with_reducible refine w_nil ?_ | with_reducible refine w_cons ?_ | with_reducible refine w_tup ?_ | with_reducible refine w_lst ?_ | with_reducible refine w_cal ?_ | with_reducible refine w_mk ?_ | with_reducible refine w_mth ?_ | with_reducible refine w_bi ?_ | with_reducible refine w_bm ?_ | with_reducible refine w_lc ?_ | with_reducible refine w_iex ?_ | with_reducible refine w_rng1 ?_ | with_reducible refine w_rng2 ?_ | with_reducible refine w_enum ?_ | with_reducible refine w_T0 ?_ | with_reducible refine w_T1 ?_ | with_reducible refine w_add ?_ | with_reducible refine w_sub ?_ | with_reducible refine w_dctK ?_ | with_reducible refine w_dget1 ?_ | with_reducible refine w_dget2 ?_ | with_reducible refine w_rev ?_ | ((with_reducible refine w_tru ?_ ?_); exact rfl)))
    refine ix_loc (get_pushl h3) (by rfl) ?_
    (repeat (first | ((with_reducible refine w_var ?_); refine ⟨_, rfl, ?_⟩) | with_reducible refine z_set ?_ | with_reducible refine z_setT ?_ | with_reducible refine z_par ?_ | with_reducible refine z_fld ?_ | with_reducible refine z_sub ?_ | with_reducible refine z_exp ?_ | with_reducible refine z_ret ?_ | with_reducible refine z_retN ?_ | with_reducible refine z_ite ?_ | with_reducible refine z_whl ?_ | with_reducible refine z_for ?_ | with_reducible refine z_pass ?_ | with_reducible refine z_brk ?_ | with_reducible refine z_cnt ?_ | with_reducible refine z_nil ?_ | with_reducible refine z_par3 ?_ | with_reducible refine z_sub2 ?_ | with_reducible refine z_sub3 ?_ | with_reducible refine z_raiF ?_ | with_reducible refine z_rai ?_ | with_reducible refine z_try1 ?_ | with_reducible refine w_bin ?_ | with_reducible refine w_int ?_ | with_reducible refine w_str ?_ | with_reducible refine w_blc ?_ | with_reducible refine w_non ?_ | with_reducible refine w_bty ?_ | with_reducible refine w_neg ?_ | with_reducible refine w_cmp ?_ | with_reducible refine w_chn ?_ | with_reducible refine w_and ?_ | with_reducible refine w_or ?_ | with_reducible refine w_not ?_ | with_reducible refine w_ite ?_ | with_reducible refine w_fld ?_ | with_reducible refine w_ix ?_ | with_reducible refine w_sl ?_ | with_reducible refine w_no ?_ | with_reducible refine w_so ?_ | with_reducible refine w_nil ?_ | with_reducible refine w_cons ?_ | with_reducible refine w_tup ?_ | with_reducible refine w_lst ?_ | with_reducible refine w_cal ?_ | with_reducible refine w_mk ?_ | with_reducible refine w_mth ?_ | with_reducible refine w_bi ?_ | with_reducible refine w_bm ?_ | with_reducible refine w_lc ?_ | with_reducible refine w_iex ?_ | with_reducible refine w_rng1 ?_ | with_reducible refine w_rng2 ?_ | with_reducible refine w_enum ?_ | with_reducible refine w_T0 ?_ | with_reducible refine w_T1 ?_ | with_reducible refine w_add ?_ | with_reducible refine w_sub ?_ | with_reducible refine w_dctK ?_ | with_reducible refine w_dget1 ?_ | with_reducible refine w_dget2 ?_ | with_reducible refine w_rev ?_ | ((with_reducible refine w_tru ?_ ?_); exact rfl)))
    refine w_pow (by decide) ?_
    refine ⟨_, rfl, ?_⟩
    refine ⟨_, _, rfl, ?_⟩
    have f4 : DI.Fr [i] S (S3 ++ [Cell.lst [D.int 0, D.int n]]) := f3.pushr
    refine ⟨.int (if decide ((10 : Int) ^ (18 : Int).toNat ≤ n) = true then n else 0), ?_, ?_⟩
    · cases decide ((10 : Int) ^ (18 : Int).toNat ≤ n) <;> simp [itemSem, get_push] <;> rfl
    (repeat (first | ((with_reducible refine w_var ?_); refine ⟨_, rfl, ?_⟩) | with_reducible refine z_set ?_ | with_reducible refine z_setT ?_ | with_reducible refine z_par ?_ | with_reducible refine z_fld ?_ | with_reducible refine z_sub ?_ | with_reducible refine z_exp ?_ | with_reducible refine z_ret ?_ | with_reducible refine z_retN ?_ | with_reducible refine z_ite ?_ | with_reducible refine z_whl ?_ | with_reducible refine z_for ?_ | with_reducible refine z_pass ?_ | with_reducible refine z_brk ?_ | with_reducible refine z_cnt ?_ | with_reducible refine z_nil ?_ | with_reducible refine z_par3 ?_ | with_reducible refine z_sub2 ?_ | with_reducible refine z_sub3 ?_ | with_reducible refine z_raiF ?_ | with_reducible refine z_rai ?_ | with_reducible refine z_try1 ?_ | with_reducible refine w_bin ?_ | with_reducible refine w_int ?_ | with_reducible refine w_str ?_ | with_reducible refine w_blc ?_ | with_reducible refine w_non ?_ | with_reducible refine w_bty ?_ | with_reducible refine w_neg ?_ | with_reducible refine w_cmp ?_ | with_reducible refine w_chn ?_ | with_reducible refine w_and ?_ | with_reducible refine w_or ?_ | with_reducible refine w_not ?_ | with_reducible refine w_ite ?_ | with_reducible refine w_fld ?_ | with_reducible refine w_ix ?_ | with_reducible refine w_sl ?_ | with_reducible refine w_no ?_ | with_reducible refine w_so ?_ | with_reducible refine w_nil ?_ | with_reducible refine w_cons ?_ | with_reducible refine w_tup ?_ | with_reducible refine w_lst ?_ | with_reducible refine w_cal ?_ | with_reducible refine w_mk ?_ | with_reducible refine w_mth ?_ | with_reducible refine w_bi ?_ | with_reducible refine w_bm ?_ | with_reducible refine w_lc ?_ | with_reducible refine w_iex ?_ | with_reducible refine w_rng1 ?_ | with_reducible refine w_rng2 ?_ | with_reducible refine w_enum ?_ | with_reducible refine w_T0 ?_ | with_reducible refine w_T1 ?_ | with_reducible refine w_add ?_ | with_reducible refine w_sub ?_ | with_reducible refine w_dctK ?_ | with_reducible refine w_dget1 ?_ | with_reducible refine w_dget2 ?_ | with_reducible refine w_rev ?_ | ((with_reducible refine w_tru ?_ ?_); exact rfl)))
    refine set_loc (get_pushl h3) (by rfl) ?_
    (repeat (first | ((with_reducible refine w_var ?_); refine ⟨_, rfl, ?_⟩) | with_reducible refine z_set ?_ | with_reducible refine z_setT ?_ | with_reducible refine z_par ?_ | with_reducible refine z_fld ?_ | with_reducible refine z_sub ?_ | with_reducible refine z_exp ?_ | with_reducible refine z_ret ?_ | with_reducible refine z_retN ?_ | with_reducible refine z_ite ?_ | with_reducible refine z_whl ?_ | with_reducible refine z_for ?_ | with_reducible refine z_pass ?_ | with_reducible refine z_brk ?_ | with_reducible refine z_cnt ?_ | with_reducible refine z_nil ?_ | with_reducible refine z_par3 ?_ | with_reducible refine z_sub2 ?_ | with_reducible refine z_sub3 ?_ | with_reducible refine z_raiF ?_ | with_reducible refine z_rai ?_ | with_reducible refine z_try1 ?_ | with_reducible refine w_bin ?_ | with_reducible refine w_int ?_ | with_reducible refine w_str ?_ | with_reducible refine w_blc ?_ | with_reducible refine w_non ?_ | with_reducible refine w_bty ?_ | with_reducible refine w_neg ?_ | with_reducible refine w_cmp ?_ | with_reducible refine w_chn ?_ | with_reducible refine w_and ?_ | with_reducible refine w_or ?_ | with_reducible refine w_not ?_ | with_reducible refine w_ite ?_ | with_reducible refine w_fld ?_ | with_reducible refine w_ix ?_ | with_reducible refine w_sl ?_ | with_reducible refine w_no ?_ | with_reducible refine w_so ?_ | with_reducible refine w_nil ?_ | with_reducible refine w_cons ?_ | with_reducible refine w_tup ?_ | with_reducible refine w_lst ?_ | with_reducible refine w_cal ?_ | with_reducible refine w_mk ?_ | with_reducible refine w_mth ?_ | with_reducible refine w_bi ?_ | with_reducible refine w_bm ?_ | with_reducible refine w_lc ?_ | with_reducible refine w_iex ?_ | with_reducible refine w_rng1 ?_ | with_reducible refine w_rng2 ?_ | with_reducible refine w_enum ?_ | with_reducible refine w_T0 ?_ | with_reducible refine w_T1 ?_ | with_reducible refine w_add ?_ | with_reducible refine w_sub ?_ | with_reducible refine w_dctK ?_ | with_reducible refine w_dget1 ?_ | with_reducible refine w_dget2 ?_ | with_reducible refine w_rev ?_ | ((with_reducible refine w_tru ?_ ?_); exact rfl)))
    exact fin _ _ _ _ (get_set (by simp; have := lt_of h3; omega)) (f4.setr (.inl (by simp)))
  · refine ⟨.int 3, S, by simp [biSem, hl], ?_⟩
    (repeat (first | ((with_reducible refine w_var ?_); refine ⟨_, rfl, ?_⟩) | with_reducible refine z_set ?_ | with_reducible refine z_setT ?_ | with_reducible refine z_par ?_ | with_reducible refine z_fld ?_ | with_reducible refine z_sub ?_ | with_reducible refine z_exp ?_ | with_reducible refine z_ret ?_ | with_reducible refine z_retN ?_ | with_reducible refine z_ite ?_ | with_reducible refine z_whl ?_ | with_reducible refine z_for ?_ | with_reducible refine z_pass ?_ | with_reducible refine z_brk ?_ | with_reducible refine z_cnt ?_ | with_reducible refine z_nil ?_ | with_reducible refine z_par3 ?_ | with_reducible refine z_sub2 ?_ | with_reducible refine z_sub3 ?_ | with_reducible refine z_raiF ?_ | with_reducible refine z_rai ?_ | with_reducible refine z_try1 ?_ | with_reducible refine w_bin ?_ | with_reducible refine w_int ?_ | with_reducible refine w_str ?_ | with_reducible refine w_blc ?_ | with_reducible refine w_non ?_ | with_reducible refine w_bty ?_ | with_reducible refine w_neg ?_ | with_reducible refine w_cmp ?_ | with_reducible refine w_chn ?_ | with_reducible refine w_and ?_ | with_reducible refine w_or ?_ | with_reducible refine w_not ?_ | with_reducible refine w_ite ?_ | with_reducible refine w_fld ?_ | with_reducible refine w_ix ?_ | with_reducible refine w_sl ?_ | with_reducible refine w_no ?_ | with_reducible refine w_so ?_ | with_reducible refine w_nil ?_ | with_reducible refine w_cons ?_ | with_reducible refine w_tup ?_ | with_reducible refine w_lst ?_ | with_reducible refine w_cal ?_ | with_reducible refine w_mk ?_ | with_reducible refine w_mth ?_ | with_reducible refine w_bi ?_ | with_reducible refine w_bm ?_ | with_reducible refine w_lc ?_ | with_reducible refine w_iex ?_ | with_reducible refine w_rng1 ?_ | with_reducible refine w_rng2 ?_ | with_reducible refine w_enum ?_ | with_reducible refine w_T0 ?_ | with_reducible refine w_T1 ?_ | with_reducible refine w_add ?_ | with_reducible refine w_sub ?_ | with_reducible refine w_dctK ?_ | with_reducible refine w_dget1 ?_ | with_reducible refine w_dget2 ?_ | with_reducible refine w_rev ?_ | ((with_reducible refine w_tru ?_ ?_); exact rfl)))
    refine ⟨false, by simp [cmpSem, eqD_int], false, rfl, fun h => (by cases h), fun _ => ?_⟩
    (repeat (first | ((with_reducible refine w_var ?_); refine ⟨_, rfl, ?_⟩) | with_reducible refine z_set ?_ | with_reducible refine z_setT ?_ | with_reducible refine z_par ?_ | with_reducible refine z_fld ?_ | with_reducible refine z_sub ?_ | with_reducible refine z_exp ?_ | with_reducible refine z_ret ?_ | with_reducible refine z_retN ?_ | with_reducible refine z_ite ?_ | with_reducible refine z_whl ?_ | with_reducible refine z_for ?_ | with_reducible refine z_pass ?_ | with_reducible refine z_brk ?_ | with_reducible refine z_cnt ?_ | with_reducible refine z_nil ?_ | with_reducible refine z_par3 ?_ | with_reducible refine z_sub2 ?_ | with_reducible refine z_sub3 ?_ | with_reducible refine z_raiF ?_ | with_reducible refine z_rai ?_ | with_reducible refine z_try1 ?_ | with_reducible refine w_bin ?_ | with_reducible refine w_int ?_ | with_reducible refine w_str ?_ | with_reducible refine w_blc ?_ | with_reducible refine w_non ?_ | with_reducible refine w_bty ?_ | with_reducible refine w_neg ?_ | with_reducible refine w_cmp ?_ | with_reducible refine w_chn ?_ | with_reducible refine w_and ?_ | with_reducible refine w_or ?_ | with_reducible refine w_not ?_ | with_reducible refine w_ite ?_ | with_reducible refine w_fld ?_ | with_reducible refine w_ix ?_ | with_reducible refine w_sl ?_ | with_reducible refine w_no ?_ | with_reducible refine w_so ?_ | with_reducible refine w_nil ?_ | with_reducible refine w_cons ?_ | with_reducible refine w_tup ?_ | with_reducible refine w_lst ?_ | with_reducible refine w_cal ?_ | with_reducible refine w_mk ?_ | with_reducible refine w_mth ?_ | with_reducible refine w_bi ?_ | with_reducible refine w_bm ?_ | with_reducible refine w_lc ?_ | with_reducible refine w_iex ?_ | with_reducible refine w_rng1 ?_ | with_reducible refine w_rng2 ?_ | with_reducible refine w_enum ?_ | with_reducible refine w_T0 ?_ | with_reducible refine w_T1 ?_ | with_reducible refine w_add ?_ | with_reducible refine w_sub ?_ | with_reducible refine w_dctK ?_ | with_reducible refine w_dget1 ?_ | with_reducible refine w_dget2 ?_ | with_reducible refine w_rev ?_ | ((with_reducible refine w_tru ?_ ?_); exact rfl)))
    exact fin S a b c hl .refl

end K29

set_option Elab.async false
set_option linter.all false
set_option maxRecDepth 100000
set_option maxHeartbeats 4000000
namespace K29
open L2 DI PySem PySem.Spec PyProof.Rows
/-! ### the strip -/
def sd (s : Bool) : Str := if s then "left" else "right"
theorem eq_sd (s s' : Bool) {S : Sto} : eqSem (.str (sd s)) (.str (sd s')) S = some (s == s') := by
  obtain ⟨t, h1, h2⟩ := eq_pl (S := S) (x := .str (sd s)) (y := .str (sd s')) (by cases s <;> decide +kernel) (by cases s' <;> decide +kernel)
  rw [h1]
  congr 1
  rw [Bool.eq_iff_iff, h2]
  cases s <;> cases s' <;> simp [sd] <;> decide
theorem cq_sd (s s' : Bool) {S : Sto} : cmpSem .Eq (.str (sd s)) (.str (sd s')) S = some (s == s') := eq_sd s s' (S := S)
structure Rw where
  s : Bool
  x : Int
  y : Int
  r : Int
  b : Int
  deriving DecidableEq
def Rw.d (q : Rw) : D := .tup [.str (sd q.s), .int q.x, .int q.y, .int q.r, .int q.b]
def Sp (S : Sto) (o l : Nat) (R : List Rw) : Prop := S[o]? = some (.ins 0 [(("rows" : Str), .loc l)]) ∧ S[l]? = some (.lst (R.map Rw.d))
theorem Sp.fr {S S' : Sto} {o l : Nat} {R : List Rw} {B : List Nat} (h : Sp S o l R) (f : DI.Fr B S S') (h1 : o ∉ B) (h2 : l ∉ B) : Sp S' o l R := ⟨f.get h.1 h1, f.get h.2 h2⟩
theorem Sp.push {S : Sto} {o l : Nat} {R : List Rw} {c : Cell} (h : Sp S o l R) : Sp (S ++ [c]) o l R := ⟨get_pushl h.1, get_pushl h.2⟩
theorem Sp.fld {S : Sto} {o l : Nat} {R : List Rw} (h : Sp S o l R) : fldSem (.loc o) 0 "rows" S = some (.loc l) := by
  simp only [fldSem, h.1, if_true]
  rfl
theorem Sp.walk {S : Sto} {o l : Nat} {R : List Rw} (h : Sp S o l R) : walkOf (.loc l) S = some (.li l) := by
  simp only [walkOf, h.2]
theorem Sp.wlen {S : Sto} {o l : Nat} {R : List Rw} (h : Sp S o l R) : wlen (.li l) S = (R.map Rw.d).length := by
  simp only [DI.wlen, h.2]
/-- the items at k (an int) of the rows of a side that reach below y -/
def pick (s : Bool) (g : Rw → Int) (R : List Rw) (y : Int) : List Int := R.filterMap fun r => if r.s = s ∧ y < r.b then some (g r) else none
def pickD (s : Bool) (g : Rw → Int) (y : Int) : D → Option D
  | .tup [.str z, .int x, .int t, .int r, .int b] => if (decide (z = sd s) && decide (y < b)) = true then some (.int (g ⟨s, x, t, r, b⟩)) else none
  | _ => none
theorem pick_map (s : Bool) (g : Rw → Int) (R : List Rw) (y : Int) : (R.map Rw.d).filterMap (pickD s g y) = (pick s g R y).map D.int := by
  unfold pick
  rw [List.filterMap_map, List.map_filterMap]
  congr 1
  funext ⟨s', x, t, r, b⟩
  by_cases h : s' = s
  · subst h
    by_cases h2 : y < b <;> simp [pickD, Rw.d, h2]
  · have : ¬ sd s' = sd s := fun e => h (by revert e; cases s' <;> cases s <;> simp [sd] <;> decide)
    simp [pickD, Rw.d, h, this]
def leftsP (R : List Rw) (st y : Int) : Int := (pick true Rw.r R y).foldl max st
def rightsP (R : List Rw) (en y : Int) : Int := (pick false Rw.x R y).foldl min en
/-- the comprehension of the three: row[k] for row in self.rows if row[0] == side and row[4] > y -/
theorem lc_pick {C : Nat → List D → Sto → Out D} {S : Sto} {o l v vy vo : Nat} {R : List Rw} (h : Sp S o l R) (hR : R.length ≤ 1000000) {σ : Sl} {s : Bool} {z : Str} {k y : Int} {g : Rw → Int} (hz : z = sd s) (hg : ∀ q : Rw, atI [D.str (sd q.s), D.int q.x, .int q.y, .int q.r, .int q.b] k = some (.int (g q)))
    (hv : v < σ.length) (hy : σ[vy]? = some (some (.int y))) (hvy : vy ≠ v) (ho : σ[vo]? = some (some (.loc o))) {nm : Str} {Q : D → Sto → Prop} (hQ : Q (.loc S.length) (S ++ [.lst ((pick s g R y).map D.int)])) :
    W (de P0 C (.lc [(nm, v)] (.nm v) (.ex (.fld 0 (.var vo) ("rows" : Str))) (.cons (.and_ (.cmp .Eq (.ix (.var v) (.cst (.int 0))) (.cst (.str z))) (.cmp .Gt (.ix (.var v) (.cst (.int 4))) (.var vy))) .nil) (.ix (.var v) (.cst (.int k)))) false σ S) Q := by
  subst hz
  refine w_lc (w_iex (w_fld (w_var ⟨_, ho, _, h.fld, _, h.walk, ?_⟩)))
  rw [h.wlen]
  refine W_mono (lcLoop_pure (pickD s g y) (li_walk h.2) (by simpa using hR) ?_) ?_
  · intro d hd acc
    obtain ⟨q, hq, rfl⟩ := List.mem_map.mp hd
    refine ⟨_, rfl, ?_⟩
    have e1 : ((wipeD σ (List.map (fun x => x.2) [(nm, v)])).set v (some q.d))[v]? = some (some q.d) := by
      simp [wipeD, hv]
    have e2 : ((wipeD σ (List.map (fun x => x.2) [(nm, v)])).set v (some q.d))[vy]? = some (some (.int y)) := by
      simp only [wipeD, List.map_cons, List.map_nil]
      rw [List.getElem?_set_ne (Ne.symm hvy), List.getElem?_set_ne (Ne.symm hvy)]
      exact hy
    generalize ((wipeD σ (List.map (fun x => x.2) [(nm, v)])).set v (some q.d)) = σ' at e1 e2
    refine w_T1 (w_and (w_cmp (w_ix (w_var ⟨_, e1, w_int ⟨_, rfl, w_str ⟨_, cq_sd q.s s, _, rfl, fun hs => ?_, fun hs => ?_⟩⟩⟩))))
    · refine w_cmp (w_ix (w_var ⟨_, e1, w_int ⟨_, rfl, w_var ⟨_, e2, _, rfl, _, rfl, rfl, fun hy => ?_, fun hy => ?_⟩⟩⟩))
      · refine w_ix (w_var ⟨_, e1, w_int ⟨.int (g q), hg q, rfl, ?_⟩⟩)
        have : q.s = s := by simpa using hs
        have h2 : y < q.b := of_decide_eq_true hy
        simp [pickD, Rw.d, this, h2]
        rw [← this]
      · have h2 : ¬ y < q.b := of_decide_eq_false hy
        simp [pickD, Rw.d, h2]
    · refine ⟨_, rfl, rfl, fun h => (by rw [hs] at h; cases h), fun _ => ?_⟩
      have : ¬ q.s = s := by simpa using hs
      have : ¬ sd q.s = sd s := fun e => this (by revert e; cases q.s <;> cases s <;> simp [sd] <;> decide)
      simp [pickD, Rw.d, this]
  · rintro u S' rfl
    rw [pick_map]
    exact hQ
theorem lefts {d o l : Nat} {S : Sto} {R : List Rw} {st y : Int} (h : Sp S o l R) (hR : R.length ≤ 1000000) {Q : D → Sto → Prop} (hQ : ∀ S', DI.Fr [] S S' → Q (.int (leftsP R st y)) S') : W (calls P0 fs (d + 1) 8 [.loc o, .int st, .int y] S) Q := by
  refine W_call (f := d_Strip_lefts) rfl rfl ?_
  show WS (dSs P0 _ t_Strip_lefts [some (.loc o), some (.int st), some (.int y), none] S) _
  unfold t_Strip_lefts
  refine z_ret (w_bi (w_cons (w_bin (w_lst (w_cons (w_var ⟨_, rfl, w_nil ⟨sz (by simp), ?_⟩⟩))))))
  refine lc_pick (s := true) (g := Rw.r) h.push hR rfl (fun _ => rfl) (by simp) rfl (by decide) rfl ?_
  refine w_addL (xs := [.int st]) (ys := (pick true Rw.r R y).map D.int) (get_pushl get_push) get_push (Nat.le_trans ?_ (by decide : 1000001 ≤ sizeLine)) ?_
  · have := List.length_filterMap_le (fun r : Rw => if r.s = true ∧ y < r.b then some (Rw.r r) else none) R
    simp only [List.length_map, pick, List.length_singleton]
    omega
  · exact w_nil ⟨_, _, bi_max1 get_push, hQ _ DI.Fr.push.pushr.pushr⟩
theorem rights {d o l : Nat} {S : Sto} {R : List Rw} {en y : Int} (h : Sp S o l R) (hR : R.length ≤ 1000000) {Q : D → Sto → Prop} (hQ : ∀ S', DI.Fr [] S S' → Q (.int (rightsP R en y)) S') : W (calls P0 fs (d + 1) 9 [.loc o, .int en, .int y] S) Q := by
  refine W_call (f := d_Strip_rights) rfl rfl ?_
  show WS (dSs P0 _ t_Strip_rights [some (.loc o), some (.int en), some (.int y), none] S) _
  unfold t_Strip_rights
  refine z_ret (w_bi (w_cons (w_bin (w_lst (w_cons (w_var ⟨_, rfl, w_nil ⟨sz (by simp), ?_⟩⟩))))))
  refine lc_pick (s := false) (g := Rw.x) h.push hR rfl (fun _ => rfl) (by simp) rfl (by decide) rfl ?_
  refine w_addL (xs := [.int en]) (ys := (pick false Rw.x R y).map D.int) (get_pushl get_push) get_push (Nat.le_trans ?_ (by decide : 1000001 ≤ sizeLine)) ?_
  · have := List.length_filterMap_le (fun r : Rw => if r.s = false ∧ y < r.b then some (Rw.x r) else none) R
    simp only [List.length_map, pick, List.length_singleton]
    omega
  · exact w_nil ⟨_, _, bi_min1 get_push, hQ _ DI.Fr.push.pushr.pushr⟩
def spotP (R : List Rw) (s : Bool) (st en w y : Int) : Option Int :=
  if s = true then (if ((!(leftsP R st y == st) && decide (en < leftsP R st y + w)) || (!(pick false Rw.x R y).isEmpty && decide ((minL (pick false Rw.x R y)).getD 0 < leftsP R st y + w))) = true then none else some (leftsP R st y))
  else (if ((!(rightsP R en y == en) && decide (rightsP R en y - w < st)) || (!(pick true Rw.r R y).isEmpty && decide (rightsP R en y - w < (maxL (pick true Rw.r R y)).getD 0))) = true then none else some (rightsP R en y - w))
def optD : Option Int → D
  | none => .non
  | some i => .int i
theorem minL_ne {l : List Int} (h : l ≠ []) : minL l = some ((minL l).getD 0) := by cases l with | nil => exact absurd rfl h | cons => rfl
theorem maxL_ne {l : List Int} (h : l ≠ []) : maxL l = some ((maxL l).getD 0) := by cases l with | nil => exact absurd rfl h | cons => rfl
theorem bi_minL {S : Sto} {a : Nat} {l : List Int} (h : S[a]? = some (.lst (l.map D.int))) (hn : l ≠ []) : biSem .min1 [.loc a] S = some (.int ((minL l).getD 0), S) := by
  simp only [biSem, listD, h, intsD_map, Option.bind]
  rw [minL_ne hn]
  rfl
theorem bi_maxL {S : Sto} {a : Nat} {l : List Int} (h : S[a]? = some (.lst (l.map D.int))) (hn : l ≠ []) : biSem .max1 [.loc a] S = some (.int ((maxL l).getD 0), S) := by
  simp only [biSem, listD, h, intsD_map, Option.bind]
  rw [maxL_ne hn]
  rfl
theorem tru_lst {S : Sto} {a : Nat} {l : List Int} (h : S[a]? = some (.lst (l.map D.int))) : truSem (.loc a) S = some (!l.isEmpty) := by
  simp only [truSem, h]
  cases l <;> rfl
theorem spot {d o l : Nat} {S : Sto} {R : List Rw} {s : Bool} {st en w y : Int} (h : Sp S o l R) (hR : R.length ≤ 1000000) {Q : D → Sto → Prop} (hQ : ∀ S', DI.Fr [] S S' → Q (optD (spotP R s st en w y)) S') : W (calls P0 fs (d + 2) 10 [.loc o, .str (sd s), .int st, .int en, .int w, .int y] S) Q := by
  refine W_call (f := d_Strip_spot) rfl rfl ?_
  show WS (dSs P0 _ t_Strip_spot [some (.loc o), some (.str (sd s)), some (.int st), some (.int en), some (.int w), some (.int y), none, none, none, none] S) _
  unfold t_Strip_spot
  refine z_par (w_mth (w_var ⟨_, rfl, _, _, rfl, h.1, rfl, w_cons (w_var ⟨_, rfl, w_cons (w_var ⟨_, rfl, w_nil (lefts h hR fun S1 f1 => ?_)⟩)⟩)⟩))
  have h1 := h.fr f1 (by simp) (by simp)
  refine w_mth (w_var ⟨_, rfl, _, _, rfl, h1.1, rfl, w_cons (w_var ⟨_, rfl, w_cons (w_var ⟨_, rfl, w_nil (rights h1 hR fun S2 f2 => ?_)⟩)⟩)⟩)
  have h2 := h1.fr f2 (by simp) (by simp)
  have f3 := f1.trans f2
  simp only [List.set_cons_succ, List.set_cons_zero]
  refine z_iteT (p := (s == true)) (T_cmp (V_var rfl) V_str (cq_sd s true)) (fun hs => ?_) (fun hs => ?_)
  · have hs : s = true := by simpa using hs
    subst hs
    unfold t_Strip_spot_3
    refine z_set (lc_pick (s := false) (g := Rw.x) h2 hR rfl (fun _ => rfl) (by simp) rfl (by decide) rfl ?_)
    simp only [List.set_cons_succ, List.set_cons_zero]
    have e : (S2 ++ [Cell.lst ((pick false Rw.x R y).map D.int)])[S2.length]? = some (.lst ((pick false Rw.x R y).map D.int)) := get_push
    have hq : ∀ v, spotP R true st en w y = v → Q (optD v) (S2 ++ [Cell.lst ((pick false Rw.x R y).map D.int)]) := fun v ev => by rw [← ev]; exact hQ _ f3.pushr
    refine z_iteT (p := ((!(leftsP R st y == st) && decide (en < leftsP R st y + w)) || (!(pick false Rw.x R y).isEmpty && decide ((minL (pick false Rw.x R y)).getD 0 < leftsP R st y + w)))) (T_or (T_and (T_cmp (V_var rfl) (V_var rfl) (by simp [cmpSem, eqD_int])) fun _ => T_cmp (V_bin (V_var rfl) (V_var rfl) rfl) (V_var rfl) rfl) fun _ => T_and (T_tru rfl (V_var rfl) (tru_lst e)) fun hn => T_cmp (V_bin (V_var rfl) (V_var rfl) rfl) (V_bi1 (V_var rfl) (bi_minL e (by intro q; rw [q] at hn; cases hn))) rfl) (fun ht => ?_) (fun ht => ?_)
    · unfold t_Strip_spot_1
      exact z_ret (w_non (hq none (by unfold spotP; rw [if_pos rfl, if_pos ht])))
    · refine z_nil ?_
      dsimp only
      unfold t_Strip_spot_2
      refine z_ret (w_var ⟨_, rfl, ?_⟩)
      exact hq (some _) (by unfold spotP; rw [if_pos rfl, if_neg (by rw [ht]; simp)])
  · have hs : s = false := by simpa using hs
    subst hs
    refine z_nil ?_
    unfold t_Strip_spot_6
    refine z_set (lc_pick (s := true) (g := Rw.r) h2 hR rfl (fun _ => rfl) (by simp) rfl (by decide) rfl ?_)
    simp only [List.set_cons_succ, List.set_cons_zero]
    have e : (S2 ++ [Cell.lst ((pick true Rw.r R y).map D.int)])[S2.length]? = some (.lst ((pick true Rw.r R y).map D.int)) := get_push
    have hq : ∀ v, spotP R false st en w y = v → Q (optD v) (S2 ++ [Cell.lst ((pick true Rw.r R y).map D.int)]) := fun v ev => by rw [← ev]; exact hQ _ f3.pushr
    refine z_iteT (p := ((!(rightsP R en y == en) && decide (rightsP R en y - w < st)) || (!(pick true Rw.r R y).isEmpty && decide (rightsP R en y - w < (maxL (pick true Rw.r R y)).getD 0)))) (T_or (T_and (T_cmp (V_var rfl) (V_var rfl) (by simp [cmpSem, eqD_int])) fun _ => T_cmp (V_bin (V_var rfl) (V_var rfl) rfl) (V_var rfl) rfl) fun _ => T_and (T_tru rfl (V_var rfl) (tru_lst e)) fun hn => T_cmp (V_bin (V_var rfl) (V_var rfl) rfl) (V_bi1 (V_var rfl) (bi_maxL e (by intro q; rw [q] at hn; cases hn))) rfl) (fun ht => ?_) (fun ht => ?_)
    · unfold t_Strip_spot_4
      exact z_ret (w_non (hq none (by unfold spotP; rw [if_neg (by decide), if_pos ht])))
    · refine z_nil ?_
      dsimp only
      unfold t_Strip_spot_5
      refine z_ret (V_use (V_bin (V_var rfl) (V_var rfl) rfl) ?_)
      exact hq (some _) (by unfold spotP; rw [if_neg (by decide), if_neg (by rw [ht]; simp)])
def botP (R : List Rw) (y : Int) : List Int := R.filterMap fun r => if y < r.b then some r.b else none
def belowP (R : List Rw) (y : Int) : Option Int := minL (botP R y)
theorem below {d o l : Nat} {S : Sto} {R : List Rw} {y : Int} (h : Sp S o l R) (hR : R.length ≤ 1000000) {Q : D → Sto → Prop} (hQ : ∀ S', DI.Fr [] S S' → Q (optD (belowP R y)) S') : W (calls P0 fs (d + 1) 11 [.loc o, .int y] S) Q := by
  refine W_call (f := d_Strip_below) rfl rfl ?_
  show WS (dSs P0 _ t_Strip_below [some (.loc o), some (.int y), none, none] S) _
  unfold t_Strip_below
  refine z_set (w_lc (w_iex (w_fld (w_var ⟨_, rfl, _, h.fld, _, h.walk, ?_⟩))))
  rw [h.wlen]
  refine W_mono (lcLoop_pure (fun d => match d with | .tup [_, _, _, _, .int b] => if y < b then some (.int b) else none | _ => none) (li_walk h.2) (by simpa using hR) ?_) ?_
  · intro d hd acc
    obtain ⟨q, hq, rfl⟩ := List.mem_map.mp hd
    refine ⟨_, rfl, ?_⟩
    refine w_T1 (T_use (T_cmp (V_ix (V_var rfl) V_int rfl) (V_var rfl) rfl) ⟨_, rfl, rfl, fun ht => ?_, fun ht => ?_⟩)
    · refine V_use (V_ix (V_var rfl) V_int rfl) ⟨rfl, ?_⟩
      have h2 : y < q.b := of_decide_eq_true ht
      simp [Rw.d, h2]
    · have h2 : ¬ y < q.b := of_decide_eq_false ht
      simp [Rw.d, h2]
  · rintro u S' rfl
    have em : (R.map Rw.d).filterMap (fun d => match d with | .tup [_, _, _, _, .int b] => if y < b then some (.int b) else none | _ => none) = (botP R y).map D.int := by
      unfold botP
      rw [List.filterMap_map, List.map_filterMap]
      congr 1
      funext q
      by_cases h2 : y < q.b <;> simp [Rw.d, h2]
    rw [em]
    have e : (S ++ [Cell.lst ((botP R y).map D.int)])[S.length]? = some (.lst ((botP R y).map D.int)) := get_push
    simp only [List.set_cons_succ, List.set_cons_zero]
    refine z_ret (w_iteT (T_tru rfl (V_var rfl) (tru_lst e)) (fun ht => ?_) (fun ht => ?_))
    · have hne : botP R y ≠ [] := by intro q; rw [q] at ht; cases ht
      refine V_use (V_bi1 (V_var rfl) (bi_minL e hne)) ?_
      have := hQ _ (DI.Fr.push (S := S) (c := Cell.lst ((botP R y).map D.int)))
      unfold belowP at this
      rw [minL_ne hne] at this
      exact this
    · have hne : botP R y = [] := by cases hb : botP R y with | nil => rfl | cons a b => rw [hb] at ht; cases ht
      refine w_non ?_
      have := hQ _ (DI.Fr.push (S := S) (c := Cell.lst ((botP R y).map D.int)))
      unfold belowP at this
      rw [hne] at this ⊢
      exact this
/-- where a float comes to: the walk down -/
inductive Go (R : List Rw) (s : Bool) (st en w : Int) : Int → Int → Int → Prop
  | stop {y x : Int} : spotP R s st en w y = some x → Go R s st en w y x y
  | step {y y' x z : Int} : spotP R s st en w y = none → belowP R y = some y' → Go R s st en w y' x z → Go R s st en w y x z
theorem Go.det {R : List Rw} {s : Bool} {st en w y x z x' z' : Int} (a : Go R s st en w y x z) : Go R s st en w y x' z' → x = x' ∧ z = z' := by
  induction a with
  | stop h =>
    intro b
    cases b with
    | stop h2 => rw [h] at h2; cases h2; exact ⟨rfl, rfl⟩
    | step h2 => rw [h] at h2; cases h2
  | step h hb _ ih =>
    intro b
    cases b with
    | stop h2 => rw [h] at h2; cases h2
    | step h2 hb2 g => rw [hb] at hb2; cases hb2; exact ih g
def cnt (R : List Rw) (y : Int) : Nat := R.countP fun r => decide (y < r.b)
theorem cnt_lt {R : List Rw} {y y' : Int} (hy : y < y') {r : Rw} (hr : r ∈ R) (h1 : y < r.b) (h2 : r.b ≤ y') : cnt R y' < cnt R y := by
  unfold cnt
  induction R with
  | nil => cases hr
  | cons q R ih =>
    have mono : R.countP (fun r => decide (y' < r.b)) ≤ R.countP (fun r => decide (y < r.b)) := List.countP_mono_left fun r _ h => by
      have := of_decide_eq_true h
      exact decide_eq_true (by omega)
    rw [List.countP_cons, List.countP_cons]
    rcases List.mem_cons.mp hr with rfl | hr
    · have e1 : decide (y' < r.b) = false := decide_eq_false (by omega)
      have e2 : decide (y < r.b) = true := decide_eq_true h1
      rw [e1, e2]
      simp
      omega
    · have := ih hr
      by_cases c : y' < q.b
      · have : y < q.b := by omega
        simp [c, this]; omega
      · simp [c]; omega
theorem below_some {R : List Rw} {y : Int} (h : ∃ r ∈ R, y < r.b) : ∃ y', belowP R y = some y' ∧ cnt R y' < cnt R y := by
  obtain ⟨r, hr, hb⟩ := h
  have hm : r.b ∈ botP R y := List.mem_filterMap.mpr ⟨r, hr, by simp [hb]⟩
  have hne : botP R y ≠ [] := fun e => by rw [e] at hm; cases hm
  refine ⟨(minL (botP R y)).getD 0, minL_ne hne, ?_⟩
  have hin : (minL (botP R y)).getD 0 ∈ botP R y := by
    cases e : botP R y with
    | nil => exact absurd e hne
    | cons i l =>
      show l.foldl min i ∈ i :: l
      rcases (foldl_min l i).2.2 with h3 | h3
      · rw [h3]; simp
      · exact List.mem_cons_of_mem _ h3
  obtain ⟨q, hq, e⟩ := List.mem_filterMap.mp hin
  by_cases c : y < q.b
  · rw [if_pos c] at e
    have e : q.b = (minL (botP R y)).getD 0 := Option.some.inj e
    exact cnt_lt (by omega) hq c (by omega)
  · rw [if_neg c] at e; cases e
theorem pick_ex {s : Bool} {g : Rw → Int} {R : List Rw} {y : Int} (h : pick s g R y ≠ []) : ∃ r ∈ R, y < r.b := by
  obtain ⟨i, hi⟩ := List.exists_mem_of_ne_nil _ h
  obtain ⟨r, hr, e⟩ := List.mem_filterMap.mp hi
  by_cases c : r.s = s ∧ y < r.b
  · exact ⟨r, hr, c.2⟩
  · rw [if_neg c] at e; cases e
theorem spot_none {R : List Rw} {s : Bool} {st en w y : Int} (h : spotP R s st en w y = none) : ∃ r ∈ R, y < r.b := by
  apply Classical.byContradiction
  intro hn
  have e1 : pick true Rw.r R y = [] := Classical.byContradiction fun q => hn (pick_ex q)
  have e2 : pick false Rw.x R y = [] := Classical.byContradiction fun q => hn (pick_ex q)
  unfold spotP leftsP rightsP at h
  rw [e1, e2] at h
  cases s <;> simp at h
theorem Go.ex (R : List Rw) (s : Bool) (st en w : Int) : ∀ (n : Nat) (y : Int), cnt R y ≤ n → ∃ x z, Go R s st en w y x z := by
  intro n
  induction n with
  | zero =>
    intro y h
    cases e : spotP R s st en w y with
    | some x => exact ⟨x, y, .stop e⟩
    | none =>
      obtain ⟨y', _, h2⟩ := below_some (spot_none e)
      omega
  | succ n ih =>
    intro y h
    cases e : spotP R s st en w y with
    | some x => exact ⟨x, y, .stop e⟩
    | none =>
      obtain ⟨y', h1, h2⟩ := below_some (spot_none e)
      obtain ⟨x, z, g⟩ := ih y' (by omega)
      exact ⟨x, z, .step e h1 g⟩
structure Ask where
  s : Bool
  st : Int
  en : Int
  w : Int
  h : Int
  t : Int
  deriving DecidableEq
def top0 (R : List Rw) (t : Int) : Int := (R.map Rw.y).foldl max t
open Classical in
noncomputable def placeP (R : List Rw) (a : Ask) : Rw :=
  let e := Go.ex R a.s a.st a.en (max 0 a.w) (cnt R (top0 R a.t)) (top0 R a.t) (Nat.le_refl _)
  let x := choose e
  let z := choose (choose_spec e)
  ⟨a.s, x, z, x + max 0 a.w, z + max 0 a.h⟩
theorem placeP_of {R : List Rw} {a : Ask} {x z : Int} (g : Go R a.s a.st a.en (max 0 a.w) (top0 R a.t) x z) : placeP R a = ⟨a.s, x, z, x + max 0 a.w, z + max 0 a.h⟩ := by
  have e := Go.ex R a.s a.st a.en (max 0 a.w) (cnt R (top0 R a.t)) (top0 R a.t) (Nat.le_refl _)
  have g2 := Classical.choose_spec (Classical.choose_spec e)
  obtain ⟨h1, h2⟩ := g.det g2
  have f : ∀ x' z', x = x' → z = z' → (⟨a.s, x', z', x' + max 0 a.w, z' + max 0 a.h⟩ : Rw) = ⟨a.s, x, z, x + max 0 a.w, z + max 0 a.h⟩ := by rintro _ _ rfl rfl; rfl
  exact f _ _ h1 h2
def askL (a : Ask) : List D := [.str (sd a.s), .int a.st, .int a.en, .int a.w, .int a.h, .int a.t]
theorem Sp.ne {S : Sto} {o l : Nat} {R : List Rw} (h : Sp S o l R) : o ≠ l := by
  rintro rfl
  have := h.1.symm.trans h.2
  cases this
theorem place {d o l : Nat} {S : Sto} {R : List Rw} {a : Ask} (h : Sp S o l R) (hR : R.length < 1000000) {Q : D → Sto → Prop} (hQ : ∀ S', DI.Fr [l] S S' → Sp S' o l (R ++ [placeP R a]) → Q (placeP R a).d S') : W (calls P0 fs (d + 3) 12 (.loc o :: askL a) S) Q := by
  refine W_call (f := d_Strip_place) rfl rfl ?_
  obtain ⟨s, st, en, w, hh, t⟩ := a
  show WS (dSs P0 _ t_Strip_place [some (.loc o), some (.str (sd s)), some (.int st), some (.int en), some (.int w), some (.int hh), some (.int t), none, none, none, none, none] S) _
  unfold t_Strip_place
  have hin : inSem (.str (sd s)) (.tup [.str "left", .str "right"]) S = some true := by cases s <;> rfl
  refine z_iteT (p := false) (T_cast (q := false) (T_or (p := false) (q := false) (T_cast (T_not (T_tru (p := true) rfl (V_bi2 (z := .bl true) (V_var rfl) V_bty rfl) rfl)) rfl) fun _ => T_cmp (y := .tup [.str "left", .str "right"]) (V_var rfl) (w_tup (w_cons (w_str (w_cons (w_str (w_nil ⟨sz (by decide), rfl, rfl⟩)))))) (by simp only [cmpSem, hin]; rfl)) rfl) (fun h => by cases h) fun _ => ?_
  refine z_nil ?_
  dsimp only
  unfold t_Strip_place_4
  refine z_par (V_use (V_bi2 V_int (V_var rfl) rfl) (V_use (V_bi2 V_int (V_var rfl) rfl) ?_))
  refine z_set (w_bi (w_cons (w_bin (w_lst (w_cons (w_var ⟨_, rfl, w_nil ⟨sz (by simp), ?_⟩⟩))))))
  have h1 : Sp (S ++ [Cell.lst [D.int t]]) o l R := h.push
  refine w_lc (w_iex (w_fld (w_var ⟨_, rfl, _, h1.fld, _, h1.walk, ?_⟩)))
  rw [h1.wlen]
  refine W_mono (lcLoop_pure (fun d => match d with | .tup [_, _, y, _, _] => some y | _ => none) (li_walk h1.2) (by simpa using Nat.le_of_lt hR) ?_) ?_
  · intro d hd acc
    obtain ⟨q, hq, rfl⟩ := List.mem_map.mp hd
    exact ⟨_, rfl, w_T0 ⟨rfl, fun _ => V_use (V_ix (V_var rfl) V_int rfl) ⟨rfl, rfl⟩, fun h => by cases h⟩⟩
  rintro u S2 rfl
  have em : (R.map Rw.d).filterMap (fun d => match d with | .tup [_, _, y, _, _] => some y | _ => none) = (R.map Rw.y).map D.int := by
    rw [List.filterMap_map, List.map_map]
    show R.filterMap (fun r => some (D.int r.y)) = _
    rw [List.filterMap_eq_map']
    rfl
  rw [em]
  refine w_addL (xs := [.int t]) (ys := (R.map Rw.y).map D.int) (get_pushl get_push) get_push (Nat.le_trans ?_ (by decide : 1000001 ≤ sizeLine)) ?_
  · simp only [List.length_map, List.length_singleton]
    omega
  refine w_nil ⟨_, _, bi_max1 get_push, ?_⟩
  have h3 := (h1.push (c := Cell.lst ((R.map Rw.y).map D.int))).push (c := Cell.lst ([D.int t] ++ (R.map Rw.y).map D.int))
  have f3 : DI.Fr [] S (((S ++ [Cell.lst [D.int t]]) ++ [Cell.lst ((R.map Rw.y).map D.int)]) ++ [Cell.lst ([D.int t] ++ (R.map Rw.y).map D.int)]) := DI.Fr.push.pushr.pushr
  generalize (((S ++ [Cell.lst [D.int t]]) ++ [Cell.lst ((R.map Rw.y).map D.int)]) ++ [Cell.lst ([D.int t] ++ (R.map Rw.y).map D.int)]) = S3 at h3 f3
  simp only [List.set_cons_succ, List.set_cons_zero]
  refine z_set (w_mth (w_var ⟨_, rfl, _, _, rfl, h3.1, rfl, w_cons (w_var ⟨_, rfl, w_cons (w_var ⟨_, rfl, w_cons (w_var ⟨_, rfl, w_cons (w_var ⟨_, rfl, w_cons (w_var ⟨_, rfl, w_nil (spot h3 (Nat.le_of_lt hR) fun S4 f4 => ?_)⟩)⟩)⟩)⟩)⟩)⟩))
  have h4 := h3.fr f4 (by simp) (by simp)
  have f5 := f3.trans f4
  simp only [List.set_cons_succ, List.set_cons_zero]
  obtain ⟨x, z, g⟩ := Go.ex R s st en (max 0 w) (cnt R (top0 R t)) (top0 R t) (Nat.le_refl _)
  have ep : placeP R ⟨s, st, en, w, hh, t⟩ = ⟨s, x, z, x + max 0 w, z + max 0 hh⟩ := placeP_of g
  rw [ep] at hQ
  refine z_whl (WS_whl (fun n σ' S' => ∃ y, n = cnt R y ∧ Go R s st en (max 0 w) y x z ∧ Sp S' o l R ∧ DI.Fr [] S S' ∧ σ' = [some (D.loc o), some (D.str (sd s)), some (D.int st), some (D.int en), some (D.int w), some (D.int hh), some (D.int t), some (D.int (max 0 w)), some (D.int (max 0 hh)), some (D.int y), some (optD (spotP R s st en (max 0 w) y)), none]) ⟨_, rfl, g, h4, f5, rfl⟩ ?_)
  rintro n σ' S' ⟨y, rfl, gy, hy, fy, rfl⟩
  rw [W_tst]
  refine T_use (p := (spotP R s st en (max 0 w) y).isNone) (T_cmp (V_var rfl) V_non (by cases spotP R s st en (max 0 w) y <;> rfl)) ?_
  cases e : spotP R s st en (max 0 w) y with
  | none =>
    show if true = true then _ else _
    rw [if_pos rfl]
    unfold t_Strip_place_2
    obtain ⟨y', hb, hc⟩ := below_some (spot_none e)
    refine z_set (w_mth (w_var ⟨_, rfl, _, _, rfl, hy.1, rfl, w_cons (w_var ⟨_, rfl, w_nil (below hy (Nat.le_of_lt hR) fun S6 f6 => ?_)⟩)⟩))
    have h6 := hy.fr f6 (by simp) (by simp)
    rw [hb]
    simp only [List.set_cons_succ, List.set_cons_zero]
    refine z_set (w_mth (w_var ⟨_, rfl, _, _, rfl, h6.1, rfl, w_cons (w_var ⟨_, rfl, w_cons (w_var ⟨_, rfl, w_cons (w_var ⟨_, rfl, w_cons (w_var ⟨_, rfl, w_cons (w_var ⟨_, rfl, w_nil (spot h6 (Nat.le_of_lt hR) fun S7 f7 => ?_)⟩)⟩)⟩)⟩)⟩)⟩))
    have h7 := h6.fr f7 (by simp) (by simp)
    simp only [List.set_cons_succ, List.set_cons_zero]
    refine z_nil ⟨_, hc, y', rfl, ?_, h7, (fy.trans f6).trans f7, rfl⟩
    cases gy with
    | stop h2 => rw [e] at h2; cases h2
    | step h2 hb2 g2 => rw [hb] at hb2; cases hb2; exact g2
  | some x' =>
    show if false = true then _ else _
    rw [if_neg (by decide)]
    have exz : x = x' ∧ z = y := by
      cases gy with
      | stop h2 => rw [e] at h2; cases h2; exact ⟨rfl, rfl⟩
      | step h2 => rw [e] at h2; cases h2
    obtain ⟨rfl, rfl⟩ := exz
    dsimp only
    unfold t_Strip_place_3
    refine z_exp (w_bm (w_fld (w_var ⟨_, rfl, _, hy.fld, l, _, rfl, hy.2, ?_⟩)))
    refine w_cons (w_tup (w_cons (w_var ⟨_, rfl, w_cons (w_var ⟨_, rfl, w_cons (w_var ⟨_, rfl, ?_⟩)⟩)⟩)))
    refine w_cons (V_use (V_bin (V_var rfl) (V_var rfl) rfl) (w_cons (V_use (V_bin (V_var rfl) (V_var rfl) rfl) (w_nil ⟨sz (by simp), w_nil ?_⟩))))
    refine ⟨.non, S'.set l (.lst ((R ++ [Rw.mk s x z (x + max 0 w) (z + max 0 hh)]).map Rw.d)), ?_, ?_⟩
    · simp only [bmSem, hy.2]
      rw [if_pos (by simp only [List.length_map]; exact Nat.lt_of_lt_of_le hR (by decide)), List.map_append]
      rfl
    · have h8 : Sp (S'.set l (.lst ((R ++ [Rw.mk s x z (x + max 0 w) (z + max 0 hh)]).map Rw.d))) o l (R ++ [Rw.mk s x z (x + max 0 w) (z + max 0 hh)]) := ⟨by rw [get_setn (Ne.symm hy.ne)]; exact hy.1, get_set (lt_of hy.2)⟩
      refine z_ret (V_use (V_ix (z := Rw.d (Rw.mk s x z (x + max 0 w) (z + max 0 hh))) (V_fld (V_var rfl) h8.fld) (V_neg V_int) ?_) ?_)
      · simp only [itemSem, h8.2]
        unfold atI
        have e2 : ixN (List.map Rw.d (R ++ [Rw.mk s x z (x + max 0 w) (z + max 0 hh)])).length (-1) = some R.length := by
          unfold ixN
          simp
          omega
        rw [e2]
        simp
      · exact hQ _ ((fy.sub (by simp)).setr (.inl (by simp))) h8
end K29

set_option Elab.async false
set_option linter.all false
set_option maxRecDepth 100000
set_option maxHeartbeats 4000000
namespace K29
open L2 DI PySem PySem.Spec PyProof.Rows
theorem one {d i a : Nat} {S : Sto} {xs : List D} (h : St S i) (ha : S[a]? = some (.lst xs)) (hia : a ≠ i) (h0 : 0 < xs.length) (h1 : xs.length < 1000000) {Q : D → Sto → Prop}
    (hQ : ∀ (x : D) (S' : Sto), x ∈ xs → St S' i → DI.Fr [i] S S' → Q x S') : W (calls P0 fs (d + 2) 1 [.loc i, .loc a] S) Q := by
  refine W_call (f := d_law_one) rfl rfl ?_
  show WS (dSs P0 _ t_law_one [some (.loc i), some (.loc a)] S) _
  unfold t_law_one
  refine z_ret (w_ix (w_var ⟨_, rfl, w_cal (w_cons (w_var ⟨_, rfl, w_cons (V_use (V_bi1 (V_var rfl) (z := .int xs.length) (by simp only [biSem, ha])) (w_nil ?_))⟩))⟩))
  refine digit h (by omega) (by omega) fun x S' hx hx2 h' f => ?_
  have hx' := f.get ha (by simpa using hia)
  obtain ⟨y, hy, e⟩ := atI_of hx hx2
  exact ⟨y, by simp only [itemSem, hx', e], hQ y S' (List.mem_of_getElem? hy) h' f⟩
theorem oneI {d i : Nat} {S : Sto} {xs : List D} (h : St S i) (hx : ∀ x ∈ xs, ∃ n : Int, x = .int n) (h0 : 0 < xs.length) (h1 : xs.length < 1000000) {Q : D → Sto → Prop}
    (hQ : ∀ (x : Int) (S' : Sto), St S' i → DI.Fr [i] S S' → Q (.int x) S') : W (calls P0 fs (d + 2) 1 [.loc i, .loc S.length] (S ++ [.lst xs])) Q := by
  have hl := h.lt
  refine one (h.fr (B := []) DI.Fr.push (by simp)) get_push (by omega) h0 h1 fun x S' hm h' f => ?_
  obtain ⟨n, rfl⟩ := hx x hm
  exact hQ n S' h' (DI.Fr.push.trans f)
theorem asked {d i : Nat} {S : Sto} {m : Int} (h : St S i) (h0 : 0 < m) (h1 : m ≤ 1000000) {Q : D → Sto → Prop}
    (hQ : ∀ (a : Ask) (S' : Sto), St S' i → DI.Fr [i] S S' → Q (.tup (askL a)) S') : W (calls P0 fs (d + 3) 2 [.loc i, .int m] S) Q := by
  refine W_call (f := d_law_asked) rfl rfl ?_
  show WS (dSs P0 _ t_law_asked [some (.loc i), some (.int m), none, none, none, none] S) _
  unfold t_law_asked
  (repeat (first | ((with_reducible refine w_var ?_); refine ⟨_, rfl, ?_⟩) | with_reducible refine z_set ?_ | with_reducible refine z_setT ?_ | with_reducible refine z_par ?_ | with_reducible refine z_fld ?_ | with_reducible refine z_sub ?_ | with_reducible refine z_exp ?_ | with_reducible refine z_ret ?_ | with_reducible refine z_retN ?_ | with_reducible refine z_ite ?_ | with_reducible refine z_whl ?_ | with_reducible refine z_for ?_ | with_reducible refine z_pass ?_ | with_reducible refine z_brk ?_ | with_reducible refine z_cnt ?_ | with_reducible refine z_nil ?_ | with_reducible refine z_par3 ?_ | with_reducible refine z_sub2 ?_ | with_reducible refine z_sub3 ?_ | with_reducible refine z_raiF ?_ | with_reducible refine z_rai ?_ | with_reducible refine z_try1 ?_ | with_reducible refine w_bin ?_ | with_reducible refine w_int ?_ | with_reducible refine w_str ?_ | with_reducible refine w_blc ?_ | with_reducible refine w_non ?_ | with_reducible refine w_bty ?_ | with_reducible refine w_neg ?_ | with_reducible refine w_cmp ?_ | with_reducible refine w_chn ?_ | with_reducible refine w_and ?_ | with_reducible refine w_or ?_ | with_reducible refine w_not ?_ | with_reducible refine w_ite ?_ | with_reducible refine w_fld ?_ | with_reducible refine w_ix ?_ | with_reducible refine w_sl ?_ | with_reducible refine w_no ?_ | with_reducible refine w_so ?_ | with_reducible refine w_nil ?_ | with_reducible refine w_cons ?_ | with_reducible refine w_tup ?_ | with_reducible refine w_lst ?_ | with_reducible refine w_cal ?_ | with_reducible refine w_mk ?_ | with_reducible refine w_mth ?_ | with_reducible refine w_bi ?_ | with_reducible refine w_bm ?_ | with_reducible refine w_lc ?_ | with_reducible refine w_iex ?_ | with_reducible refine w_rng1 ?_ | with_reducible refine w_rng2 ?_ | with_reducible refine w_enum ?_ | with_reducible refine w_T0 ?_ | with_reducible refine w_T1 ?_ | with_reducible refine w_add ?_ | with_reducible refine w_sub ?_ | with_reducible refine w_dctK ?_ | with_reducible refine w_dget1 ?_ | with_reducible refine w_dget2 ?_ | with_reducible refine w_rev ?_ | ((with_reducible refine w_tru ?_ ?_); exact rfl)))
  refine digit h h0 (by omega) fun x1 S1 hx1 hx1' h2 f1 => ?_
  (repeat (first | ((with_reducible refine w_var ?_); refine ⟨_, rfl, ?_⟩) | with_reducible refine z_set ?_ | with_reducible refine z_setT ?_ | with_reducible refine z_par ?_ | with_reducible refine z_fld ?_ | with_reducible refine z_sub ?_ | with_reducible refine z_exp ?_ | with_reducible refine z_ret ?_ | with_reducible refine z_retN ?_ | with_reducible refine z_ite ?_ | with_reducible refine z_whl ?_ | with_reducible refine z_for ?_ | with_reducible refine z_pass ?_ | with_reducible refine z_brk ?_ | with_reducible refine z_cnt ?_ | with_reducible refine z_nil ?_ | with_reducible refine z_par3 ?_ | with_reducible refine z_sub2 ?_ | with_reducible refine z_sub3 ?_ | with_reducible refine z_raiF ?_ | with_reducible refine z_rai ?_ | with_reducible refine z_try1 ?_ | with_reducible refine w_bin ?_ | with_reducible refine w_int ?_ | with_reducible refine w_str ?_ | with_reducible refine w_blc ?_ | with_reducible refine w_non ?_ | with_reducible refine w_bty ?_ | with_reducible refine w_neg ?_ | with_reducible refine w_cmp ?_ | with_reducible refine w_chn ?_ | with_reducible refine w_and ?_ | with_reducible refine w_or ?_ | with_reducible refine w_not ?_ | with_reducible refine w_ite ?_ | with_reducible refine w_fld ?_ | with_reducible refine w_ix ?_ | with_reducible refine w_sl ?_ | with_reducible refine w_no ?_ | with_reducible refine w_so ?_ | with_reducible refine w_nil ?_ | with_reducible refine w_cons ?_ | with_reducible refine w_tup ?_ | with_reducible refine w_lst ?_ | with_reducible refine w_cal ?_ | with_reducible refine w_mk ?_ | with_reducible refine w_mth ?_ | with_reducible refine w_bi ?_ | with_reducible refine w_bm ?_ | with_reducible refine w_lc ?_ | with_reducible refine w_iex ?_ | with_reducible refine w_rng1 ?_ | with_reducible refine w_rng2 ?_ | with_reducible refine w_enum ?_ | with_reducible refine w_T0 ?_ | with_reducible refine w_T1 ?_ | with_reducible refine w_add ?_ | with_reducible refine w_sub ?_ | with_reducible refine w_dctK ?_ | with_reducible refine w_dget1 ?_ | with_reducible refine w_dget2 ?_ | with_reducible refine w_rev ?_ | ((with_reducible refine w_tru ?_ ?_); exact rfl)))
  refine w_div (by omega) ?_
  (repeat (first | ((with_reducible refine w_var ?_); refine ⟨_, rfl, ?_⟩) | with_reducible refine z_set ?_ | with_reducible refine z_setT ?_ | with_reducible refine z_par ?_ | with_reducible refine z_fld ?_ | with_reducible refine z_sub ?_ | with_reducible refine z_exp ?_ | with_reducible refine z_ret ?_ | with_reducible refine z_retN ?_ | with_reducible refine z_ite ?_ | with_reducible refine z_whl ?_ | with_reducible refine z_for ?_ | with_reducible refine z_pass ?_ | with_reducible refine z_brk ?_ | with_reducible refine z_cnt ?_ | with_reducible refine z_nil ?_ | with_reducible refine z_par3 ?_ | with_reducible refine z_sub2 ?_ | with_reducible refine z_sub3 ?_ | with_reducible refine z_raiF ?_ | with_reducible refine z_rai ?_ | with_reducible refine z_try1 ?_ | with_reducible refine w_bin ?_ | with_reducible refine w_int ?_ | with_reducible refine w_str ?_ | with_reducible refine w_blc ?_ | with_reducible refine w_non ?_ | with_reducible refine w_bty ?_ | with_reducible refine w_neg ?_ | with_reducible refine w_cmp ?_ | with_reducible refine w_chn ?_ | with_reducible refine w_and ?_ | with_reducible refine w_or ?_ | with_reducible refine w_not ?_ | with_reducible refine w_ite ?_ | with_reducible refine w_fld ?_ | with_reducible refine w_ix ?_ | with_reducible refine w_sl ?_ | with_reducible refine w_no ?_ | with_reducible refine w_so ?_ | with_reducible refine w_nil ?_ | with_reducible refine w_cons ?_ | with_reducible refine w_tup ?_ | with_reducible refine w_lst ?_ | with_reducible refine w_cal ?_ | with_reducible refine w_mk ?_ | with_reducible refine w_mth ?_ | with_reducible refine w_bi ?_ | with_reducible refine w_bm ?_ | with_reducible refine w_lc ?_ | with_reducible refine w_iex ?_ | with_reducible refine w_rng1 ?_ | with_reducible refine w_rng2 ?_ | with_reducible refine w_enum ?_ | with_reducible refine w_T0 ?_ | with_reducible refine w_T1 ?_ | with_reducible refine w_add ?_ | with_reducible refine w_sub ?_ | with_reducible refine w_dctK ?_ | with_reducible refine w_dget1 ?_ | with_reducible refine w_dget2 ?_ | with_reducible refine w_rev ?_ | ((with_reducible refine w_tru ?_ ?_); exact rfl)))
  try simp only [List.set_cons_succ, List.set_cons_zero]
  (repeat (first | ((with_reducible refine w_var ?_); refine ⟨_, rfl, ?_⟩) | with_reducible refine z_set ?_ | with_reducible refine z_setT ?_ | with_reducible refine z_par ?_ | with_reducible refine z_fld ?_ | with_reducible refine z_sub ?_ | with_reducible refine z_exp ?_ | with_reducible refine z_ret ?_ | with_reducible refine z_retN ?_ | with_reducible refine z_ite ?_ | with_reducible refine z_whl ?_ | with_reducible refine z_for ?_ | with_reducible refine z_pass ?_ | with_reducible refine z_brk ?_ | with_reducible refine z_cnt ?_ | with_reducible refine z_nil ?_ | with_reducible refine z_par3 ?_ | with_reducible refine z_sub2 ?_ | with_reducible refine z_sub3 ?_ | with_reducible refine z_raiF ?_ | with_reducible refine z_rai ?_ | with_reducible refine z_try1 ?_ | with_reducible refine w_bin ?_ | with_reducible refine w_int ?_ | with_reducible refine w_str ?_ | with_reducible refine w_blc ?_ | with_reducible refine w_non ?_ | with_reducible refine w_bty ?_ | with_reducible refine w_neg ?_ | with_reducible refine w_cmp ?_ | with_reducible refine w_chn ?_ | with_reducible refine w_and ?_ | with_reducible refine w_or ?_ | with_reducible refine w_not ?_ | with_reducible refine w_ite ?_ | with_reducible refine w_fld ?_ | with_reducible refine w_ix ?_ | with_reducible refine w_sl ?_ | with_reducible refine w_no ?_ | with_reducible refine w_so ?_ | with_reducible refine w_nil ?_ | with_reducible refine w_cons ?_ | with_reducible refine w_tup ?_ | with_reducible refine w_lst ?_ | with_reducible refine w_cal ?_ | with_reducible refine w_mk ?_ | with_reducible refine w_mth ?_ | with_reducible refine w_bi ?_ | with_reducible refine w_bm ?_ | with_reducible refine w_lc ?_ | with_reducible refine w_iex ?_ | with_reducible refine w_rng1 ?_ | with_reducible refine w_rng2 ?_ | with_reducible refine w_enum ?_ | with_reducible refine w_T0 ?_ | with_reducible refine w_T1 ?_ | with_reducible refine w_add ?_ | with_reducible refine w_sub ?_ | with_reducible refine w_dctK ?_ | with_reducible refine w_dget1 ?_ | with_reducible refine w_dget2 ?_ | with_reducible refine w_rev ?_ | ((with_reducible refine w_tru ?_ ?_); exact rfl)))
  refine digit h2 h0 (by omega) fun x2 S2 hx2 hx2' h3 f2 => ?_
  (repeat (first | ((with_reducible refine w_var ?_); refine ⟨_, rfl, ?_⟩) | with_reducible refine z_set ?_ | with_reducible refine z_setT ?_ | with_reducible refine z_par ?_ | with_reducible refine z_fld ?_ | with_reducible refine z_sub ?_ | with_reducible refine z_exp ?_ | with_reducible refine z_ret ?_ | with_reducible refine z_retN ?_ | with_reducible refine z_ite ?_ | with_reducible refine z_whl ?_ | with_reducible refine z_for ?_ | with_reducible refine z_pass ?_ | with_reducible refine z_brk ?_ | with_reducible refine z_cnt ?_ | with_reducible refine z_nil ?_ | with_reducible refine z_par3 ?_ | with_reducible refine z_sub2 ?_ | with_reducible refine z_sub3 ?_ | with_reducible refine z_raiF ?_ | with_reducible refine z_rai ?_ | with_reducible refine z_try1 ?_ | with_reducible refine w_bin ?_ | with_reducible refine w_int ?_ | with_reducible refine w_str ?_ | with_reducible refine w_blc ?_ | with_reducible refine w_non ?_ | with_reducible refine w_bty ?_ | with_reducible refine w_neg ?_ | with_reducible refine w_cmp ?_ | with_reducible refine w_chn ?_ | with_reducible refine w_and ?_ | with_reducible refine w_or ?_ | with_reducible refine w_not ?_ | with_reducible refine w_ite ?_ | with_reducible refine w_fld ?_ | with_reducible refine w_ix ?_ | with_reducible refine w_sl ?_ | with_reducible refine w_no ?_ | with_reducible refine w_so ?_ | with_reducible refine w_nil ?_ | with_reducible refine w_cons ?_ | with_reducible refine w_tup ?_ | with_reducible refine w_lst ?_ | with_reducible refine w_cal ?_ | with_reducible refine w_mk ?_ | with_reducible refine w_mth ?_ | with_reducible refine w_bi ?_ | with_reducible refine w_bm ?_ | with_reducible refine w_lc ?_ | with_reducible refine w_iex ?_ | with_reducible refine w_rng1 ?_ | with_reducible refine w_rng2 ?_ | with_reducible refine w_enum ?_ | with_reducible refine w_T0 ?_ | with_reducible refine w_T1 ?_ | with_reducible refine w_add ?_ | with_reducible refine w_sub ?_ | with_reducible refine w_dctK ?_ | with_reducible refine w_dget1 ?_ | with_reducible refine w_dget2 ?_ | with_reducible refine w_rev ?_ | ((with_reducible refine w_tru ?_ ?_); exact rfl)))
  refine digit h3 (by omega) (by omega) fun x3 S3 hx3 hx3' h4 f3 => ?_
  (repeat (first | ((with_reducible refine w_var ?_); refine ⟨_, rfl, ?_⟩) | with_reducible refine z_set ?_ | with_reducible refine z_setT ?_ | with_reducible refine z_par ?_ | with_reducible refine z_fld ?_ | with_reducible refine z_sub ?_ | with_reducible refine z_exp ?_ | with_reducible refine z_ret ?_ | with_reducible refine z_retN ?_ | with_reducible refine z_ite ?_ | with_reducible refine z_whl ?_ | with_reducible refine z_for ?_ | with_reducible refine z_pass ?_ | with_reducible refine z_brk ?_ | with_reducible refine z_cnt ?_ | with_reducible refine z_nil ?_ | with_reducible refine z_par3 ?_ | with_reducible refine z_sub2 ?_ | with_reducible refine z_sub3 ?_ | with_reducible refine z_raiF ?_ | with_reducible refine z_rai ?_ | with_reducible refine z_try1 ?_ | with_reducible refine w_bin ?_ | with_reducible refine w_int ?_ | with_reducible refine w_str ?_ | with_reducible refine w_blc ?_ | with_reducible refine w_non ?_ | with_reducible refine w_bty ?_ | with_reducible refine w_neg ?_ | with_reducible refine w_cmp ?_ | with_reducible refine w_chn ?_ | with_reducible refine w_and ?_ | with_reducible refine w_or ?_ | with_reducible refine w_not ?_ | with_reducible refine w_ite ?_ | with_reducible refine w_fld ?_ | with_reducible refine w_ix ?_ | with_reducible refine w_sl ?_ | with_reducible refine w_no ?_ | with_reducible refine w_so ?_ | with_reducible refine w_nil ?_ | with_reducible refine w_cons ?_ | with_reducible refine w_tup ?_ | with_reducible refine w_lst ?_ | with_reducible refine w_cal ?_ | with_reducible refine w_mk ?_ | with_reducible refine w_mth ?_ | with_reducible refine w_bi ?_ | with_reducible refine w_bm ?_ | with_reducible refine w_lc ?_ | with_reducible refine w_iex ?_ | with_reducible refine w_rng1 ?_ | with_reducible refine w_rng2 ?_ | with_reducible refine w_enum ?_ | with_reducible refine w_T0 ?_ | with_reducible refine w_T1 ?_ | with_reducible refine w_add ?_ | with_reducible refine w_sub ?_ | with_reducible refine w_dctK ?_ | with_reducible refine w_dget1 ?_ | with_reducible refine w_dget2 ?_ | with_reducible refine w_rev ?_ | ((with_reducible refine w_tru ?_ ?_); exact rfl)))
  refine ⟨sz (by simp), ?_⟩
  (repeat (first | ((with_reducible refine w_var ?_); refine ⟨_, rfl, ?_⟩) | with_reducible refine z_set ?_ | with_reducible refine z_setT ?_ | with_reducible refine z_par ?_ | with_reducible refine z_fld ?_ | with_reducible refine z_sub ?_ | with_reducible refine z_exp ?_ | with_reducible refine z_ret ?_ | with_reducible refine z_retN ?_ | with_reducible refine z_ite ?_ | with_reducible refine z_whl ?_ | with_reducible refine z_for ?_ | with_reducible refine z_pass ?_ | with_reducible refine z_brk ?_ | with_reducible refine z_cnt ?_ | with_reducible refine z_nil ?_ | with_reducible refine z_par3 ?_ | with_reducible refine z_sub2 ?_ | with_reducible refine z_sub3 ?_ | with_reducible refine z_raiF ?_ | with_reducible refine z_rai ?_ | with_reducible refine z_try1 ?_ | with_reducible refine w_bin ?_ | with_reducible refine w_int ?_ | with_reducible refine w_str ?_ | with_reducible refine w_blc ?_ | with_reducible refine w_non ?_ | with_reducible refine w_bty ?_ | with_reducible refine w_neg ?_ | with_reducible refine w_cmp ?_ | with_reducible refine w_chn ?_ | with_reducible refine w_and ?_ | with_reducible refine w_or ?_ | with_reducible refine w_not ?_ | with_reducible refine w_ite ?_ | with_reducible refine w_fld ?_ | with_reducible refine w_ix ?_ | with_reducible refine w_sl ?_ | with_reducible refine w_no ?_ | with_reducible refine w_so ?_ | with_reducible refine w_nil ?_ | with_reducible refine w_cons ?_ | with_reducible refine w_tup ?_ | with_reducible refine w_lst ?_ | with_reducible refine w_cal ?_ | with_reducible refine w_mk ?_ | with_reducible refine w_mth ?_ | with_reducible refine w_bi ?_ | with_reducible refine w_bm ?_ | with_reducible refine w_lc ?_ | with_reducible refine w_iex ?_ | with_reducible refine w_rng1 ?_ | with_reducible refine w_rng2 ?_ | with_reducible refine w_enum ?_ | with_reducible refine w_T0 ?_ | with_reducible refine w_T1 ?_ | with_reducible refine w_add ?_ | with_reducible refine w_sub ?_ | with_reducible refine w_dctK ?_ | with_reducible refine w_dget1 ?_ | with_reducible refine w_dget2 ?_ | with_reducible refine w_rev ?_ | ((with_reducible refine w_tru ?_ ?_); exact rfl)))
  refine oneI h4 (by simp) (by simp) (by simp) fun x4 S4 h5 f4 => ?_
  (repeat (first | ((with_reducible refine w_var ?_); refine ⟨_, rfl, ?_⟩) | with_reducible refine z_set ?_ | with_reducible refine z_setT ?_ | with_reducible refine z_par ?_ | with_reducible refine z_fld ?_ | with_reducible refine z_sub ?_ | with_reducible refine z_exp ?_ | with_reducible refine z_ret ?_ | with_reducible refine z_retN ?_ | with_reducible refine z_ite ?_ | with_reducible refine z_whl ?_ | with_reducible refine z_for ?_ | with_reducible refine z_pass ?_ | with_reducible refine z_brk ?_ | with_reducible refine z_cnt ?_ | with_reducible refine z_nil ?_ | with_reducible refine z_par3 ?_ | with_reducible refine z_sub2 ?_ | with_reducible refine z_sub3 ?_ | with_reducible refine z_raiF ?_ | with_reducible refine z_rai ?_ | with_reducible refine z_try1 ?_ | with_reducible refine w_bin ?_ | with_reducible refine w_int ?_ | with_reducible refine w_str ?_ | with_reducible refine w_blc ?_ | with_reducible refine w_non ?_ | with_reducible refine w_bty ?_ | with_reducible refine w_neg ?_ | with_reducible refine w_cmp ?_ | with_reducible refine w_chn ?_ | with_reducible refine w_and ?_ | with_reducible refine w_or ?_ | with_reducible refine w_not ?_ | with_reducible refine w_ite ?_ | with_reducible refine w_fld ?_ | with_reducible refine w_ix ?_ | with_reducible refine w_sl ?_ | with_reducible refine w_no ?_ | with_reducible refine w_so ?_ | with_reducible refine w_nil ?_ | with_reducible refine w_cons ?_ | with_reducible refine w_tup ?_ | with_reducible refine w_lst ?_ | with_reducible refine w_cal ?_ | with_reducible refine w_mk ?_ | with_reducible refine w_mth ?_ | with_reducible refine w_bi ?_ | with_reducible refine w_bm ?_ | with_reducible refine w_lc ?_ | with_reducible refine w_iex ?_ | with_reducible refine w_rng1 ?_ | with_reducible refine w_rng2 ?_ | with_reducible refine w_enum ?_ | with_reducible refine w_T0 ?_ | with_reducible refine w_T1 ?_ | with_reducible refine w_add ?_ | with_reducible refine w_sub ?_ | with_reducible refine w_dctK ?_ | with_reducible refine w_dget1 ?_ | with_reducible refine w_dget2 ?_ | with_reducible refine w_rev ?_ | ((with_reducible refine w_tru ?_ ?_); exact rfl)))
  try simp only [List.set_cons_succ, List.set_cons_zero]
  (repeat (first | ((with_reducible refine w_var ?_); refine ⟨_, rfl, ?_⟩) | with_reducible refine z_set ?_ | with_reducible refine z_setT ?_ | with_reducible refine z_par ?_ | with_reducible refine z_fld ?_ | with_reducible refine z_sub ?_ | with_reducible refine z_exp ?_ | with_reducible refine z_ret ?_ | with_reducible refine z_retN ?_ | with_reducible refine z_ite ?_ | with_reducible refine z_whl ?_ | with_reducible refine z_for ?_ | with_reducible refine z_pass ?_ | with_reducible refine z_brk ?_ | with_reducible refine z_cnt ?_ | with_reducible refine z_nil ?_ | with_reducible refine z_par3 ?_ | with_reducible refine z_sub2 ?_ | with_reducible refine z_sub3 ?_ | with_reducible refine z_raiF ?_ | with_reducible refine z_rai ?_ | with_reducible refine z_try1 ?_ | with_reducible refine w_bin ?_ | with_reducible refine w_int ?_ | with_reducible refine w_str ?_ | with_reducible refine w_blc ?_ | with_reducible refine w_non ?_ | with_reducible refine w_bty ?_ | with_reducible refine w_neg ?_ | with_reducible refine w_cmp ?_ | with_reducible refine w_chn ?_ | with_reducible refine w_and ?_ | with_reducible refine w_or ?_ | with_reducible refine w_not ?_ | with_reducible refine w_ite ?_ | with_reducible refine w_fld ?_ | with_reducible refine w_ix ?_ | with_reducible refine w_sl ?_ | with_reducible refine w_no ?_ | with_reducible refine w_so ?_ | with_reducible refine w_nil ?_ | with_reducible refine w_cons ?_ | with_reducible refine w_tup ?_ | with_reducible refine w_lst ?_ | with_reducible refine w_cal ?_ | with_reducible refine w_mk ?_ | with_reducible refine w_mth ?_ | with_reducible refine w_bi ?_ | with_reducible refine w_bm ?_ | with_reducible refine w_lc ?_ | with_reducible refine w_iex ?_ | with_reducible refine w_rng1 ?_ | with_reducible refine w_rng2 ?_ | with_reducible refine w_enum ?_ | with_reducible refine w_T0 ?_ | with_reducible refine w_T1 ?_ | with_reducible refine w_add ?_ | with_reducible refine w_sub ?_ | with_reducible refine w_dctK ?_ | with_reducible refine w_dget1 ?_ | with_reducible refine w_dget2 ?_ | with_reducible refine w_rev ?_ | ((with_reducible refine w_tru ?_ ?_); exact rfl)))
  refine digit h5 h0 (by omega) fun x5 S5 hx5 hx5' h6 f5 => ?_
  (repeat (first | ((with_reducible refine w_var ?_); refine ⟨_, rfl, ?_⟩) | with_reducible refine z_set ?_ | with_reducible refine z_setT ?_ | with_reducible refine z_par ?_ | with_reducible refine z_fld ?_ | with_reducible refine z_sub ?_ | with_reducible refine z_exp ?_ | with_reducible refine z_ret ?_ | with_reducible refine z_retN ?_ | with_reducible refine z_ite ?_ | with_reducible refine z_whl ?_ | with_reducible refine z_for ?_ | with_reducible refine z_pass ?_ | with_reducible refine z_brk ?_ | with_reducible refine z_cnt ?_ | with_reducible refine z_nil ?_ | with_reducible refine z_par3 ?_ | with_reducible refine z_sub2 ?_ | with_reducible refine z_sub3 ?_ | with_reducible refine z_raiF ?_ | with_reducible refine z_rai ?_ | with_reducible refine z_try1 ?_ | with_reducible refine w_bin ?_ | with_reducible refine w_int ?_ | with_reducible refine w_str ?_ | with_reducible refine w_blc ?_ | with_reducible refine w_non ?_ | with_reducible refine w_bty ?_ | with_reducible refine w_neg ?_ | with_reducible refine w_cmp ?_ | with_reducible refine w_chn ?_ | with_reducible refine w_and ?_ | with_reducible refine w_or ?_ | with_reducible refine w_not ?_ | with_reducible refine w_ite ?_ | with_reducible refine w_fld ?_ | with_reducible refine w_ix ?_ | with_reducible refine w_sl ?_ | with_reducible refine w_no ?_ | with_reducible refine w_so ?_ | with_reducible refine w_nil ?_ | with_reducible refine w_cons ?_ | with_reducible refine w_tup ?_ | with_reducible refine w_lst ?_ | with_reducible refine w_cal ?_ | with_reducible refine w_mk ?_ | with_reducible refine w_mth ?_ | with_reducible refine w_bi ?_ | with_reducible refine w_bm ?_ | with_reducible refine w_lc ?_ | with_reducible refine w_iex ?_ | with_reducible refine w_rng1 ?_ | with_reducible refine w_rng2 ?_ | with_reducible refine w_enum ?_ | with_reducible refine w_T0 ?_ | with_reducible refine w_T1 ?_ | with_reducible refine w_add ?_ | with_reducible refine w_sub ?_ | with_reducible refine w_dctK ?_ | with_reducible refine w_dget1 ?_ | with_reducible refine w_dget2 ?_ | with_reducible refine w_rev ?_ | ((with_reducible refine w_tru ?_ ?_); exact rfl)))
  refine w_div (by omega) ?_
  (repeat (first | ((with_reducible refine w_var ?_); refine ⟨_, rfl, ?_⟩) | with_reducible refine z_set ?_ | with_reducible refine z_setT ?_ | with_reducible refine z_par ?_ | with_reducible refine z_fld ?_ | with_reducible refine z_sub ?_ | with_reducible refine z_exp ?_ | with_reducible refine z_ret ?_ | with_reducible refine z_retN ?_ | with_reducible refine z_ite ?_ | with_reducible refine z_whl ?_ | with_reducible refine z_for ?_ | with_reducible refine z_pass ?_ | with_reducible refine z_brk ?_ | with_reducible refine z_cnt ?_ | with_reducible refine z_nil ?_ | with_reducible refine z_par3 ?_ | with_reducible refine z_sub2 ?_ | with_reducible refine z_sub3 ?_ | with_reducible refine z_raiF ?_ | with_reducible refine z_rai ?_ | with_reducible refine z_try1 ?_ | with_reducible refine w_bin ?_ | with_reducible refine w_int ?_ | with_reducible refine w_str ?_ | with_reducible refine w_blc ?_ | with_reducible refine w_non ?_ | with_reducible refine w_bty ?_ | with_reducible refine w_neg ?_ | with_reducible refine w_cmp ?_ | with_reducible refine w_chn ?_ | with_reducible refine w_and ?_ | with_reducible refine w_or ?_ | with_reducible refine w_not ?_ | with_reducible refine w_ite ?_ | with_reducible refine w_fld ?_ | with_reducible refine w_ix ?_ | with_reducible refine w_sl ?_ | with_reducible refine w_no ?_ | with_reducible refine w_so ?_ | with_reducible refine w_nil ?_ | with_reducible refine w_cons ?_ | with_reducible refine w_tup ?_ | with_reducible refine w_lst ?_ | with_reducible refine w_cal ?_ | with_reducible refine w_mk ?_ | with_reducible refine w_mth ?_ | with_reducible refine w_bi ?_ | with_reducible refine w_bm ?_ | with_reducible refine w_lc ?_ | with_reducible refine w_iex ?_ | with_reducible refine w_rng1 ?_ | with_reducible refine w_rng2 ?_ | with_reducible refine w_enum ?_ | with_reducible refine w_T0 ?_ | with_reducible refine w_T1 ?_ | with_reducible refine w_add ?_ | with_reducible refine w_sub ?_ | with_reducible refine w_dctK ?_ | with_reducible refine w_dget1 ?_ | with_reducible refine w_dget2 ?_ | with_reducible refine w_rev ?_ | ((with_reducible refine w_tru ?_ ?_); exact rfl)))
  refine digit h6 (by omega) (by omega) fun x6 S6 hx6 hx6' h7 f6 => ?_
  (repeat (first | ((with_reducible refine w_var ?_); refine ⟨_, rfl, ?_⟩) | with_reducible refine z_set ?_ | with_reducible refine z_setT ?_ | with_reducible refine z_par ?_ | with_reducible refine z_fld ?_ | with_reducible refine z_sub ?_ | with_reducible refine z_exp ?_ | with_reducible refine z_ret ?_ | with_reducible refine z_retN ?_ | with_reducible refine z_ite ?_ | with_reducible refine z_whl ?_ | with_reducible refine z_for ?_ | with_reducible refine z_pass ?_ | with_reducible refine z_brk ?_ | with_reducible refine z_cnt ?_ | with_reducible refine z_nil ?_ | with_reducible refine z_par3 ?_ | with_reducible refine z_sub2 ?_ | with_reducible refine z_sub3 ?_ | with_reducible refine z_raiF ?_ | with_reducible refine z_rai ?_ | with_reducible refine z_try1 ?_ | with_reducible refine w_bin ?_ | with_reducible refine w_int ?_ | with_reducible refine w_str ?_ | with_reducible refine w_blc ?_ | with_reducible refine w_non ?_ | with_reducible refine w_bty ?_ | with_reducible refine w_neg ?_ | with_reducible refine w_cmp ?_ | with_reducible refine w_chn ?_ | with_reducible refine w_and ?_ | with_reducible refine w_or ?_ | with_reducible refine w_not ?_ | with_reducible refine w_ite ?_ | with_reducible refine w_fld ?_ | with_reducible refine w_ix ?_ | with_reducible refine w_sl ?_ | with_reducible refine w_no ?_ | with_reducible refine w_so ?_ | with_reducible refine w_nil ?_ | with_reducible refine w_cons ?_ | with_reducible refine w_tup ?_ | with_reducible refine w_lst ?_ | with_reducible refine w_cal ?_ | with_reducible refine w_mk ?_ | with_reducible refine w_mth ?_ | with_reducible refine w_bi ?_ | with_reducible refine w_bm ?_ | with_reducible refine w_lc ?_ | with_reducible refine w_iex ?_ | with_reducible refine w_rng1 ?_ | with_reducible refine w_rng2 ?_ | with_reducible refine w_enum ?_ | with_reducible refine w_T0 ?_ | with_reducible refine w_T1 ?_ | with_reducible refine w_add ?_ | with_reducible refine w_sub ?_ | with_reducible refine w_dctK ?_ | with_reducible refine w_dget1 ?_ | with_reducible refine w_dget2 ?_ | with_reducible refine w_rev ?_ | ((with_reducible refine w_tru ?_ ?_); exact rfl)))
  refine digit h7 (by omega) (by omega) fun x7 S7 hx7 hx7' h8 f7 => ?_
  (repeat (first | ((with_reducible refine w_var ?_); refine ⟨_, rfl, ?_⟩) | with_reducible refine z_set ?_ | with_reducible refine z_setT ?_ | with_reducible refine z_par ?_ | with_reducible refine z_fld ?_ | with_reducible refine z_sub ?_ | with_reducible refine z_exp ?_ | with_reducible refine z_ret ?_ | with_reducible refine z_retN ?_ | with_reducible refine z_ite ?_ | with_reducible refine z_whl ?_ | with_reducible refine z_for ?_ | with_reducible refine z_pass ?_ | with_reducible refine z_brk ?_ | with_reducible refine z_cnt ?_ | with_reducible refine z_nil ?_ | with_reducible refine z_par3 ?_ | with_reducible refine z_sub2 ?_ | with_reducible refine z_sub3 ?_ | with_reducible refine z_raiF ?_ | with_reducible refine z_rai ?_ | with_reducible refine z_try1 ?_ | with_reducible refine w_bin ?_ | with_reducible refine w_int ?_ | with_reducible refine w_str ?_ | with_reducible refine w_blc ?_ | with_reducible refine w_non ?_ | with_reducible refine w_bty ?_ | with_reducible refine w_neg ?_ | with_reducible refine w_cmp ?_ | with_reducible refine w_chn ?_ | with_reducible refine w_and ?_ | with_reducible refine w_or ?_ | with_reducible refine w_not ?_ | with_reducible refine w_ite ?_ | with_reducible refine w_fld ?_ | with_reducible refine w_ix ?_ | with_reducible refine w_sl ?_ | with_reducible refine w_no ?_ | with_reducible refine w_so ?_ | with_reducible refine w_nil ?_ | with_reducible refine w_cons ?_ | with_reducible refine w_tup ?_ | with_reducible refine w_lst ?_ | with_reducible refine w_cal ?_ | with_reducible refine w_mk ?_ | with_reducible refine w_mth ?_ | with_reducible refine w_bi ?_ | with_reducible refine w_bm ?_ | with_reducible refine w_lc ?_ | with_reducible refine w_iex ?_ | with_reducible refine w_rng1 ?_ | with_reducible refine w_rng2 ?_ | with_reducible refine w_enum ?_ | with_reducible refine w_T0 ?_ | with_reducible refine w_T1 ?_ | with_reducible refine w_add ?_ | with_reducible refine w_sub ?_ | with_reducible refine w_dctK ?_ | with_reducible refine w_dget1 ?_ | with_reducible refine w_dget2 ?_ | with_reducible refine w_rev ?_ | ((with_reducible refine w_tru ?_ ?_); exact rfl)))
  refine ⟨sz (by simp), ?_⟩
  (repeat (first | ((with_reducible refine w_var ?_); refine ⟨_, rfl, ?_⟩) | with_reducible refine z_set ?_ | with_reducible refine z_setT ?_ | with_reducible refine z_par ?_ | with_reducible refine z_fld ?_ | with_reducible refine z_sub ?_ | with_reducible refine z_exp ?_ | with_reducible refine z_ret ?_ | with_reducible refine z_retN ?_ | with_reducible refine z_ite ?_ | with_reducible refine z_whl ?_ | with_reducible refine z_for ?_ | with_reducible refine z_pass ?_ | with_reducible refine z_brk ?_ | with_reducible refine z_cnt ?_ | with_reducible refine z_nil ?_ | with_reducible refine z_par3 ?_ | with_reducible refine z_sub2 ?_ | with_reducible refine z_sub3 ?_ | with_reducible refine z_raiF ?_ | with_reducible refine z_rai ?_ | with_reducible refine z_try1 ?_ | with_reducible refine w_bin ?_ | with_reducible refine w_int ?_ | with_reducible refine w_str ?_ | with_reducible refine w_blc ?_ | with_reducible refine w_non ?_ | with_reducible refine w_bty ?_ | with_reducible refine w_neg ?_ | with_reducible refine w_cmp ?_ | with_reducible refine w_chn ?_ | with_reducible refine w_and ?_ | with_reducible refine w_or ?_ | with_reducible refine w_not ?_ | with_reducible refine w_ite ?_ | with_reducible refine w_fld ?_ | with_reducible refine w_ix ?_ | with_reducible refine w_sl ?_ | with_reducible refine w_no ?_ | with_reducible refine w_so ?_ | with_reducible refine w_nil ?_ | with_reducible refine w_cons ?_ | with_reducible refine w_tup ?_ | with_reducible refine w_lst ?_ | with_reducible refine w_cal ?_ | with_reducible refine w_mk ?_ | with_reducible refine w_mth ?_ | with_reducible refine w_bi ?_ | with_reducible refine w_bm ?_ | with_reducible refine w_lc ?_ | with_reducible refine w_iex ?_ | with_reducible refine w_rng1 ?_ | with_reducible refine w_rng2 ?_ | with_reducible refine w_enum ?_ | with_reducible refine w_T0 ?_ | with_reducible refine w_T1 ?_ | with_reducible refine w_add ?_ | with_reducible refine w_sub ?_ | with_reducible refine w_dctK ?_ | with_reducible refine w_dget1 ?_ | with_reducible refine w_dget2 ?_ | with_reducible refine w_rev ?_ | ((with_reducible refine w_tru ?_ ?_); exact rfl)))
  refine oneI h8 (by simp) (by simp) (by simp) fun x8 S8 h9 f8 => ?_
  try simp only [List.set_cons_succ, List.set_cons_zero]
  (repeat (first | ((with_reducible refine w_var ?_); refine ⟨_, rfl, ?_⟩) | with_reducible refine z_set ?_ | with_reducible refine z_setT ?_ | with_reducible refine z_par ?_ | with_reducible refine z_fld ?_ | with_reducible refine z_sub ?_ | with_reducible refine z_exp ?_ | with_reducible refine z_ret ?_ | with_reducible refine z_retN ?_ | with_reducible refine z_ite ?_ | with_reducible refine z_whl ?_ | with_reducible refine z_for ?_ | with_reducible refine z_pass ?_ | with_reducible refine z_brk ?_ | with_reducible refine z_cnt ?_ | with_reducible refine z_nil ?_ | with_reducible refine z_par3 ?_ | with_reducible refine z_sub2 ?_ | with_reducible refine z_sub3 ?_ | with_reducible refine z_raiF ?_ | with_reducible refine z_rai ?_ | with_reducible refine z_try1 ?_ | with_reducible refine w_bin ?_ | with_reducible refine w_int ?_ | with_reducible refine w_str ?_ | with_reducible refine w_blc ?_ | with_reducible refine w_non ?_ | with_reducible refine w_bty ?_ | with_reducible refine w_neg ?_ | with_reducible refine w_cmp ?_ | with_reducible refine w_chn ?_ | with_reducible refine w_and ?_ | with_reducible refine w_or ?_ | with_reducible refine w_not ?_ | with_reducible refine w_ite ?_ | with_reducible refine w_fld ?_ | with_reducible refine w_ix ?_ | with_reducible refine w_sl ?_ | with_reducible refine w_no ?_ | with_reducible refine w_so ?_ | with_reducible refine w_nil ?_ | with_reducible refine w_cons ?_ | with_reducible refine w_tup ?_ | with_reducible refine w_lst ?_ | with_reducible refine w_cal ?_ | with_reducible refine w_mk ?_ | with_reducible refine w_mth ?_ | with_reducible refine w_bi ?_ | with_reducible refine w_bm ?_ | with_reducible refine w_lc ?_ | with_reducible refine w_iex ?_ | with_reducible refine w_rng1 ?_ | with_reducible refine w_rng2 ?_ | with_reducible refine w_enum ?_ | with_reducible refine w_T0 ?_ | with_reducible refine w_T1 ?_ | with_reducible refine w_add ?_ | with_reducible refine w_sub ?_ | with_reducible refine w_dctK ?_ | with_reducible refine w_dget1 ?_ | with_reducible refine w_dget2 ?_ | with_reducible refine w_rev ?_ | ((with_reducible refine w_tru ?_ ?_); exact rfl)))
  refine digit h9 h0 (by omega) fun y1 T1 hy1 hy1' g1 e1 => ?_
  (repeat (first | ((with_reducible refine w_var ?_); refine ⟨_, rfl, ?_⟩) | with_reducible refine z_set ?_ | with_reducible refine z_setT ?_ | with_reducible refine z_par ?_ | with_reducible refine z_fld ?_ | with_reducible refine z_sub ?_ | with_reducible refine z_exp ?_ | with_reducible refine z_ret ?_ | with_reducible refine z_retN ?_ | with_reducible refine z_ite ?_ | with_reducible refine z_whl ?_ | with_reducible refine z_for ?_ | with_reducible refine z_pass ?_ | with_reducible refine z_brk ?_ | with_reducible refine z_cnt ?_ | with_reducible refine z_nil ?_ | with_reducible refine z_par3 ?_ | with_reducible refine z_sub2 ?_ | with_reducible refine z_sub3 ?_ | with_reducible refine z_raiF ?_ | with_reducible refine z_rai ?_ | with_reducible refine z_try1 ?_ | with_reducible refine w_bin ?_ | with_reducible refine w_int ?_ | with_reducible refine w_str ?_ | with_reducible refine w_blc ?_ | with_reducible refine w_non ?_ | with_reducible refine w_bty ?_ | with_reducible refine w_neg ?_ | with_reducible refine w_cmp ?_ | with_reducible refine w_chn ?_ | with_reducible refine w_and ?_ | with_reducible refine w_or ?_ | with_reducible refine w_not ?_ | with_reducible refine w_ite ?_ | with_reducible refine w_fld ?_ | with_reducible refine w_ix ?_ | with_reducible refine w_sl ?_ | with_reducible refine w_no ?_ | with_reducible refine w_so ?_ | with_reducible refine w_nil ?_ | with_reducible refine w_cons ?_ | with_reducible refine w_tup ?_ | with_reducible refine w_lst ?_ | with_reducible refine w_cal ?_ | with_reducible refine w_mk ?_ | with_reducible refine w_mth ?_ | with_reducible refine w_bi ?_ | with_reducible refine w_bm ?_ | with_reducible refine w_lc ?_ | with_reducible refine w_iex ?_ | with_reducible refine w_rng1 ?_ | with_reducible refine w_rng2 ?_ | with_reducible refine w_enum ?_ | with_reducible refine w_T0 ?_ | with_reducible refine w_T1 ?_ | with_reducible refine w_add ?_ | with_reducible refine w_sub ?_ | with_reducible refine w_dctK ?_ | with_reducible refine w_dget1 ?_ | with_reducible refine w_dget2 ?_ | with_reducible refine w_rev ?_ | ((with_reducible refine w_tru ?_ ?_); exact rfl)))
  refine digit g1 (by omega) (by omega) fun y2 T2 hy2 hy2' g2 e2 => ?_
  (repeat (first | ((with_reducible refine w_var ?_); refine ⟨_, rfl, ?_⟩) | with_reducible refine z_set ?_ | with_reducible refine z_setT ?_ | with_reducible refine z_par ?_ | with_reducible refine z_fld ?_ | with_reducible refine z_sub ?_ | with_reducible refine z_exp ?_ | with_reducible refine z_ret ?_ | with_reducible refine z_retN ?_ | with_reducible refine z_ite ?_ | with_reducible refine z_whl ?_ | with_reducible refine z_for ?_ | with_reducible refine z_pass ?_ | with_reducible refine z_brk ?_ | with_reducible refine z_cnt ?_ | with_reducible refine z_nil ?_ | with_reducible refine z_par3 ?_ | with_reducible refine z_sub2 ?_ | with_reducible refine z_sub3 ?_ | with_reducible refine z_raiF ?_ | with_reducible refine z_rai ?_ | with_reducible refine z_try1 ?_ | with_reducible refine w_bin ?_ | with_reducible refine w_int ?_ | with_reducible refine w_str ?_ | with_reducible refine w_blc ?_ | with_reducible refine w_non ?_ | with_reducible refine w_bty ?_ | with_reducible refine w_neg ?_ | with_reducible refine w_cmp ?_ | with_reducible refine w_chn ?_ | with_reducible refine w_and ?_ | with_reducible refine w_or ?_ | with_reducible refine w_not ?_ | with_reducible refine w_ite ?_ | with_reducible refine w_fld ?_ | with_reducible refine w_ix ?_ | with_reducible refine w_sl ?_ | with_reducible refine w_no ?_ | with_reducible refine w_so ?_ | with_reducible refine w_nil ?_ | with_reducible refine w_cons ?_ | with_reducible refine w_tup ?_ | with_reducible refine w_lst ?_ | with_reducible refine w_cal ?_ | with_reducible refine w_mk ?_ | with_reducible refine w_mth ?_ | with_reducible refine w_bi ?_ | with_reducible refine w_bm ?_ | with_reducible refine w_lc ?_ | with_reducible refine w_iex ?_ | with_reducible refine w_rng1 ?_ | with_reducible refine w_rng2 ?_ | with_reducible refine w_enum ?_ | with_reducible refine w_T0 ?_ | with_reducible refine w_T1 ?_ | with_reducible refine w_add ?_ | with_reducible refine w_sub ?_ | with_reducible refine w_dctK ?_ | with_reducible refine w_dget1 ?_ | with_reducible refine w_dget2 ?_ | with_reducible refine w_rev ?_ | ((with_reducible refine w_tru ?_ ?_); exact rfl)))
  refine digit g2 (by omega) (by omega) fun y3 T3 hy3 hy3' g3 e3 => ?_
  (repeat (first | ((with_reducible refine w_var ?_); refine ⟨_, rfl, ?_⟩) | with_reducible refine z_set ?_ | with_reducible refine z_setT ?_ | with_reducible refine z_par ?_ | with_reducible refine z_fld ?_ | with_reducible refine z_sub ?_ | with_reducible refine z_exp ?_ | with_reducible refine z_ret ?_ | with_reducible refine z_retN ?_ | with_reducible refine z_ite ?_ | with_reducible refine z_whl ?_ | with_reducible refine z_for ?_ | with_reducible refine z_pass ?_ | with_reducible refine z_brk ?_ | with_reducible refine z_cnt ?_ | with_reducible refine z_nil ?_ | with_reducible refine z_par3 ?_ | with_reducible refine z_sub2 ?_ | with_reducible refine z_sub3 ?_ | with_reducible refine z_raiF ?_ | with_reducible refine z_rai ?_ | with_reducible refine z_try1 ?_ | with_reducible refine w_bin ?_ | with_reducible refine w_int ?_ | with_reducible refine w_str ?_ | with_reducible refine w_blc ?_ | with_reducible refine w_non ?_ | with_reducible refine w_bty ?_ | with_reducible refine w_neg ?_ | with_reducible refine w_cmp ?_ | with_reducible refine w_chn ?_ | with_reducible refine w_and ?_ | with_reducible refine w_or ?_ | with_reducible refine w_not ?_ | with_reducible refine w_ite ?_ | with_reducible refine w_fld ?_ | with_reducible refine w_ix ?_ | with_reducible refine w_sl ?_ | with_reducible refine w_no ?_ | with_reducible refine w_so ?_ | with_reducible refine w_nil ?_ | with_reducible refine w_cons ?_ | with_reducible refine w_tup ?_ | with_reducible refine w_lst ?_ | with_reducible refine w_cal ?_ | with_reducible refine w_mk ?_ | with_reducible refine w_mth ?_ | with_reducible refine w_bi ?_ | with_reducible refine w_bm ?_ | with_reducible refine w_lc ?_ | with_reducible refine w_iex ?_ | with_reducible refine w_rng1 ?_ | with_reducible refine w_rng2 ?_ | with_reducible refine w_enum ?_ | with_reducible refine w_T0 ?_ | with_reducible refine w_T1 ?_ | with_reducible refine w_add ?_ | with_reducible refine w_sub ?_ | with_reducible refine w_dctK ?_ | with_reducible refine w_dget1 ?_ | with_reducible refine w_dget2 ?_ | with_reducible refine w_rev ?_ | ((with_reducible refine w_tru ?_ ?_); exact rfl)))
  refine ⟨sz (by simp), ?_⟩
  (repeat (first | ((with_reducible refine w_var ?_); refine ⟨_, rfl, ?_⟩) | with_reducible refine z_set ?_ | with_reducible refine z_setT ?_ | with_reducible refine z_par ?_ | with_reducible refine z_fld ?_ | with_reducible refine z_sub ?_ | with_reducible refine z_exp ?_ | with_reducible refine z_ret ?_ | with_reducible refine z_retN ?_ | with_reducible refine z_ite ?_ | with_reducible refine z_whl ?_ | with_reducible refine z_for ?_ | with_reducible refine z_pass ?_ | with_reducible refine z_brk ?_ | with_reducible refine z_cnt ?_ | with_reducible refine z_nil ?_ | with_reducible refine z_par3 ?_ | with_reducible refine z_sub2 ?_ | with_reducible refine z_sub3 ?_ | with_reducible refine z_raiF ?_ | with_reducible refine z_rai ?_ | with_reducible refine z_try1 ?_ | with_reducible refine w_bin ?_ | with_reducible refine w_int ?_ | with_reducible refine w_str ?_ | with_reducible refine w_blc ?_ | with_reducible refine w_non ?_ | with_reducible refine w_bty ?_ | with_reducible refine w_neg ?_ | with_reducible refine w_cmp ?_ | with_reducible refine w_chn ?_ | with_reducible refine w_and ?_ | with_reducible refine w_or ?_ | with_reducible refine w_not ?_ | with_reducible refine w_ite ?_ | with_reducible refine w_fld ?_ | with_reducible refine w_ix ?_ | with_reducible refine w_sl ?_ | with_reducible refine w_no ?_ | with_reducible refine w_so ?_ | with_reducible refine w_nil ?_ | with_reducible refine w_cons ?_ | with_reducible refine w_tup ?_ | with_reducible refine w_lst ?_ | with_reducible refine w_cal ?_ | with_reducible refine w_mk ?_ | with_reducible refine w_mth ?_ | with_reducible refine w_bi ?_ | with_reducible refine w_bm ?_ | with_reducible refine w_lc ?_ | with_reducible refine w_iex ?_ | with_reducible refine w_rng1 ?_ | with_reducible refine w_rng2 ?_ | with_reducible refine w_enum ?_ | with_reducible refine w_T0 ?_ | with_reducible refine w_T1 ?_ | with_reducible refine w_add ?_ | with_reducible refine w_sub ?_ | with_reducible refine w_dctK ?_ | with_reducible refine w_dget1 ?_ | with_reducible refine w_dget2 ?_ | with_reducible refine w_rev ?_ | ((with_reducible refine w_tru ?_ ?_); exact rfl)))
  refine oneI g3 (by simp) (by simp) (by simp) fun y4 T4 g4 e4 => ?_
  try simp only [List.set_cons_succ, List.set_cons_zero]
  (repeat (first | ((with_reducible refine w_var ?_); refine ⟨_, rfl, ?_⟩) | with_reducible refine z_set ?_ | with_reducible refine z_setT ?_ | with_reducible refine z_par ?_ | with_reducible refine z_fld ?_ | with_reducible refine z_sub ?_ | with_reducible refine z_exp ?_ | with_reducible refine z_ret ?_ | with_reducible refine z_retN ?_ | with_reducible refine z_ite ?_ | with_reducible refine z_whl ?_ | with_reducible refine z_for ?_ | with_reducible refine z_pass ?_ | with_reducible refine z_brk ?_ | with_reducible refine z_cnt ?_ | with_reducible refine z_nil ?_ | with_reducible refine z_par3 ?_ | with_reducible refine z_sub2 ?_ | with_reducible refine z_sub3 ?_ | with_reducible refine z_raiF ?_ | with_reducible refine z_rai ?_ | with_reducible refine z_try1 ?_ | with_reducible refine w_bin ?_ | with_reducible refine w_int ?_ | with_reducible refine w_str ?_ | with_reducible refine w_blc ?_ | with_reducible refine w_non ?_ | with_reducible refine w_bty ?_ | with_reducible refine w_neg ?_ | with_reducible refine w_cmp ?_ | with_reducible refine w_chn ?_ | with_reducible refine w_and ?_ | with_reducible refine w_or ?_ | with_reducible refine w_not ?_ | with_reducible refine w_ite ?_ | with_reducible refine w_fld ?_ | with_reducible refine w_ix ?_ | with_reducible refine w_sl ?_ | with_reducible refine w_no ?_ | with_reducible refine w_so ?_ | with_reducible refine w_nil ?_ | with_reducible refine w_cons ?_ | with_reducible refine w_tup ?_ | with_reducible refine w_lst ?_ | with_reducible refine w_cal ?_ | with_reducible refine w_mk ?_ | with_reducible refine w_mth ?_ | with_reducible refine w_bi ?_ | with_reducible refine w_bm ?_ | with_reducible refine w_lc ?_ | with_reducible refine w_iex ?_ | with_reducible refine w_rng1 ?_ | with_reducible refine w_rng2 ?_ | with_reducible refine w_enum ?_ | with_reducible refine w_T0 ?_ | with_reducible refine w_T1 ?_ | with_reducible refine w_add ?_ | with_reducible refine w_sub ?_ | with_reducible refine w_dctK ?_ | with_reducible refine w_dget1 ?_ | with_reducible refine w_dget2 ?_ | with_reducible refine w_rev ?_ | ((with_reducible refine w_tru ?_ ?_); exact rfl)))
  refine ⟨sz (by simp), ?_⟩
  (repeat (first | ((with_reducible refine w_var ?_); refine ⟨_, rfl, ?_⟩) | with_reducible refine z_set ?_ | with_reducible refine z_setT ?_ | with_reducible refine z_par ?_ | with_reducible refine z_fld ?_ | with_reducible refine z_sub ?_ | with_reducible refine z_exp ?_ | with_reducible refine z_ret ?_ | with_reducible refine z_retN ?_ | with_reducible refine z_ite ?_ | with_reducible refine z_whl ?_ | with_reducible refine z_for ?_ | with_reducible refine z_pass ?_ | with_reducible refine z_brk ?_ | with_reducible refine z_cnt ?_ | with_reducible refine z_nil ?_ | with_reducible refine z_par3 ?_ | with_reducible refine z_sub2 ?_ | with_reducible refine z_sub3 ?_ | with_reducible refine z_raiF ?_ | with_reducible refine z_rai ?_ | with_reducible refine z_try1 ?_ | with_reducible refine w_bin ?_ | with_reducible refine w_int ?_ | with_reducible refine w_str ?_ | with_reducible refine w_blc ?_ | with_reducible refine w_non ?_ | with_reducible refine w_bty ?_ | with_reducible refine w_neg ?_ | with_reducible refine w_cmp ?_ | with_reducible refine w_chn ?_ | with_reducible refine w_and ?_ | with_reducible refine w_or ?_ | with_reducible refine w_not ?_ | with_reducible refine w_ite ?_ | with_reducible refine w_fld ?_ | with_reducible refine w_ix ?_ | with_reducible refine w_sl ?_ | with_reducible refine w_no ?_ | with_reducible refine w_so ?_ | with_reducible refine w_nil ?_ | with_reducible refine w_cons ?_ | with_reducible refine w_tup ?_ | with_reducible refine w_lst ?_ | with_reducible refine w_cal ?_ | with_reducible refine w_mk ?_ | with_reducible refine w_mth ?_ | with_reducible refine w_bi ?_ | with_reducible refine w_bm ?_ | with_reducible refine w_lc ?_ | with_reducible refine w_iex ?_ | with_reducible refine w_rng1 ?_ | with_reducible refine w_rng2 ?_ | with_reducible refine w_enum ?_ | with_reducible refine w_T0 ?_ | with_reducible refine w_T1 ?_ | with_reducible refine w_add ?_ | with_reducible refine w_sub ?_ | with_reducible refine w_dctK ?_ | with_reducible refine w_dget1 ?_ | with_reducible refine w_dget2 ?_ | with_reducible refine w_rev ?_ | ((with_reducible refine w_tru ?_ ?_); exact rfl)))
  have gl := g4.lt
  refine one (g4.fr (B := []) DI.Fr.push (by simp)) get_push (by omega) (by simp) (by simp) fun x T5 hm g5 e5 => ?_
  have fr := (((((((f1.trans f2).trans f3).trans f4).trans f5).trans f6).trans f7).trans f8).trans ((e1.trans e2).trans (e3.trans (e4.trans (DI.Fr.push.trans e5))))
  (repeat (first | ((with_reducible refine w_var ?_); refine ⟨_, rfl, ?_⟩) | with_reducible refine z_set ?_ | with_reducible refine z_setT ?_ | with_reducible refine z_par ?_ | with_reducible refine z_fld ?_ | with_reducible refine z_sub ?_ | with_reducible refine z_exp ?_ | with_reducible refine z_ret ?_ | with_reducible refine z_retN ?_ | with_reducible refine z_ite ?_ | with_reducible refine z_whl ?_ | with_reducible refine z_for ?_ | with_reducible refine z_pass ?_ | with_reducible refine z_brk ?_ | with_reducible refine z_cnt ?_ | with_reducible refine z_nil ?_ | with_reducible refine z_par3 ?_ | with_reducible refine z_sub2 ?_ | with_reducible refine z_sub3 ?_ | with_reducible refine z_raiF ?_ | with_reducible refine z_rai ?_ | with_reducible refine z_try1 ?_ | with_reducible refine w_bin ?_ | with_reducible refine w_int ?_ | with_reducible refine w_str ?_ | with_reducible refine w_blc ?_ | with_reducible refine w_non ?_ | with_reducible refine w_bty ?_ | with_reducible refine w_neg ?_ | with_reducible refine w_cmp ?_ | with_reducible refine w_chn ?_ | with_reducible refine w_and ?_ | with_reducible refine w_or ?_ | with_reducible refine w_not ?_ | with_reducible refine w_ite ?_ | with_reducible refine w_fld ?_ | with_reducible refine w_ix ?_ | with_reducible refine w_sl ?_ | with_reducible refine w_no ?_ | with_reducible refine w_so ?_ | with_reducible refine w_nil ?_ | with_reducible refine w_cons ?_ | with_reducible refine w_tup ?_ | with_reducible refine w_lst ?_ | with_reducible refine w_cal ?_ | with_reducible refine w_mk ?_ | with_reducible refine w_mth ?_ | with_reducible refine w_bi ?_ | with_reducible refine w_bm ?_ | with_reducible refine w_lc ?_ | with_reducible refine w_iex ?_ | with_reducible refine w_rng1 ?_ | with_reducible refine w_rng2 ?_ | with_reducible refine w_enum ?_ | with_reducible refine w_T0 ?_ | with_reducible refine w_T1 ?_ | with_reducible refine w_add ?_ | with_reducible refine w_sub ?_ | with_reducible refine w_dctK ?_ | with_reducible refine w_dget1 ?_ | with_reducible refine w_dget2 ?_ | with_reducible refine w_rev ?_ | ((with_reducible refine w_tru ?_ ?_); exact rfl)))
  refine w_div (by omega) ?_
  (repeat (first | ((with_reducible refine w_var ?_); refine ⟨_, rfl, ?_⟩) | with_reducible refine z_set ?_ | with_reducible refine z_setT ?_ | with_reducible refine z_par ?_ | with_reducible refine z_fld ?_ | with_reducible refine z_sub ?_ | with_reducible refine z_exp ?_ | with_reducible refine z_ret ?_ | with_reducible refine z_retN ?_ | with_reducible refine z_ite ?_ | with_reducible refine z_whl ?_ | with_reducible refine z_for ?_ | with_reducible refine z_pass ?_ | with_reducible refine z_brk ?_ | with_reducible refine z_cnt ?_ | with_reducible refine z_nil ?_ | with_reducible refine z_par3 ?_ | with_reducible refine z_sub2 ?_ | with_reducible refine z_sub3 ?_ | with_reducible refine z_raiF ?_ | with_reducible refine z_rai ?_ | with_reducible refine z_try1 ?_ | with_reducible refine w_bin ?_ | with_reducible refine w_int ?_ | with_reducible refine w_str ?_ | with_reducible refine w_blc ?_ | with_reducible refine w_non ?_ | with_reducible refine w_bty ?_ | with_reducible refine w_neg ?_ | with_reducible refine w_cmp ?_ | with_reducible refine w_chn ?_ | with_reducible refine w_and ?_ | with_reducible refine w_or ?_ | with_reducible refine w_not ?_ | with_reducible refine w_ite ?_ | with_reducible refine w_fld ?_ | with_reducible refine w_ix ?_ | with_reducible refine w_sl ?_ | with_reducible refine w_no ?_ | with_reducible refine w_so ?_ | with_reducible refine w_nil ?_ | with_reducible refine w_cons ?_ | with_reducible refine w_tup ?_ | with_reducible refine w_lst ?_ | with_reducible refine w_cal ?_ | with_reducible refine w_mk ?_ | with_reducible refine w_mth ?_ | with_reducible refine w_bi ?_ | with_reducible refine w_bm ?_ | with_reducible refine w_lc ?_ | with_reducible refine w_iex ?_ | with_reducible refine w_rng1 ?_ | with_reducible refine w_rng2 ?_ | with_reducible refine w_enum ?_ | with_reducible refine w_T0 ?_ | with_reducible refine w_T1 ?_ | with_reducible refine w_add ?_ | with_reducible refine w_sub ?_ | with_reducible refine w_dctK ?_ | with_reducible refine w_dget1 ?_ | with_reducible refine w_dget2 ?_ | with_reducible refine w_rev ?_ | ((with_reducible refine w_tru ?_ ?_); exact rfl)))
  refine digit g5 (by omega) (by omega) fun y6 T6 hy6 hy6' g6 e6 => ?_
  (repeat (first | ((with_reducible refine w_var ?_); refine ⟨_, rfl, ?_⟩) | with_reducible refine z_set ?_ | with_reducible refine z_setT ?_ | with_reducible refine z_par ?_ | with_reducible refine z_fld ?_ | with_reducible refine z_sub ?_ | with_reducible refine z_exp ?_ | with_reducible refine z_ret ?_ | with_reducible refine z_retN ?_ | with_reducible refine z_ite ?_ | with_reducible refine z_whl ?_ | with_reducible refine z_for ?_ | with_reducible refine z_pass ?_ | with_reducible refine z_brk ?_ | with_reducible refine z_cnt ?_ | with_reducible refine z_nil ?_ | with_reducible refine z_par3 ?_ | with_reducible refine z_sub2 ?_ | with_reducible refine z_sub3 ?_ | with_reducible refine z_raiF ?_ | with_reducible refine z_rai ?_ | with_reducible refine z_try1 ?_ | with_reducible refine w_bin ?_ | with_reducible refine w_int ?_ | with_reducible refine w_str ?_ | with_reducible refine w_blc ?_ | with_reducible refine w_non ?_ | with_reducible refine w_bty ?_ | with_reducible refine w_neg ?_ | with_reducible refine w_cmp ?_ | with_reducible refine w_chn ?_ | with_reducible refine w_and ?_ | with_reducible refine w_or ?_ | with_reducible refine w_not ?_ | with_reducible refine w_ite ?_ | with_reducible refine w_fld ?_ | with_reducible refine w_ix ?_ | with_reducible refine w_sl ?_ | with_reducible refine w_no ?_ | with_reducible refine w_so ?_ | with_reducible refine w_nil ?_ | with_reducible refine w_cons ?_ | with_reducible refine w_tup ?_ | with_reducible refine w_lst ?_ | with_reducible refine w_cal ?_ | with_reducible refine w_mk ?_ | with_reducible refine w_mth ?_ | with_reducible refine w_bi ?_ | with_reducible refine w_bm ?_ | with_reducible refine w_lc ?_ | with_reducible refine w_iex ?_ | with_reducible refine w_rng1 ?_ | with_reducible refine w_rng2 ?_ | with_reducible refine w_enum ?_ | with_reducible refine w_T0 ?_ | with_reducible refine w_T1 ?_ | with_reducible refine w_add ?_ | with_reducible refine w_sub ?_ | with_reducible refine w_dctK ?_ | with_reducible refine w_dget1 ?_ | with_reducible refine w_dget2 ?_ | with_reducible refine w_rev ?_ | ((with_reducible refine w_tru ?_ ?_); exact rfl)))
  have hs : ∃ s, x = .str (sd s) := by
    simp only [List.mem_cons, List.not_mem_nil, or_false] at hm
    rcases hm with rfl | rfl
    · exact ⟨true, rfl⟩
    · exact ⟨false, rfl⟩
  obtain ⟨s, rfl⟩ := hs
  refine ⟨sz (by simp), ?_⟩
  exact hQ ⟨s, _, _, _, _, _⟩ T6 g6 (fr.trans e6)
def askD (a : Ask) : D := .tup (askL a)
theorem lc_ask {d i : Nat} {S0 S : Sto} {m : Int} {σ : Sl} {nm : Str} {e : Ex} (f0 : DI.Fr [i] S0 S) (h : St S i) (h0 : 0 < m) (h1 : m ≤ 1000000) {v : Nat} (hv : v < σ.length) (hv0 : v ≠ 0) (hv1 : v ≠ 1) (e0 : σ[0]? = some (some (.loc i))) (e1 : σ[1]? = some (some (.int m)))
    {lo hi : Int} (hlo : 0 ≤ lo) (hhi : hi ≤ 100)
    (he : ∀ Q : D → Sto → Prop, (∀ (x : Int) (S' : Sto), lo ≤ x → x ≤ hi → St S' i → DI.Fr [i] S S' → Q (.int x) S') → W (de P0 (calls P0 fs (d + 3)) e false σ S) Q)
    {Q : D → Sto → Prop} (hQ : ∀ (f : Nat) (as : List Ask) (S' : Sto), lo ≤ as.length → (as.length : Int) ≤ hi → S0.length ≤ f → S'[f]? = some (.lst (as.map askD)) → St S' i → DI.Fr [i] S0 S' → Q (.loc f) S') :
    W (de P0 (calls P0 fs (d + 3)) (.lc [(nm, v)] (.nm v) (.rng1 e) .nil (.cal 2 (.cons (.var 0) (.cons (.var 1) .nil)))) false σ S) Q := by
  refine w_lc (w_rng1 (he _ fun x S1 hx hx' g f1 => ⟨x, rfl, decide_eq_true (by omega), ?_⟩))
  have gl := g.lt
  have f2 := f0.trans f1
  show W (lcLoop _ _ _ _ _ _ x.toNat 0 _) _
  refine W_lcLoop (J := fun k S' => k ≤ x.toNat ∧ St S' i ∧ DI.Fr [i] S1 S' ∧ ∃ as : List Ask, as.length = k ∧ S'[S1.length]? = some (.lst (as.map askD))) (k0 := x.toNat) ?_ ?_ ?_ x.toNat 0 _ (by omega) ⟨by omega, g.fr (B := []) DI.Fr.push (by simp), DI.Fr.push, [], rfl, get_push⟩
  · rintro S' _
    simp [wgo]
  · rintro k S' hk ⟨_, g', f', as, hl, ha⟩
    refine ⟨.int (0 + k), _, by simp only [wgo]; rw [if_pos hk], rfl, w_T0 ?_⟩
    rw [if_pos rfl]
    refine w_cal (w_cons (w_var ⟨.loc i, ?_, w_cons (w_var ⟨.int m, ?_, w_nil (asked g' h0 h1 fun a S2 g2 f3 => ?_)⟩)⟩))
    · simp only [wipeD, List.map_cons, List.map_nil]
      rw [List.getElem?_set_ne (by omega), List.getElem?_set_ne (by omega)]
      exact e0
    · simp only [wipeD, List.map_cons, List.map_nil]
      rw [List.getElem?_set_ne (by omega), List.getElem?_set_ne (by omega)]
      exact e1
    · have ha2 := f3.get ha (by simp; omega)
      refine ⟨_, ha2, Nat.lt_of_le_of_lt (m := 1000000) (by simp; omega) (by decide), by omega, g2.fr (B := [S1.length]) (DI.Fr.set (.inl (by simp))) (by simp; omega), (f'.trans f3).setr (.inr (Nat.le_refl _)), as ++ [a], by simp [hl], ?_⟩
      rw [get_set (lt_of ha2)]
      simp [askD]
  · rintro S' ⟨_, g', f', as, hl, ha⟩
    exact hQ _ as S' (by omega) (by omega) f2.1 ha g' (f2.trans f')
end K29

set_option Elab.async false
set_option linter.all false
set_option maxRecDepth 100000
set_option maxHeartbeats 4000000
namespace K29
open L2 DI PySem PySem.Spec PyProof.Rows
theorem _root_.DI.Fr.comp {B B' : List Nat} {S S1 S2 : Sto} (a : DI.Fr B S S1) (b : DI.Fr B' S1 S2) (h : ∀ k ∈ B', k ∈ B ∨ S.length ≤ k) : DI.Fr B S S2 := ⟨Nat.le_trans a.1 b.1, fun k h1 h2 => (b.2 k (Nat.lt_of_lt_of_le h1 a.1) fun h3 => (h k h3).elim h2 fun h4 => by omega).trans (a.2 k h1 h2)⟩
theorem init {d o : Nat} {S : Sto} (h : S[o]? = some (.ins 0 [])) {Q : D → Sto → Prop} (hQ : ∀ S', Sp S' o S.length [] → DI.Fr [o] S S' → Q .non S') : W (calls P0 fs (d + 1) 6 [.loc o] S) Q := by
  refine W_call (f := d_Strip_init) rfl rfl ?_
  show WS (dSs P0 _ t_Strip_init [some (.loc o)] S) _
  unfold t_Strip_init
  have h1 : (S ++ [Cell.lst []])[o]? = some (.ins 0 []) := get_pushl h
  refine z_fld (w_lst (w_nil ⟨sz (by simp), w_var ⟨_, rfl, (S ++ [Cell.lst []]).set o (.ins 0 [(("rows" : Str), .loc S.length)]), ?_, ?_⟩⟩))
  · simp only [putSem, h1]
    rfl
  · have hl := lt_of h
    refine z_nil (hQ _ ⟨get_set (by simp <;> omega), ?_⟩ (DI.Fr.push.setr (.inl (by simp))))
    rw [get_setn (by omega)]
    exact get_push
noncomputable def toldP (R : List Rw) : List Ask → List Rw
  | [] => []
  | a :: as => placeP R a :: toldP (R ++ [placeP R a]) as
theorem told_len : ∀ (as : List Ask) (R : List Rw), (toldP R as).length = as.length
  | [], _ => rfl
  | a :: as, R => by simp [toldP, told_len as]
theorem told_at : ∀ (as : List Ask) (R : List Rw) (k : Nat) (h : k < as.length), (toldP R as)[k]? = some (placeP (R ++ (toldP R as).take k) as[k])
  | a :: as, R, 0, _ => by simp [toldP]
  | a :: as, R, k + 1, h => by
    have hk : k < as.length := by simpa using h
    simp only [toldP, List.getElem?_cons_succ, List.take_succ_cons, List.getElem_cons_succ]
    rw [told_at as _ k hk]
    simp
theorem told_take : ∀ (as : List Ask) (R : List Rw) (k : Nat), toldP R (as.take k) = (toldP R as).take k
  | [], _, k => by simp [toldP]
  | a :: as, R, 0 => by simp [toldP]
  | a :: as, R, k + 1 => by simp [toldP, told_take as]
def rowL (q : Ask × Rw) : List D := askL q.1 ++ [q.2.d]
def rowD (q : Ask × Rw) : D := .tup (rowL q)
/-- the call of place with the six of a row in a variable -/
theorem place6 {d o l vs vr : Nat} {S : Sto} {R : List Rw} {a : Ask} {σ : Sl} {more : List D} (h : Sp S o l R) (hR : R.length < 1000000) (e1 : σ[vs]? = some (some (.loc o))) (e2 : σ[vr]? = some (some (.tup (askL a ++ more)))) {Q : D → Sto → Prop} (hQ : ∀ S', DI.Fr [l] S S' → Sp S' o l (R ++ [placeP R a]) → Q (placeP R a).d S') :
    W (de P0 (calls P0 fs (d + 3)) (.mth 0 12 (.var vs) ("place" : Str) (.cons (.ix (.var vr) (.cst (.int 0))) (.cons (.ix (.var vr) (.cst (.int 1))) (.cons (.ix (.var vr) (.cst (.int 2))) (.cons (.ix (.var vr) (.cst (.int 3))) (.cons (.ix (.var vr) (.cst (.int 4))) (.cons (.ix (.var vr) (.cst (.int 5))) .nil))))))) false σ S) Q := by
  have hi : ∀ (k : Nat) (y : D), (askL a)[k]? = some y → itemSem (.tup (askL a ++ more)) (.int k) S = some y := fun k y e => by
    simp only [itemSem]
    refine DI.atI_nat ?_
    rw [List.getElem?_append_left (List.getElem?_eq_some_iff.mp e).1]
    exact e
  refine w_mth (w_var ⟨_, e1, _, _, rfl, h.1, rfl, ?_⟩)
  refine w_cons (V_use (V_ix (V_var e2) V_int (hi 0 _ rfl)) (w_cons (V_use (V_ix (V_var e2) V_int (hi 1 _ rfl)) (w_cons (V_use (V_ix (V_var e2) V_int (hi 2 _ rfl)) (w_cons (V_use (V_ix (V_var e2) V_int (hi 3 _ rfl)) (w_cons (V_use (V_ix (V_var e2) V_int (hi 4 _ rfl)) (w_cons (V_use (V_ix (V_var e2) V_int (hi 5 _ rfl)) (w_nil ?_))))))))))))
  exact place h hR hQ
theorem first_at {n k : Nat} {p : Nat → Bool} (hk : k < n) (h1 : p k = true) (h2 : ∀ j, j < k → p j = false) : ((List.range n).filter p).head? = some k := by
  rw [List.head?_filter, List.find?_range_eq_some]
  exact ⟨h1, List.mem_range.mpr hk, fun j hj => by rw [h2 j hj]; rfl⟩
theorem first_no {n : Nat} {p : Nat → Bool} (h2 : ∀ j, j < n → p j = false) : ((List.range n).filter p).head? = none := by
  rw [List.head?_filter, List.find?_range_eq_none]
  exact fun j hj => by rw [h2 j hj]; rfl
theorem Rw.pl (q : Rw) : plD 32 q.d = true := by
  obtain ⟨s, x, y, r, b⟩ := q
  have : PyData.canLay0 (.str (sd s)) = true := by cases s <;> decide +kernel
  simp [Rw.d, plD, this]
theorem sd_inj {s s' : Bool} (h : sd s = sd s') : s = s' := by revert h; cases s <;> cases s' <;> simp [sd] <;> decide
theorem Rw.inj {q q' : Rw} : q.d = q'.d ↔ q = q' := by
  obtain ⟨s, x, y, r, b⟩ := q
  obtain ⟨s', x', y', r', b'⟩ := q'
  constructor
  · intro h
    simp only [Rw.d, D.tup.injEq, List.cons.injEq, D.str.injEq, D.int.injEq, and_true] at h
    obtain ⟨h1, rfl, rfl, rfl, rfl⟩ := h
    rw [sd_inj h1]
  · rintro h; rw [h]
end K29

set_option Elab.async false
set_option linter.all false
set_option maxRecDepth 100000
set_option maxHeartbeats 4000000
namespace K29
open L2 DI PySem PySem.Spec PyProof.Rows
theorem oneI' {d i : Nat} {S : Sto} {xs : List D} (h : St S i) (hx : ∀ x ∈ xs, ∃ n : Int, x = .int n) (h0 : 0 < xs.length) (h1 : xs.length < 1000000) {Q : D → Sto → Prop}
    (hQ : ∀ (x : Int) (S' : Sto), D.int x ∈ xs → St S' i → DI.Fr [i] S S' → Q (.int x) S') : W (calls P0 fs (d + 2) 1 [.loc i, .loc S.length] (S ++ [.lst xs])) Q := by
  have hl := h.lt
  refine one (h.fr (B := []) DI.Fr.push (by simp)) get_push (by omega) h0 h1 fun x S' hm h' f => ?_
  obtain ⟨n, rfl⟩ := hx x hm
  exact hQ n S' hm h' (DI.Fr.push.trans f)
/-- what is asked, with its bounds -/
theorem askedB {d i : Nat} {S : Sto} {m : Int} (h : St S i) (h0 : 10 ≤ m) (h1 : m ≤ 1000000) {Q : D → Sto → Prop}
    (hQ : ∀ (a : Ask) (S' : Sto), -3 ≤ a.t → a.t ≤ m → a.h ≤ m → St S' i → DI.Fr [i] S S' → Q (.tup (askL a)) S') : W (calls P0 fs (d + 3) 2 [.loc i, .int m] S) Q := by
  refine W_call (f := d_law_asked) rfl rfl ?_
  show WS (dSs P0 _ t_law_asked [some (.loc i), some (.int m), none, none, none, none] S) _
  unfold t_law_asked
  (repeat (first | ((with_reducible refine w_var ?_); refine ⟨_, rfl, ?_⟩) | with_reducible refine z_set ?_ | with_reducible refine z_setT ?_ | with_reducible refine z_par ?_ | with_reducible refine z_fld ?_ | with_reducible refine z_sub ?_ | with_reducible refine z_exp ?_ | with_reducible refine z_ret ?_ | with_reducible refine z_retN ?_ | with_reducible refine z_ite ?_ | with_reducible refine z_whl ?_ | with_reducible refine z_for ?_ | with_reducible refine z_pass ?_ | with_reducible refine z_brk ?_ | with_reducible refine z_cnt ?_ | with_reducible refine z_nil ?_ | with_reducible refine z_par3 ?_ | with_reducible refine z_sub2 ?_ | with_reducible refine z_sub3 ?_ | with_reducible refine z_raiF ?_ | with_reducible refine z_rai ?_ | with_reducible refine z_try1 ?_ | with_reducible refine w_bin ?_ | with_reducible refine w_int ?_ | with_reducible refine w_str ?_ | with_reducible refine w_blc ?_ | with_reducible refine w_non ?_ | with_reducible refine w_bty ?_ | with_reducible refine w_neg ?_ | with_reducible refine w_cmp ?_ | with_reducible refine w_chn ?_ | with_reducible refine w_and ?_ | with_reducible refine w_or ?_ | with_reducible refine w_not ?_ | with_reducible refine w_ite ?_ | with_reducible refine w_fld ?_ | with_reducible refine w_ix ?_ | with_reducible refine w_sl ?_ | with_reducible refine w_no ?_ | with_reducible refine w_so ?_ | with_reducible refine w_nil ?_ | with_reducible refine w_cons ?_ | with_reducible refine w_tup ?_ | with_reducible refine w_lst ?_ | with_reducible refine w_cal ?_ | with_reducible refine w_mk ?_ | with_reducible refine w_mth ?_ | with_reducible refine w_bi ?_ | with_reducible refine w_bm ?_ | with_reducible refine w_lc ?_ | with_reducible refine w_iex ?_ | with_reducible refine w_rng1 ?_ | with_reducible refine w_rng2 ?_ | with_reducible refine w_enum ?_ | with_reducible refine w_T0 ?_ | with_reducible refine w_T1 ?_ | with_reducible refine w_add ?_ | with_reducible refine w_sub ?_ | with_reducible refine w_dctK ?_ | with_reducible refine w_dget1 ?_ | with_reducible refine w_dget2 ?_ | with_reducible refine w_rev ?_ | ((with_reducible refine w_tru ?_ ?_); exact rfl)))
  refine digit h (by omega) (by omega) fun x1 S1 hx1 hx1' h2 f1 => ?_
  (repeat (first | ((with_reducible refine w_var ?_); refine ⟨_, rfl, ?_⟩) | with_reducible refine z_set ?_ | with_reducible refine z_setT ?_ | with_reducible refine z_par ?_ | with_reducible refine z_fld ?_ | with_reducible refine z_sub ?_ | with_reducible refine z_exp ?_ | with_reducible refine z_ret ?_ | with_reducible refine z_retN ?_ | with_reducible refine z_ite ?_ | with_reducible refine z_whl ?_ | with_reducible refine z_for ?_ | with_reducible refine z_pass ?_ | with_reducible refine z_brk ?_ | with_reducible refine z_cnt ?_ | with_reducible refine z_nil ?_ | with_reducible refine z_par3 ?_ | with_reducible refine z_sub2 ?_ | with_reducible refine z_sub3 ?_ | with_reducible refine z_raiF ?_ | with_reducible refine z_rai ?_ | with_reducible refine z_try1 ?_ | with_reducible refine w_bin ?_ | with_reducible refine w_int ?_ | with_reducible refine w_str ?_ | with_reducible refine w_blc ?_ | with_reducible refine w_non ?_ | with_reducible refine w_bty ?_ | with_reducible refine w_neg ?_ | with_reducible refine w_cmp ?_ | with_reducible refine w_chn ?_ | with_reducible refine w_and ?_ | with_reducible refine w_or ?_ | with_reducible refine w_not ?_ | with_reducible refine w_ite ?_ | with_reducible refine w_fld ?_ | with_reducible refine w_ix ?_ | with_reducible refine w_sl ?_ | with_reducible refine w_no ?_ | with_reducible refine w_so ?_ | with_reducible refine w_nil ?_ | with_reducible refine w_cons ?_ | with_reducible refine w_tup ?_ | with_reducible refine w_lst ?_ | with_reducible refine w_cal ?_ | with_reducible refine w_mk ?_ | with_reducible refine w_mth ?_ | with_reducible refine w_bi ?_ | with_reducible refine w_bm ?_ | with_reducible refine w_lc ?_ | with_reducible refine w_iex ?_ | with_reducible refine w_rng1 ?_ | with_reducible refine w_rng2 ?_ | with_reducible refine w_enum ?_ | with_reducible refine w_T0 ?_ | with_reducible refine w_T1 ?_ | with_reducible refine w_add ?_ | with_reducible refine w_sub ?_ | with_reducible refine w_dctK ?_ | with_reducible refine w_dget1 ?_ | with_reducible refine w_dget2 ?_ | with_reducible refine w_rev ?_ | ((with_reducible refine w_tru ?_ ?_); exact rfl)))
  refine w_div (by omega) ?_
  (repeat (first | ((with_reducible refine w_var ?_); refine ⟨_, rfl, ?_⟩) | with_reducible refine z_set ?_ | with_reducible refine z_setT ?_ | with_reducible refine z_par ?_ | with_reducible refine z_fld ?_ | with_reducible refine z_sub ?_ | with_reducible refine z_exp ?_ | with_reducible refine z_ret ?_ | with_reducible refine z_retN ?_ | with_reducible refine z_ite ?_ | with_reducible refine z_whl ?_ | with_reducible refine z_for ?_ | with_reducible refine z_pass ?_ | with_reducible refine z_brk ?_ | with_reducible refine z_cnt ?_ | with_reducible refine z_nil ?_ | with_reducible refine z_par3 ?_ | with_reducible refine z_sub2 ?_ | with_reducible refine z_sub3 ?_ | with_reducible refine z_raiF ?_ | with_reducible refine z_rai ?_ | with_reducible refine z_try1 ?_ | with_reducible refine w_bin ?_ | with_reducible refine w_int ?_ | with_reducible refine w_str ?_ | with_reducible refine w_blc ?_ | with_reducible refine w_non ?_ | with_reducible refine w_bty ?_ | with_reducible refine w_neg ?_ | with_reducible refine w_cmp ?_ | with_reducible refine w_chn ?_ | with_reducible refine w_and ?_ | with_reducible refine w_or ?_ | with_reducible refine w_not ?_ | with_reducible refine w_ite ?_ | with_reducible refine w_fld ?_ | with_reducible refine w_ix ?_ | with_reducible refine w_sl ?_ | with_reducible refine w_no ?_ | with_reducible refine w_so ?_ | with_reducible refine w_nil ?_ | with_reducible refine w_cons ?_ | with_reducible refine w_tup ?_ | with_reducible refine w_lst ?_ | with_reducible refine w_cal ?_ | with_reducible refine w_mk ?_ | with_reducible refine w_mth ?_ | with_reducible refine w_bi ?_ | with_reducible refine w_bm ?_ | with_reducible refine w_lc ?_ | with_reducible refine w_iex ?_ | with_reducible refine w_rng1 ?_ | with_reducible refine w_rng2 ?_ | with_reducible refine w_enum ?_ | with_reducible refine w_T0 ?_ | with_reducible refine w_T1 ?_ | with_reducible refine w_add ?_ | with_reducible refine w_sub ?_ | with_reducible refine w_dctK ?_ | with_reducible refine w_dget1 ?_ | with_reducible refine w_dget2 ?_ | with_reducible refine w_rev ?_ | ((with_reducible refine w_tru ?_ ?_); exact rfl)))
  try simp only [List.set_cons_succ, List.set_cons_zero]
  (repeat (first | ((with_reducible refine w_var ?_); refine ⟨_, rfl, ?_⟩) | with_reducible refine z_set ?_ | with_reducible refine z_setT ?_ | with_reducible refine z_par ?_ | with_reducible refine z_fld ?_ | with_reducible refine z_sub ?_ | with_reducible refine z_exp ?_ | with_reducible refine z_ret ?_ | with_reducible refine z_retN ?_ | with_reducible refine z_ite ?_ | with_reducible refine z_whl ?_ | with_reducible refine z_for ?_ | with_reducible refine z_pass ?_ | with_reducible refine z_brk ?_ | with_reducible refine z_cnt ?_ | with_reducible refine z_nil ?_ | with_reducible refine z_par3 ?_ | with_reducible refine z_sub2 ?_ | with_reducible refine z_sub3 ?_ | with_reducible refine z_raiF ?_ | with_reducible refine z_rai ?_ | with_reducible refine z_try1 ?_ | with_reducible refine w_bin ?_ | with_reducible refine w_int ?_ | with_reducible refine w_str ?_ | with_reducible refine w_blc ?_ | with_reducible refine w_non ?_ | with_reducible refine w_bty ?_ | with_reducible refine w_neg ?_ | with_reducible refine w_cmp ?_ | with_reducible refine w_chn ?_ | with_reducible refine w_and ?_ | with_reducible refine w_or ?_ | with_reducible refine w_not ?_ | with_reducible refine w_ite ?_ | with_reducible refine w_fld ?_ | with_reducible refine w_ix ?_ | with_reducible refine w_sl ?_ | with_reducible refine w_no ?_ | with_reducible refine w_so ?_ | with_reducible refine w_nil ?_ | with_reducible refine w_cons ?_ | with_reducible refine w_tup ?_ | with_reducible refine w_lst ?_ | with_reducible refine w_cal ?_ | with_reducible refine w_mk ?_ | with_reducible refine w_mth ?_ | with_reducible refine w_bi ?_ | with_reducible refine w_bm ?_ | with_reducible refine w_lc ?_ | with_reducible refine w_iex ?_ | with_reducible refine w_rng1 ?_ | with_reducible refine w_rng2 ?_ | with_reducible refine w_enum ?_ | with_reducible refine w_T0 ?_ | with_reducible refine w_T1 ?_ | with_reducible refine w_add ?_ | with_reducible refine w_sub ?_ | with_reducible refine w_dctK ?_ | with_reducible refine w_dget1 ?_ | with_reducible refine w_dget2 ?_ | with_reducible refine w_rev ?_ | ((with_reducible refine w_tru ?_ ?_); exact rfl)))
  refine digit h2 (by omega) (by omega) fun x2 S2 hx2 hx2' h3 f2 => ?_
  (repeat (first | ((with_reducible refine w_var ?_); refine ⟨_, rfl, ?_⟩) | with_reducible refine z_set ?_ | with_reducible refine z_setT ?_ | with_reducible refine z_par ?_ | with_reducible refine z_fld ?_ | with_reducible refine z_sub ?_ | with_reducible refine z_exp ?_ | with_reducible refine z_ret ?_ | with_reducible refine z_retN ?_ | with_reducible refine z_ite ?_ | with_reducible refine z_whl ?_ | with_reducible refine z_for ?_ | with_reducible refine z_pass ?_ | with_reducible refine z_brk ?_ | with_reducible refine z_cnt ?_ | with_reducible refine z_nil ?_ | with_reducible refine z_par3 ?_ | with_reducible refine z_sub2 ?_ | with_reducible refine z_sub3 ?_ | with_reducible refine z_raiF ?_ | with_reducible refine z_rai ?_ | with_reducible refine z_try1 ?_ | with_reducible refine w_bin ?_ | with_reducible refine w_int ?_ | with_reducible refine w_str ?_ | with_reducible refine w_blc ?_ | with_reducible refine w_non ?_ | with_reducible refine w_bty ?_ | with_reducible refine w_neg ?_ | with_reducible refine w_cmp ?_ | with_reducible refine w_chn ?_ | with_reducible refine w_and ?_ | with_reducible refine w_or ?_ | with_reducible refine w_not ?_ | with_reducible refine w_ite ?_ | with_reducible refine w_fld ?_ | with_reducible refine w_ix ?_ | with_reducible refine w_sl ?_ | with_reducible refine w_no ?_ | with_reducible refine w_so ?_ | with_reducible refine w_nil ?_ | with_reducible refine w_cons ?_ | with_reducible refine w_tup ?_ | with_reducible refine w_lst ?_ | with_reducible refine w_cal ?_ | with_reducible refine w_mk ?_ | with_reducible refine w_mth ?_ | with_reducible refine w_bi ?_ | with_reducible refine w_bm ?_ | with_reducible refine w_lc ?_ | with_reducible refine w_iex ?_ | with_reducible refine w_rng1 ?_ | with_reducible refine w_rng2 ?_ | with_reducible refine w_enum ?_ | with_reducible refine w_T0 ?_ | with_reducible refine w_T1 ?_ | with_reducible refine w_add ?_ | with_reducible refine w_sub ?_ | with_reducible refine w_dctK ?_ | with_reducible refine w_dget1 ?_ | with_reducible refine w_dget2 ?_ | with_reducible refine w_rev ?_ | ((with_reducible refine w_tru ?_ ?_); exact rfl)))
  refine digit h3 (by omega) (by omega) fun x3 S3 hx3 hx3' h4 f3 => ?_
  (repeat (first | ((with_reducible refine w_var ?_); refine ⟨_, rfl, ?_⟩) | with_reducible refine z_set ?_ | with_reducible refine z_setT ?_ | with_reducible refine z_par ?_ | with_reducible refine z_fld ?_ | with_reducible refine z_sub ?_ | with_reducible refine z_exp ?_ | with_reducible refine z_ret ?_ | with_reducible refine z_retN ?_ | with_reducible refine z_ite ?_ | with_reducible refine z_whl ?_ | with_reducible refine z_for ?_ | with_reducible refine z_pass ?_ | with_reducible refine z_brk ?_ | with_reducible refine z_cnt ?_ | with_reducible refine z_nil ?_ | with_reducible refine z_par3 ?_ | with_reducible refine z_sub2 ?_ | with_reducible refine z_sub3 ?_ | with_reducible refine z_raiF ?_ | with_reducible refine z_rai ?_ | with_reducible refine z_try1 ?_ | with_reducible refine w_bin ?_ | with_reducible refine w_int ?_ | with_reducible refine w_str ?_ | with_reducible refine w_blc ?_ | with_reducible refine w_non ?_ | with_reducible refine w_bty ?_ | with_reducible refine w_neg ?_ | with_reducible refine w_cmp ?_ | with_reducible refine w_chn ?_ | with_reducible refine w_and ?_ | with_reducible refine w_or ?_ | with_reducible refine w_not ?_ | with_reducible refine w_ite ?_ | with_reducible refine w_fld ?_ | with_reducible refine w_ix ?_ | with_reducible refine w_sl ?_ | with_reducible refine w_no ?_ | with_reducible refine w_so ?_ | with_reducible refine w_nil ?_ | with_reducible refine w_cons ?_ | with_reducible refine w_tup ?_ | with_reducible refine w_lst ?_ | with_reducible refine w_cal ?_ | with_reducible refine w_mk ?_ | with_reducible refine w_mth ?_ | with_reducible refine w_bi ?_ | with_reducible refine w_bm ?_ | with_reducible refine w_lc ?_ | with_reducible refine w_iex ?_ | with_reducible refine w_rng1 ?_ | with_reducible refine w_rng2 ?_ | with_reducible refine w_enum ?_ | with_reducible refine w_T0 ?_ | with_reducible refine w_T1 ?_ | with_reducible refine w_add ?_ | with_reducible refine w_sub ?_ | with_reducible refine w_dctK ?_ | with_reducible refine w_dget1 ?_ | with_reducible refine w_dget2 ?_ | with_reducible refine w_rev ?_ | ((with_reducible refine w_tru ?_ ?_); exact rfl)))
  refine ⟨sz (by simp), ?_⟩
  (repeat (first | ((with_reducible refine w_var ?_); refine ⟨_, rfl, ?_⟩) | with_reducible refine z_set ?_ | with_reducible refine z_setT ?_ | with_reducible refine z_par ?_ | with_reducible refine z_fld ?_ | with_reducible refine z_sub ?_ | with_reducible refine z_exp ?_ | with_reducible refine z_ret ?_ | with_reducible refine z_retN ?_ | with_reducible refine z_ite ?_ | with_reducible refine z_whl ?_ | with_reducible refine z_for ?_ | with_reducible refine z_pass ?_ | with_reducible refine z_brk ?_ | with_reducible refine z_cnt ?_ | with_reducible refine z_nil ?_ | with_reducible refine z_par3 ?_ | with_reducible refine z_sub2 ?_ | with_reducible refine z_sub3 ?_ | with_reducible refine z_raiF ?_ | with_reducible refine z_rai ?_ | with_reducible refine z_try1 ?_ | with_reducible refine w_bin ?_ | with_reducible refine w_int ?_ | with_reducible refine w_str ?_ | with_reducible refine w_blc ?_ | with_reducible refine w_non ?_ | with_reducible refine w_bty ?_ | with_reducible refine w_neg ?_ | with_reducible refine w_cmp ?_ | with_reducible refine w_chn ?_ | with_reducible refine w_and ?_ | with_reducible refine w_or ?_ | with_reducible refine w_not ?_ | with_reducible refine w_ite ?_ | with_reducible refine w_fld ?_ | with_reducible refine w_ix ?_ | with_reducible refine w_sl ?_ | with_reducible refine w_no ?_ | with_reducible refine w_so ?_ | with_reducible refine w_nil ?_ | with_reducible refine w_cons ?_ | with_reducible refine w_tup ?_ | with_reducible refine w_lst ?_ | with_reducible refine w_cal ?_ | with_reducible refine w_mk ?_ | with_reducible refine w_mth ?_ | with_reducible refine w_bi ?_ | with_reducible refine w_bm ?_ | with_reducible refine w_lc ?_ | with_reducible refine w_iex ?_ | with_reducible refine w_rng1 ?_ | with_reducible refine w_rng2 ?_ | with_reducible refine w_enum ?_ | with_reducible refine w_T0 ?_ | with_reducible refine w_T1 ?_ | with_reducible refine w_add ?_ | with_reducible refine w_sub ?_ | with_reducible refine w_dctK ?_ | with_reducible refine w_dget1 ?_ | with_reducible refine w_dget2 ?_ | with_reducible refine w_rev ?_ | ((with_reducible refine w_tru ?_ ?_); exact rfl)))
  refine oneI h4 (by simp) (by simp) (by simp) fun x4 S4 h5 f4 => ?_
  (repeat (first | ((with_reducible refine w_var ?_); refine ⟨_, rfl, ?_⟩) | with_reducible refine z_set ?_ | with_reducible refine z_setT ?_ | with_reducible refine z_par ?_ | with_reducible refine z_fld ?_ | with_reducible refine z_sub ?_ | with_reducible refine z_exp ?_ | with_reducible refine z_ret ?_ | with_reducible refine z_retN ?_ | with_reducible refine z_ite ?_ | with_reducible refine z_whl ?_ | with_reducible refine z_for ?_ | with_reducible refine z_pass ?_ | with_reducible refine z_brk ?_ | with_reducible refine z_cnt ?_ | with_reducible refine z_nil ?_ | with_reducible refine z_par3 ?_ | with_reducible refine z_sub2 ?_ | with_reducible refine z_sub3 ?_ | with_reducible refine z_raiF ?_ | with_reducible refine z_rai ?_ | with_reducible refine z_try1 ?_ | with_reducible refine w_bin ?_ | with_reducible refine w_int ?_ | with_reducible refine w_str ?_ | with_reducible refine w_blc ?_ | with_reducible refine w_non ?_ | with_reducible refine w_bty ?_ | with_reducible refine w_neg ?_ | with_reducible refine w_cmp ?_ | with_reducible refine w_chn ?_ | with_reducible refine w_and ?_ | with_reducible refine w_or ?_ | with_reducible refine w_not ?_ | with_reducible refine w_ite ?_ | with_reducible refine w_fld ?_ | with_reducible refine w_ix ?_ | with_reducible refine w_sl ?_ | with_reducible refine w_no ?_ | with_reducible refine w_so ?_ | with_reducible refine w_nil ?_ | with_reducible refine w_cons ?_ | with_reducible refine w_tup ?_ | with_reducible refine w_lst ?_ | with_reducible refine w_cal ?_ | with_reducible refine w_mk ?_ | with_reducible refine w_mth ?_ | with_reducible refine w_bi ?_ | with_reducible refine w_bm ?_ | with_reducible refine w_lc ?_ | with_reducible refine w_iex ?_ | with_reducible refine w_rng1 ?_ | with_reducible refine w_rng2 ?_ | with_reducible refine w_enum ?_ | with_reducible refine w_T0 ?_ | with_reducible refine w_T1 ?_ | with_reducible refine w_add ?_ | with_reducible refine w_sub ?_ | with_reducible refine w_dctK ?_ | with_reducible refine w_dget1 ?_ | with_reducible refine w_dget2 ?_ | with_reducible refine w_rev ?_ | ((with_reducible refine w_tru ?_ ?_); exact rfl)))
  try simp only [List.set_cons_succ, List.set_cons_zero]
  (repeat (first | ((with_reducible refine w_var ?_); refine ⟨_, rfl, ?_⟩) | with_reducible refine z_set ?_ | with_reducible refine z_setT ?_ | with_reducible refine z_par ?_ | with_reducible refine z_fld ?_ | with_reducible refine z_sub ?_ | with_reducible refine z_exp ?_ | with_reducible refine z_ret ?_ | with_reducible refine z_retN ?_ | with_reducible refine z_ite ?_ | with_reducible refine z_whl ?_ | with_reducible refine z_for ?_ | with_reducible refine z_pass ?_ | with_reducible refine z_brk ?_ | with_reducible refine z_cnt ?_ | with_reducible refine z_nil ?_ | with_reducible refine z_par3 ?_ | with_reducible refine z_sub2 ?_ | with_reducible refine z_sub3 ?_ | with_reducible refine z_raiF ?_ | with_reducible refine z_rai ?_ | with_reducible refine z_try1 ?_ | with_reducible refine w_bin ?_ | with_reducible refine w_int ?_ | with_reducible refine w_str ?_ | with_reducible refine w_blc ?_ | with_reducible refine w_non ?_ | with_reducible refine w_bty ?_ | with_reducible refine w_neg ?_ | with_reducible refine w_cmp ?_ | with_reducible refine w_chn ?_ | with_reducible refine w_and ?_ | with_reducible refine w_or ?_ | with_reducible refine w_not ?_ | with_reducible refine w_ite ?_ | with_reducible refine w_fld ?_ | with_reducible refine w_ix ?_ | with_reducible refine w_sl ?_ | with_reducible refine w_no ?_ | with_reducible refine w_so ?_ | with_reducible refine w_nil ?_ | with_reducible refine w_cons ?_ | with_reducible refine w_tup ?_ | with_reducible refine w_lst ?_ | with_reducible refine w_cal ?_ | with_reducible refine w_mk ?_ | with_reducible refine w_mth ?_ | with_reducible refine w_bi ?_ | with_reducible refine w_bm ?_ | with_reducible refine w_lc ?_ | with_reducible refine w_iex ?_ | with_reducible refine w_rng1 ?_ | with_reducible refine w_rng2 ?_ | with_reducible refine w_enum ?_ | with_reducible refine w_T0 ?_ | with_reducible refine w_T1 ?_ | with_reducible refine w_add ?_ | with_reducible refine w_sub ?_ | with_reducible refine w_dctK ?_ | with_reducible refine w_dget1 ?_ | with_reducible refine w_dget2 ?_ | with_reducible refine w_rev ?_ | ((with_reducible refine w_tru ?_ ?_); exact rfl)))
  refine digit h5 (by omega) (by omega) fun x5 S5 hx5 hx5' h6 f5 => ?_
  (repeat (first | ((with_reducible refine w_var ?_); refine ⟨_, rfl, ?_⟩) | with_reducible refine z_set ?_ | with_reducible refine z_setT ?_ | with_reducible refine z_par ?_ | with_reducible refine z_fld ?_ | with_reducible refine z_sub ?_ | with_reducible refine z_exp ?_ | with_reducible refine z_ret ?_ | with_reducible refine z_retN ?_ | with_reducible refine z_ite ?_ | with_reducible refine z_whl ?_ | with_reducible refine z_for ?_ | with_reducible refine z_pass ?_ | with_reducible refine z_brk ?_ | with_reducible refine z_cnt ?_ | with_reducible refine z_nil ?_ | with_reducible refine z_par3 ?_ | with_reducible refine z_sub2 ?_ | with_reducible refine z_sub3 ?_ | with_reducible refine z_raiF ?_ | with_reducible refine z_rai ?_ | with_reducible refine z_try1 ?_ | with_reducible refine w_bin ?_ | with_reducible refine w_int ?_ | with_reducible refine w_str ?_ | with_reducible refine w_blc ?_ | with_reducible refine w_non ?_ | with_reducible refine w_bty ?_ | with_reducible refine w_neg ?_ | with_reducible refine w_cmp ?_ | with_reducible refine w_chn ?_ | with_reducible refine w_and ?_ | with_reducible refine w_or ?_ | with_reducible refine w_not ?_ | with_reducible refine w_ite ?_ | with_reducible refine w_fld ?_ | with_reducible refine w_ix ?_ | with_reducible refine w_sl ?_ | with_reducible refine w_no ?_ | with_reducible refine w_so ?_ | with_reducible refine w_nil ?_ | with_reducible refine w_cons ?_ | with_reducible refine w_tup ?_ | with_reducible refine w_lst ?_ | with_reducible refine w_cal ?_ | with_reducible refine w_mk ?_ | with_reducible refine w_mth ?_ | with_reducible refine w_bi ?_ | with_reducible refine w_bm ?_ | with_reducible refine w_lc ?_ | with_reducible refine w_iex ?_ | with_reducible refine w_rng1 ?_ | with_reducible refine w_rng2 ?_ | with_reducible refine w_enum ?_ | with_reducible refine w_T0 ?_ | with_reducible refine w_T1 ?_ | with_reducible refine w_add ?_ | with_reducible refine w_sub ?_ | with_reducible refine w_dctK ?_ | with_reducible refine w_dget1 ?_ | with_reducible refine w_dget2 ?_ | with_reducible refine w_rev ?_ | ((with_reducible refine w_tru ?_ ?_); exact rfl)))
  refine w_div (by omega) ?_
  (repeat (first | ((with_reducible refine w_var ?_); refine ⟨_, rfl, ?_⟩) | with_reducible refine z_set ?_ | with_reducible refine z_setT ?_ | with_reducible refine z_par ?_ | with_reducible refine z_fld ?_ | with_reducible refine z_sub ?_ | with_reducible refine z_exp ?_ | with_reducible refine z_ret ?_ | with_reducible refine z_retN ?_ | with_reducible refine z_ite ?_ | with_reducible refine z_whl ?_ | with_reducible refine z_for ?_ | with_reducible refine z_pass ?_ | with_reducible refine z_brk ?_ | with_reducible refine z_cnt ?_ | with_reducible refine z_nil ?_ | with_reducible refine z_par3 ?_ | with_reducible refine z_sub2 ?_ | with_reducible refine z_sub3 ?_ | with_reducible refine z_raiF ?_ | with_reducible refine z_rai ?_ | with_reducible refine z_try1 ?_ | with_reducible refine w_bin ?_ | with_reducible refine w_int ?_ | with_reducible refine w_str ?_ | with_reducible refine w_blc ?_ | with_reducible refine w_non ?_ | with_reducible refine w_bty ?_ | with_reducible refine w_neg ?_ | with_reducible refine w_cmp ?_ | with_reducible refine w_chn ?_ | with_reducible refine w_and ?_ | with_reducible refine w_or ?_ | with_reducible refine w_not ?_ | with_reducible refine w_ite ?_ | with_reducible refine w_fld ?_ | with_reducible refine w_ix ?_ | with_reducible refine w_sl ?_ | with_reducible refine w_no ?_ | with_reducible refine w_so ?_ | with_reducible refine w_nil ?_ | with_reducible refine w_cons ?_ | with_reducible refine w_tup ?_ | with_reducible refine w_lst ?_ | with_reducible refine w_cal ?_ | with_reducible refine w_mk ?_ | with_reducible refine w_mth ?_ | with_reducible refine w_bi ?_ | with_reducible refine w_bm ?_ | with_reducible refine w_lc ?_ | with_reducible refine w_iex ?_ | with_reducible refine w_rng1 ?_ | with_reducible refine w_rng2 ?_ | with_reducible refine w_enum ?_ | with_reducible refine w_T0 ?_ | with_reducible refine w_T1 ?_ | with_reducible refine w_add ?_ | with_reducible refine w_sub ?_ | with_reducible refine w_dctK ?_ | with_reducible refine w_dget1 ?_ | with_reducible refine w_dget2 ?_ | with_reducible refine w_rev ?_ | ((with_reducible refine w_tru ?_ ?_); exact rfl)))
  refine digit h6 (by omega) (by omega) fun x6 S6 hx6 hx6' h7 f6 => ?_
  (repeat (first | ((with_reducible refine w_var ?_); refine ⟨_, rfl, ?_⟩) | with_reducible refine z_set ?_ | with_reducible refine z_setT ?_ | with_reducible refine z_par ?_ | with_reducible refine z_fld ?_ | with_reducible refine z_sub ?_ | with_reducible refine z_exp ?_ | with_reducible refine z_ret ?_ | with_reducible refine z_retN ?_ | with_reducible refine z_ite ?_ | with_reducible refine z_whl ?_ | with_reducible refine z_for ?_ | with_reducible refine z_pass ?_ | with_reducible refine z_brk ?_ | with_reducible refine z_cnt ?_ | with_reducible refine z_nil ?_ | with_reducible refine z_par3 ?_ | with_reducible refine z_sub2 ?_ | with_reducible refine z_sub3 ?_ | with_reducible refine z_raiF ?_ | with_reducible refine z_rai ?_ | with_reducible refine z_try1 ?_ | with_reducible refine w_bin ?_ | with_reducible refine w_int ?_ | with_reducible refine w_str ?_ | with_reducible refine w_blc ?_ | with_reducible refine w_non ?_ | with_reducible refine w_bty ?_ | with_reducible refine w_neg ?_ | with_reducible refine w_cmp ?_ | with_reducible refine w_chn ?_ | with_reducible refine w_and ?_ | with_reducible refine w_or ?_ | with_reducible refine w_not ?_ | with_reducible refine w_ite ?_ | with_reducible refine w_fld ?_ | with_reducible refine w_ix ?_ | with_reducible refine w_sl ?_ | with_reducible refine w_no ?_ | with_reducible refine w_so ?_ | with_reducible refine w_nil ?_ | with_reducible refine w_cons ?_ | with_reducible refine w_tup ?_ | with_reducible refine w_lst ?_ | with_reducible refine w_cal ?_ | with_reducible refine w_mk ?_ | with_reducible refine w_mth ?_ | with_reducible refine w_bi ?_ | with_reducible refine w_bm ?_ | with_reducible refine w_lc ?_ | with_reducible refine w_iex ?_ | with_reducible refine w_rng1 ?_ | with_reducible refine w_rng2 ?_ | with_reducible refine w_enum ?_ | with_reducible refine w_T0 ?_ | with_reducible refine w_T1 ?_ | with_reducible refine w_add ?_ | with_reducible refine w_sub ?_ | with_reducible refine w_dctK ?_ | with_reducible refine w_dget1 ?_ | with_reducible refine w_dget2 ?_ | with_reducible refine w_rev ?_ | ((with_reducible refine w_tru ?_ ?_); exact rfl)))
  refine digit h7 (by omega) (by omega) fun x7 S7 hx7 hx7' h8 f7 => ?_
  (repeat (first | ((with_reducible refine w_var ?_); refine ⟨_, rfl, ?_⟩) | with_reducible refine z_set ?_ | with_reducible refine z_setT ?_ | with_reducible refine z_par ?_ | with_reducible refine z_fld ?_ | with_reducible refine z_sub ?_ | with_reducible refine z_exp ?_ | with_reducible refine z_ret ?_ | with_reducible refine z_retN ?_ | with_reducible refine z_ite ?_ | with_reducible refine z_whl ?_ | with_reducible refine z_for ?_ | with_reducible refine z_pass ?_ | with_reducible refine z_brk ?_ | with_reducible refine z_cnt ?_ | with_reducible refine z_nil ?_ | with_reducible refine z_par3 ?_ | with_reducible refine z_sub2 ?_ | with_reducible refine z_sub3 ?_ | with_reducible refine z_raiF ?_ | with_reducible refine z_rai ?_ | with_reducible refine z_try1 ?_ | with_reducible refine w_bin ?_ | with_reducible refine w_int ?_ | with_reducible refine w_str ?_ | with_reducible refine w_blc ?_ | with_reducible refine w_non ?_ | with_reducible refine w_bty ?_ | with_reducible refine w_neg ?_ | with_reducible refine w_cmp ?_ | with_reducible refine w_chn ?_ | with_reducible refine w_and ?_ | with_reducible refine w_or ?_ | with_reducible refine w_not ?_ | with_reducible refine w_ite ?_ | with_reducible refine w_fld ?_ | with_reducible refine w_ix ?_ | with_reducible refine w_sl ?_ | with_reducible refine w_no ?_ | with_reducible refine w_so ?_ | with_reducible refine w_nil ?_ | with_reducible refine w_cons ?_ | with_reducible refine w_tup ?_ | with_reducible refine w_lst ?_ | with_reducible refine w_cal ?_ | with_reducible refine w_mk ?_ | with_reducible refine w_mth ?_ | with_reducible refine w_bi ?_ | with_reducible refine w_bm ?_ | with_reducible refine w_lc ?_ | with_reducible refine w_iex ?_ | with_reducible refine w_rng1 ?_ | with_reducible refine w_rng2 ?_ | with_reducible refine w_enum ?_ | with_reducible refine w_T0 ?_ | with_reducible refine w_T1 ?_ | with_reducible refine w_add ?_ | with_reducible refine w_sub ?_ | with_reducible refine w_dctK ?_ | with_reducible refine w_dget1 ?_ | with_reducible refine w_dget2 ?_ | with_reducible refine w_rev ?_ | ((with_reducible refine w_tru ?_ ?_); exact rfl)))
  refine ⟨sz (by simp), ?_⟩
  (repeat (first | ((with_reducible refine w_var ?_); refine ⟨_, rfl, ?_⟩) | with_reducible refine z_set ?_ | with_reducible refine z_setT ?_ | with_reducible refine z_par ?_ | with_reducible refine z_fld ?_ | with_reducible refine z_sub ?_ | with_reducible refine z_exp ?_ | with_reducible refine z_ret ?_ | with_reducible refine z_retN ?_ | with_reducible refine z_ite ?_ | with_reducible refine z_whl ?_ | with_reducible refine z_for ?_ | with_reducible refine z_pass ?_ | with_reducible refine z_brk ?_ | with_reducible refine z_cnt ?_ | with_reducible refine z_nil ?_ | with_reducible refine z_par3 ?_ | with_reducible refine z_sub2 ?_ | with_reducible refine z_sub3 ?_ | with_reducible refine z_raiF ?_ | with_reducible refine z_rai ?_ | with_reducible refine z_try1 ?_ | with_reducible refine w_bin ?_ | with_reducible refine w_int ?_ | with_reducible refine w_str ?_ | with_reducible refine w_blc ?_ | with_reducible refine w_non ?_ | with_reducible refine w_bty ?_ | with_reducible refine w_neg ?_ | with_reducible refine w_cmp ?_ | with_reducible refine w_chn ?_ | with_reducible refine w_and ?_ | with_reducible refine w_or ?_ | with_reducible refine w_not ?_ | with_reducible refine w_ite ?_ | with_reducible refine w_fld ?_ | with_reducible refine w_ix ?_ | with_reducible refine w_sl ?_ | with_reducible refine w_no ?_ | with_reducible refine w_so ?_ | with_reducible refine w_nil ?_ | with_reducible refine w_cons ?_ | with_reducible refine w_tup ?_ | with_reducible refine w_lst ?_ | with_reducible refine w_cal ?_ | with_reducible refine w_mk ?_ | with_reducible refine w_mth ?_ | with_reducible refine w_bi ?_ | with_reducible refine w_bm ?_ | with_reducible refine w_lc ?_ | with_reducible refine w_iex ?_ | with_reducible refine w_rng1 ?_ | with_reducible refine w_rng2 ?_ | with_reducible refine w_enum ?_ | with_reducible refine w_T0 ?_ | with_reducible refine w_T1 ?_ | with_reducible refine w_add ?_ | with_reducible refine w_sub ?_ | with_reducible refine w_dctK ?_ | with_reducible refine w_dget1 ?_ | with_reducible refine w_dget2 ?_ | with_reducible refine w_rev ?_ | ((with_reducible refine w_tru ?_ ?_); exact rfl)))
  refine oneI h8 (by simp) (by simp) (by simp) fun x8 S8 h9 f8 => ?_
  try simp only [List.set_cons_succ, List.set_cons_zero]
  (repeat (first | ((with_reducible refine w_var ?_); refine ⟨_, rfl, ?_⟩) | with_reducible refine z_set ?_ | with_reducible refine z_setT ?_ | with_reducible refine z_par ?_ | with_reducible refine z_fld ?_ | with_reducible refine z_sub ?_ | with_reducible refine z_exp ?_ | with_reducible refine z_ret ?_ | with_reducible refine z_retN ?_ | with_reducible refine z_ite ?_ | with_reducible refine z_whl ?_ | with_reducible refine z_for ?_ | with_reducible refine z_pass ?_ | with_reducible refine z_brk ?_ | with_reducible refine z_cnt ?_ | with_reducible refine z_nil ?_ | with_reducible refine z_par3 ?_ | with_reducible refine z_sub2 ?_ | with_reducible refine z_sub3 ?_ | with_reducible refine z_raiF ?_ | with_reducible refine z_rai ?_ | with_reducible refine z_try1 ?_ | with_reducible refine w_bin ?_ | with_reducible refine w_int ?_ | with_reducible refine w_str ?_ | with_reducible refine w_blc ?_ | with_reducible refine w_non ?_ | with_reducible refine w_bty ?_ | with_reducible refine w_neg ?_ | with_reducible refine w_cmp ?_ | with_reducible refine w_chn ?_ | with_reducible refine w_and ?_ | with_reducible refine w_or ?_ | with_reducible refine w_not ?_ | with_reducible refine w_ite ?_ | with_reducible refine w_fld ?_ | with_reducible refine w_ix ?_ | with_reducible refine w_sl ?_ | with_reducible refine w_no ?_ | with_reducible refine w_so ?_ | with_reducible refine w_nil ?_ | with_reducible refine w_cons ?_ | with_reducible refine w_tup ?_ | with_reducible refine w_lst ?_ | with_reducible refine w_cal ?_ | with_reducible refine w_mk ?_ | with_reducible refine w_mth ?_ | with_reducible refine w_bi ?_ | with_reducible refine w_bm ?_ | with_reducible refine w_lc ?_ | with_reducible refine w_iex ?_ | with_reducible refine w_rng1 ?_ | with_reducible refine w_rng2 ?_ | with_reducible refine w_enum ?_ | with_reducible refine w_T0 ?_ | with_reducible refine w_T1 ?_ | with_reducible refine w_add ?_ | with_reducible refine w_sub ?_ | with_reducible refine w_dctK ?_ | with_reducible refine w_dget1 ?_ | with_reducible refine w_dget2 ?_ | with_reducible refine w_rev ?_ | ((with_reducible refine w_tru ?_ ?_); exact rfl)))
  refine digit h9 (by omega) (by omega) fun y1 T1 hy1 hy1' g1 e1 => ?_
  (repeat (first | ((with_reducible refine w_var ?_); refine ⟨_, rfl, ?_⟩) | with_reducible refine z_set ?_ | with_reducible refine z_setT ?_ | with_reducible refine z_par ?_ | with_reducible refine z_fld ?_ | with_reducible refine z_sub ?_ | with_reducible refine z_exp ?_ | with_reducible refine z_ret ?_ | with_reducible refine z_retN ?_ | with_reducible refine z_ite ?_ | with_reducible refine z_whl ?_ | with_reducible refine z_for ?_ | with_reducible refine z_pass ?_ | with_reducible refine z_brk ?_ | with_reducible refine z_cnt ?_ | with_reducible refine z_nil ?_ | with_reducible refine z_par3 ?_ | with_reducible refine z_sub2 ?_ | with_reducible refine z_sub3 ?_ | with_reducible refine z_raiF ?_ | with_reducible refine z_rai ?_ | with_reducible refine z_try1 ?_ | with_reducible refine w_bin ?_ | with_reducible refine w_int ?_ | with_reducible refine w_str ?_ | with_reducible refine w_blc ?_ | with_reducible refine w_non ?_ | with_reducible refine w_bty ?_ | with_reducible refine w_neg ?_ | with_reducible refine w_cmp ?_ | with_reducible refine w_chn ?_ | with_reducible refine w_and ?_ | with_reducible refine w_or ?_ | with_reducible refine w_not ?_ | with_reducible refine w_ite ?_ | with_reducible refine w_fld ?_ | with_reducible refine w_ix ?_ | with_reducible refine w_sl ?_ | with_reducible refine w_no ?_ | with_reducible refine w_so ?_ | with_reducible refine w_nil ?_ | with_reducible refine w_cons ?_ | with_reducible refine w_tup ?_ | with_reducible refine w_lst ?_ | with_reducible refine w_cal ?_ | with_reducible refine w_mk ?_ | with_reducible refine w_mth ?_ | with_reducible refine w_bi ?_ | with_reducible refine w_bm ?_ | with_reducible refine w_lc ?_ | with_reducible refine w_iex ?_ | with_reducible refine w_rng1 ?_ | with_reducible refine w_rng2 ?_ | with_reducible refine w_enum ?_ | with_reducible refine w_T0 ?_ | with_reducible refine w_T1 ?_ | with_reducible refine w_add ?_ | with_reducible refine w_sub ?_ | with_reducible refine w_dctK ?_ | with_reducible refine w_dget1 ?_ | with_reducible refine w_dget2 ?_ | with_reducible refine w_rev ?_ | ((with_reducible refine w_tru ?_ ?_); exact rfl)))
  refine digit g1 (by omega) (by omega) fun y2 T2 hy2 hy2' g2 e2 => ?_
  (repeat (first | ((with_reducible refine w_var ?_); refine ⟨_, rfl, ?_⟩) | with_reducible refine z_set ?_ | with_reducible refine z_setT ?_ | with_reducible refine z_par ?_ | with_reducible refine z_fld ?_ | with_reducible refine z_sub ?_ | with_reducible refine z_exp ?_ | with_reducible refine z_ret ?_ | with_reducible refine z_retN ?_ | with_reducible refine z_ite ?_ | with_reducible refine z_whl ?_ | with_reducible refine z_for ?_ | with_reducible refine z_pass ?_ | with_reducible refine z_brk ?_ | with_reducible refine z_cnt ?_ | with_reducible refine z_nil ?_ | with_reducible refine z_par3 ?_ | with_reducible refine z_sub2 ?_ | with_reducible refine z_sub3 ?_ | with_reducible refine z_raiF ?_ | with_reducible refine z_rai ?_ | with_reducible refine z_try1 ?_ | with_reducible refine w_bin ?_ | with_reducible refine w_int ?_ | with_reducible refine w_str ?_ | with_reducible refine w_blc ?_ | with_reducible refine w_non ?_ | with_reducible refine w_bty ?_ | with_reducible refine w_neg ?_ | with_reducible refine w_cmp ?_ | with_reducible refine w_chn ?_ | with_reducible refine w_and ?_ | with_reducible refine w_or ?_ | with_reducible refine w_not ?_ | with_reducible refine w_ite ?_ | with_reducible refine w_fld ?_ | with_reducible refine w_ix ?_ | with_reducible refine w_sl ?_ | with_reducible refine w_no ?_ | with_reducible refine w_so ?_ | with_reducible refine w_nil ?_ | with_reducible refine w_cons ?_ | with_reducible refine w_tup ?_ | with_reducible refine w_lst ?_ | with_reducible refine w_cal ?_ | with_reducible refine w_mk ?_ | with_reducible refine w_mth ?_ | with_reducible refine w_bi ?_ | with_reducible refine w_bm ?_ | with_reducible refine w_lc ?_ | with_reducible refine w_iex ?_ | with_reducible refine w_rng1 ?_ | with_reducible refine w_rng2 ?_ | with_reducible refine w_enum ?_ | with_reducible refine w_T0 ?_ | with_reducible refine w_T1 ?_ | with_reducible refine w_add ?_ | with_reducible refine w_sub ?_ | with_reducible refine w_dctK ?_ | with_reducible refine w_dget1 ?_ | with_reducible refine w_dget2 ?_ | with_reducible refine w_rev ?_ | ((with_reducible refine w_tru ?_ ?_); exact rfl)))
  refine digit g2 (by omega) (by omega) fun y3 T3 hy3 hy3' g3 e3 => ?_
  (repeat (first | ((with_reducible refine w_var ?_); refine ⟨_, rfl, ?_⟩) | with_reducible refine z_set ?_ | with_reducible refine z_setT ?_ | with_reducible refine z_par ?_ | with_reducible refine z_fld ?_ | with_reducible refine z_sub ?_ | with_reducible refine z_exp ?_ | with_reducible refine z_ret ?_ | with_reducible refine z_retN ?_ | with_reducible refine z_ite ?_ | with_reducible refine z_whl ?_ | with_reducible refine z_for ?_ | with_reducible refine z_pass ?_ | with_reducible refine z_brk ?_ | with_reducible refine z_cnt ?_ | with_reducible refine z_nil ?_ | with_reducible refine z_par3 ?_ | with_reducible refine z_sub2 ?_ | with_reducible refine z_sub3 ?_ | with_reducible refine z_raiF ?_ | with_reducible refine z_rai ?_ | with_reducible refine z_try1 ?_ | with_reducible refine w_bin ?_ | with_reducible refine w_int ?_ | with_reducible refine w_str ?_ | with_reducible refine w_blc ?_ | with_reducible refine w_non ?_ | with_reducible refine w_bty ?_ | with_reducible refine w_neg ?_ | with_reducible refine w_cmp ?_ | with_reducible refine w_chn ?_ | with_reducible refine w_and ?_ | with_reducible refine w_or ?_ | with_reducible refine w_not ?_ | with_reducible refine w_ite ?_ | with_reducible refine w_fld ?_ | with_reducible refine w_ix ?_ | with_reducible refine w_sl ?_ | with_reducible refine w_no ?_ | with_reducible refine w_so ?_ | with_reducible refine w_nil ?_ | with_reducible refine w_cons ?_ | with_reducible refine w_tup ?_ | with_reducible refine w_lst ?_ | with_reducible refine w_cal ?_ | with_reducible refine w_mk ?_ | with_reducible refine w_mth ?_ | with_reducible refine w_bi ?_ | with_reducible refine w_bm ?_ | with_reducible refine w_lc ?_ | with_reducible refine w_iex ?_ | with_reducible refine w_rng1 ?_ | with_reducible refine w_rng2 ?_ | with_reducible refine w_enum ?_ | with_reducible refine w_T0 ?_ | with_reducible refine w_T1 ?_ | with_reducible refine w_add ?_ | with_reducible refine w_sub ?_ | with_reducible refine w_dctK ?_ | with_reducible refine w_dget1 ?_ | with_reducible refine w_dget2 ?_ | with_reducible refine w_rev ?_ | ((with_reducible refine w_tru ?_ ?_); exact rfl)))
  refine ⟨sz (by simp), ?_⟩
  (repeat (first | ((with_reducible refine w_var ?_); refine ⟨_, rfl, ?_⟩) | with_reducible refine z_set ?_ | with_reducible refine z_setT ?_ | with_reducible refine z_par ?_ | with_reducible refine z_fld ?_ | with_reducible refine z_sub ?_ | with_reducible refine z_exp ?_ | with_reducible refine z_ret ?_ | with_reducible refine z_retN ?_ | with_reducible refine z_ite ?_ | with_reducible refine z_whl ?_ | with_reducible refine z_for ?_ | with_reducible refine z_pass ?_ | with_reducible refine z_brk ?_ | with_reducible refine z_cnt ?_ | with_reducible refine z_nil ?_ | with_reducible refine z_par3 ?_ | with_reducible refine z_sub2 ?_ | with_reducible refine z_sub3 ?_ | with_reducible refine z_raiF ?_ | with_reducible refine z_rai ?_ | with_reducible refine z_try1 ?_ | with_reducible refine w_bin ?_ | with_reducible refine w_int ?_ | with_reducible refine w_str ?_ | with_reducible refine w_blc ?_ | with_reducible refine w_non ?_ | with_reducible refine w_bty ?_ | with_reducible refine w_neg ?_ | with_reducible refine w_cmp ?_ | with_reducible refine w_chn ?_ | with_reducible refine w_and ?_ | with_reducible refine w_or ?_ | with_reducible refine w_not ?_ | with_reducible refine w_ite ?_ | with_reducible refine w_fld ?_ | with_reducible refine w_ix ?_ | with_reducible refine w_sl ?_ | with_reducible refine w_no ?_ | with_reducible refine w_so ?_ | with_reducible refine w_nil ?_ | with_reducible refine w_cons ?_ | with_reducible refine w_tup ?_ | with_reducible refine w_lst ?_ | with_reducible refine w_cal ?_ | with_reducible refine w_mk ?_ | with_reducible refine w_mth ?_ | with_reducible refine w_bi ?_ | with_reducible refine w_bm ?_ | with_reducible refine w_lc ?_ | with_reducible refine w_iex ?_ | with_reducible refine w_rng1 ?_ | with_reducible refine w_rng2 ?_ | with_reducible refine w_enum ?_ | with_reducible refine w_T0 ?_ | with_reducible refine w_T1 ?_ | with_reducible refine w_add ?_ | with_reducible refine w_sub ?_ | with_reducible refine w_dctK ?_ | with_reducible refine w_dget1 ?_ | with_reducible refine w_dget2 ?_ | with_reducible refine w_rev ?_ | ((with_reducible refine w_tru ?_ ?_); exact rfl)))
  refine oneI' g3 (by simp) (by simp) (by simp) fun y4 T4 hy4 g4 e4 => ?_
  have hy4 : y4 ≤ m := by
    simp only [List.mem_cons, List.not_mem_nil, or_false, D.int.injEq] at hy4
    omega
  try simp only [List.set_cons_succ, List.set_cons_zero]
  (repeat (first | ((with_reducible refine w_var ?_); refine ⟨_, rfl, ?_⟩) | with_reducible refine z_set ?_ | with_reducible refine z_setT ?_ | with_reducible refine z_par ?_ | with_reducible refine z_fld ?_ | with_reducible refine z_sub ?_ | with_reducible refine z_exp ?_ | with_reducible refine z_ret ?_ | with_reducible refine z_retN ?_ | with_reducible refine z_ite ?_ | with_reducible refine z_whl ?_ | with_reducible refine z_for ?_ | with_reducible refine z_pass ?_ | with_reducible refine z_brk ?_ | with_reducible refine z_cnt ?_ | with_reducible refine z_nil ?_ | with_reducible refine z_par3 ?_ | with_reducible refine z_sub2 ?_ | with_reducible refine z_sub3 ?_ | with_reducible refine z_raiF ?_ | with_reducible refine z_rai ?_ | with_reducible refine z_try1 ?_ | with_reducible refine w_bin ?_ | with_reducible refine w_int ?_ | with_reducible refine w_str ?_ | with_reducible refine w_blc ?_ | with_reducible refine w_non ?_ | with_reducible refine w_bty ?_ | with_reducible refine w_neg ?_ | with_reducible refine w_cmp ?_ | with_reducible refine w_chn ?_ | with_reducible refine w_and ?_ | with_reducible refine w_or ?_ | with_reducible refine w_not ?_ | with_reducible refine w_ite ?_ | with_reducible refine w_fld ?_ | with_reducible refine w_ix ?_ | with_reducible refine w_sl ?_ | with_reducible refine w_no ?_ | with_reducible refine w_so ?_ | with_reducible refine w_nil ?_ | with_reducible refine w_cons ?_ | with_reducible refine w_tup ?_ | with_reducible refine w_lst ?_ | with_reducible refine w_cal ?_ | with_reducible refine w_mk ?_ | with_reducible refine w_mth ?_ | with_reducible refine w_bi ?_ | with_reducible refine w_bm ?_ | with_reducible refine w_lc ?_ | with_reducible refine w_iex ?_ | with_reducible refine w_rng1 ?_ | with_reducible refine w_rng2 ?_ | with_reducible refine w_enum ?_ | with_reducible refine w_T0 ?_ | with_reducible refine w_T1 ?_ | with_reducible refine w_add ?_ | with_reducible refine w_sub ?_ | with_reducible refine w_dctK ?_ | with_reducible refine w_dget1 ?_ | with_reducible refine w_dget2 ?_ | with_reducible refine w_rev ?_ | ((with_reducible refine w_tru ?_ ?_); exact rfl)))
  refine ⟨sz (by simp), ?_⟩
  (repeat (first | ((with_reducible refine w_var ?_); refine ⟨_, rfl, ?_⟩) | with_reducible refine z_set ?_ | with_reducible refine z_setT ?_ | with_reducible refine z_par ?_ | with_reducible refine z_fld ?_ | with_reducible refine z_sub ?_ | with_reducible refine z_exp ?_ | with_reducible refine z_ret ?_ | with_reducible refine z_retN ?_ | with_reducible refine z_ite ?_ | with_reducible refine z_whl ?_ | with_reducible refine z_for ?_ | with_reducible refine z_pass ?_ | with_reducible refine z_brk ?_ | with_reducible refine z_cnt ?_ | with_reducible refine z_nil ?_ | with_reducible refine z_par3 ?_ | with_reducible refine z_sub2 ?_ | with_reducible refine z_sub3 ?_ | with_reducible refine z_raiF ?_ | with_reducible refine z_rai ?_ | with_reducible refine z_try1 ?_ | with_reducible refine w_bin ?_ | with_reducible refine w_int ?_ | with_reducible refine w_str ?_ | with_reducible refine w_blc ?_ | with_reducible refine w_non ?_ | with_reducible refine w_bty ?_ | with_reducible refine w_neg ?_ | with_reducible refine w_cmp ?_ | with_reducible refine w_chn ?_ | with_reducible refine w_and ?_ | with_reducible refine w_or ?_ | with_reducible refine w_not ?_ | with_reducible refine w_ite ?_ | with_reducible refine w_fld ?_ | with_reducible refine w_ix ?_ | with_reducible refine w_sl ?_ | with_reducible refine w_no ?_ | with_reducible refine w_so ?_ | with_reducible refine w_nil ?_ | with_reducible refine w_cons ?_ | with_reducible refine w_tup ?_ | with_reducible refine w_lst ?_ | with_reducible refine w_cal ?_ | with_reducible refine w_mk ?_ | with_reducible refine w_mth ?_ | with_reducible refine w_bi ?_ | with_reducible refine w_bm ?_ | with_reducible refine w_lc ?_ | with_reducible refine w_iex ?_ | with_reducible refine w_rng1 ?_ | with_reducible refine w_rng2 ?_ | with_reducible refine w_enum ?_ | with_reducible refine w_T0 ?_ | with_reducible refine w_T1 ?_ | with_reducible refine w_add ?_ | with_reducible refine w_sub ?_ | with_reducible refine w_dctK ?_ | with_reducible refine w_dget1 ?_ | with_reducible refine w_dget2 ?_ | with_reducible refine w_rev ?_ | ((with_reducible refine w_tru ?_ ?_); exact rfl)))
  have gl := g4.lt
  refine one (g4.fr (B := []) DI.Fr.push (by simp)) get_push (by omega) (by simp) (by simp) fun x T5 hm g5 e5 => ?_
  have fr := (((((((f1.trans f2).trans f3).trans f4).trans f5).trans f6).trans f7).trans f8).trans ((e1.trans e2).trans (e3.trans (e4.trans (DI.Fr.push.trans e5))))
  (repeat (first | ((with_reducible refine w_var ?_); refine ⟨_, rfl, ?_⟩) | with_reducible refine z_set ?_ | with_reducible refine z_setT ?_ | with_reducible refine z_par ?_ | with_reducible refine z_fld ?_ | with_reducible refine z_sub ?_ | with_reducible refine z_exp ?_ | with_reducible refine z_ret ?_ | with_reducible refine z_retN ?_ | with_reducible refine z_ite ?_ | with_reducible refine z_whl ?_ | with_reducible refine z_for ?_ | with_reducible refine z_pass ?_ | with_reducible refine z_brk ?_ | with_reducible refine z_cnt ?_ | with_reducible refine z_nil ?_ | with_reducible refine z_par3 ?_ | with_reducible refine z_sub2 ?_ | with_reducible refine z_sub3 ?_ | with_reducible refine z_raiF ?_ | with_reducible refine z_rai ?_ | with_reducible refine z_try1 ?_ | with_reducible refine w_bin ?_ | with_reducible refine w_int ?_ | with_reducible refine w_str ?_ | with_reducible refine w_blc ?_ | with_reducible refine w_non ?_ | with_reducible refine w_bty ?_ | with_reducible refine w_neg ?_ | with_reducible refine w_cmp ?_ | with_reducible refine w_chn ?_ | with_reducible refine w_and ?_ | with_reducible refine w_or ?_ | with_reducible refine w_not ?_ | with_reducible refine w_ite ?_ | with_reducible refine w_fld ?_ | with_reducible refine w_ix ?_ | with_reducible refine w_sl ?_ | with_reducible refine w_no ?_ | with_reducible refine w_so ?_ | with_reducible refine w_nil ?_ | with_reducible refine w_cons ?_ | with_reducible refine w_tup ?_ | with_reducible refine w_lst ?_ | with_reducible refine w_cal ?_ | with_reducible refine w_mk ?_ | with_reducible refine w_mth ?_ | with_reducible refine w_bi ?_ | with_reducible refine w_bm ?_ | with_reducible refine w_lc ?_ | with_reducible refine w_iex ?_ | with_reducible refine w_rng1 ?_ | with_reducible refine w_rng2 ?_ | with_reducible refine w_enum ?_ | with_reducible refine w_T0 ?_ | with_reducible refine w_T1 ?_ | with_reducible refine w_add ?_ | with_reducible refine w_sub ?_ | with_reducible refine w_dctK ?_ | with_reducible refine w_dget1 ?_ | with_reducible refine w_dget2 ?_ | with_reducible refine w_rev ?_ | ((with_reducible refine w_tru ?_ ?_); exact rfl)))
  refine w_div (by omega) ?_
  (repeat (first | ((with_reducible refine w_var ?_); refine ⟨_, rfl, ?_⟩) | with_reducible refine z_set ?_ | with_reducible refine z_setT ?_ | with_reducible refine z_par ?_ | with_reducible refine z_fld ?_ | with_reducible refine z_sub ?_ | with_reducible refine z_exp ?_ | with_reducible refine z_ret ?_ | with_reducible refine z_retN ?_ | with_reducible refine z_ite ?_ | with_reducible refine z_whl ?_ | with_reducible refine z_for ?_ | with_reducible refine z_pass ?_ | with_reducible refine z_brk ?_ | with_reducible refine z_cnt ?_ | with_reducible refine z_nil ?_ | with_reducible refine z_par3 ?_ | with_reducible refine z_sub2 ?_ | with_reducible refine z_sub3 ?_ | with_reducible refine z_raiF ?_ | with_reducible refine z_rai ?_ | with_reducible refine z_try1 ?_ | with_reducible refine w_bin ?_ | with_reducible refine w_int ?_ | with_reducible refine w_str ?_ | with_reducible refine w_blc ?_ | with_reducible refine w_non ?_ | with_reducible refine w_bty ?_ | with_reducible refine w_neg ?_ | with_reducible refine w_cmp ?_ | with_reducible refine w_chn ?_ | with_reducible refine w_and ?_ | with_reducible refine w_or ?_ | with_reducible refine w_not ?_ | with_reducible refine w_ite ?_ | with_reducible refine w_fld ?_ | with_reducible refine w_ix ?_ | with_reducible refine w_sl ?_ | with_reducible refine w_no ?_ | with_reducible refine w_so ?_ | with_reducible refine w_nil ?_ | with_reducible refine w_cons ?_ | with_reducible refine w_tup ?_ | with_reducible refine w_lst ?_ | with_reducible refine w_cal ?_ | with_reducible refine w_mk ?_ | with_reducible refine w_mth ?_ | with_reducible refine w_bi ?_ | with_reducible refine w_bm ?_ | with_reducible refine w_lc ?_ | with_reducible refine w_iex ?_ | with_reducible refine w_rng1 ?_ | with_reducible refine w_rng2 ?_ | with_reducible refine w_enum ?_ | with_reducible refine w_T0 ?_ | with_reducible refine w_T1 ?_ | with_reducible refine w_add ?_ | with_reducible refine w_sub ?_ | with_reducible refine w_dctK ?_ | with_reducible refine w_dget1 ?_ | with_reducible refine w_dget2 ?_ | with_reducible refine w_rev ?_ | ((with_reducible refine w_tru ?_ ?_); exact rfl)))
  refine digit g5 (by omega) (by omega) fun y6 T6 hy6 hy6' g6 e6 => ?_
  (repeat (first | ((with_reducible refine w_var ?_); refine ⟨_, rfl, ?_⟩) | with_reducible refine z_set ?_ | with_reducible refine z_setT ?_ | with_reducible refine z_par ?_ | with_reducible refine z_fld ?_ | with_reducible refine z_sub ?_ | with_reducible refine z_exp ?_ | with_reducible refine z_ret ?_ | with_reducible refine z_retN ?_ | with_reducible refine z_ite ?_ | with_reducible refine z_whl ?_ | with_reducible refine z_for ?_ | with_reducible refine z_pass ?_ | with_reducible refine z_brk ?_ | with_reducible refine z_cnt ?_ | with_reducible refine z_nil ?_ | with_reducible refine z_par3 ?_ | with_reducible refine z_sub2 ?_ | with_reducible refine z_sub3 ?_ | with_reducible refine z_raiF ?_ | with_reducible refine z_rai ?_ | with_reducible refine z_try1 ?_ | with_reducible refine w_bin ?_ | with_reducible refine w_int ?_ | with_reducible refine w_str ?_ | with_reducible refine w_blc ?_ | with_reducible refine w_non ?_ | with_reducible refine w_bty ?_ | with_reducible refine w_neg ?_ | with_reducible refine w_cmp ?_ | with_reducible refine w_chn ?_ | with_reducible refine w_and ?_ | with_reducible refine w_or ?_ | with_reducible refine w_not ?_ | with_reducible refine w_ite ?_ | with_reducible refine w_fld ?_ | with_reducible refine w_ix ?_ | with_reducible refine w_sl ?_ | with_reducible refine w_no ?_ | with_reducible refine w_so ?_ | with_reducible refine w_nil ?_ | with_reducible refine w_cons ?_ | with_reducible refine w_tup ?_ | with_reducible refine w_lst ?_ | with_reducible refine w_cal ?_ | with_reducible refine w_mk ?_ | with_reducible refine w_mth ?_ | with_reducible refine w_bi ?_ | with_reducible refine w_bm ?_ | with_reducible refine w_lc ?_ | with_reducible refine w_iex ?_ | with_reducible refine w_rng1 ?_ | with_reducible refine w_rng2 ?_ | with_reducible refine w_enum ?_ | with_reducible refine w_T0 ?_ | with_reducible refine w_T1 ?_ | with_reducible refine w_add ?_ | with_reducible refine w_sub ?_ | with_reducible refine w_dctK ?_ | with_reducible refine w_dget1 ?_ | with_reducible refine w_dget2 ?_ | with_reducible refine w_rev ?_ | ((with_reducible refine w_tru ?_ ?_); exact rfl)))
  have hs : ∃ s, x = .str (sd s) := by
    simp only [List.mem_cons, List.not_mem_nil, or_false] at hm
    rcases hm with rfl | rfl
    · exact ⟨true, rfl⟩
    · exact ⟨false, rfl⟩
  obtain ⟨s, rfl⟩ := hs
  refine ⟨sz (by simp), ?_⟩
  exact hQ ⟨s, _, _, _, _, _⟩ T6 (by show -3 ≤ y6 - 3; omega) (by show y6 - 3 ≤ m; omega) hy4 g6 (fr.trans e6)

theorem foldl_max_c (a : Int) : ∀ (l : List Int) (b : Int), l.foldl max (max a b) = max (l.foldl max b) a
  | [], b => by simp only [List.foldl_nil]; omega
  | c :: l, b => by
    simp only [List.foldl_cons]
    rw [← foldl_max_c a l (max b c)]
    congr 1
    omega
theorem foldl_min_c (a : Int) : ∀ (l : List Int) (b : Int), l.foldl min (min a b) = min (l.foldl min b) a
  | [], b => by simp only [List.foldl_nil]; omega
  | c :: l, b => by
    simp only [List.foldl_cons]
    rw [← foldl_min_c a l (min b c)]
    congr 1
    omega
theorem maxL_snoc (a : Int) : ∀ l : List Int, maxL (l ++ [a]) = some (l.foldl max a)
  | [] => rfl
  | b :: l => by
    show some ((l ++ [a]).foldl max b) = some (l.foldl max (max a b))
    rw [List.foldl_append, foldl_max_c]
    rfl
theorem minL_snoc (a : Int) : ∀ l : List Int, minL (l ++ [a]) = some (l.foldl min a)
  | [] => rfl
  | b :: l => by
    show some ((l ++ [a]).foldl min b) = some (l.foldl min (min a b))
    rw [List.foldl_append, foldl_min_c]
    rfl
theorem near_iff (l : List Int) (b : Int) : (!(l.filter fun x => decide (x < b)).isEmpty) = (!l.isEmpty && decide ((minL l).getD 0 < b)) := by
  cases l with
  | nil => rfl
  | cons i r =>
    have h := foldl_min r i
    rw [Bool.eq_iff_iff, Bool.not_eq_true', List.isEmpty_eq_false_iff_exists_mem]
    simp only [List.isEmpty_cons, Bool.not_false, Bool.true_and, minL, Option.getD_some, List.mem_filter]
    constructor
    · rintro ⟨x, h1, h2⟩
      have h2 := of_decide_eq_true h2
      refine decide_eq_true ?_
      rcases List.mem_cons.mp h1 with rfl | h1
      · have := h.1; omega
      · have := h.2.1 x h1; omega
    · intro h1
      have h1 := of_decide_eq_true h1
      rcases h.2.2 with h2 | h2
      · exact ⟨i, by simp, decide_eq_true (by omega)⟩
      · exact ⟨_, List.mem_cons_of_mem _ h2, decide_eq_true h1⟩
theorem far_iff (l : List Int) (b : Int) : (!(l.filter fun x => decide (b < x)).isEmpty) = (!l.isEmpty && decide (b < (maxL l).getD 0)) := by
  cases l with
  | nil => rfl
  | cons i r =>
    have h := foldl_max_spec r i
    rw [Bool.eq_iff_iff, Bool.not_eq_true', List.isEmpty_eq_false_iff_exists_mem]
    simp only [List.isEmpty_cons, Bool.not_false, Bool.true_and, maxL, Option.getD_some, List.mem_filter]
    constructor
    · rintro ⟨x, h1, h2⟩
      have h2 := of_decide_eq_true h2
      refine decide_eq_true ?_
      rcases List.mem_cons.mp h1 with rfl | h1
      · have := h.2.1; omega
      · have := h.2.2 x h1; omega
    · intro h1
      have h1 := of_decide_eq_true h1
      rcases h.1 with h2 | h2
      · exact ⟨i, by simp, decide_eq_true (by omega)⟩
      · exact ⟨_, List.mem_cons_of_mem _ h2, decide_eq_true h1⟩
theorem pick_eq (s : Bool) (g : Rw → Int) (y : Int) : ∀ R : List Rw, (R.filter fun r => (r.s == s) && decide (y < r.b)).map (fun r => D.int (g r)) = (pick s g R y).map D.int
  | [] => rfl
  | q :: R => by
    have ih := pick_eq s g y R
    unfold pick at ih ⊢
    by_cases c : q.s = s ∧ y < q.b
    · rw [List.filter_cons_of_pos (by simp [c]), List.map_cons, ih]
      simp only [List.filterMap_cons, if_pos c, List.map_cons]
    · rw [List.filter_cons_of_neg (by simpa using c), ih]
      simp only [List.filterMap_cons, if_neg c]
theorem left_ge {R : List Rw} {st y : Int} : st ≤ leftsP R st y := (foldl_max_spec _ _).2.1
theorem right_le {R : List Rw} {en y : Int} : rightsP R en y ≤ en := (foldl_min _ _).1
theorem pick_len {R : List Rw} {s : Bool} {g : Rw → Int} {y : Int} : (pick s g R y).length ≤ R.length := List.length_filterMap_le _ _
theorem bi_max_snoc {S : Sto} {a : Nat} {st : Int} {l : List Int} (h : S[a]? = some (.lst (l.map D.int ++ [D.int st]))) : biSem .max1 [.loc a] S = some (.int (l.foldl max st), S) := by
  have e : intsD (l.map D.int ++ [D.int st]) = some (l ++ [st]) := by
    have := intsD_map (l ++ [st])
    rwa [List.map_append] at this
  simp only [biSem, listD, h, e, Option.bind, maxL_snoc, Option.map]
theorem bi_min_snoc {S : Sto} {a : Nat} {st : Int} {l : List Int} (h : S[a]? = some (.lst (l.map D.int ++ [D.int st]))) : biSem .min1 [.loc a] S = some (.int (l.foldl min st), S) := by
  have e : intsD (l.map D.int ++ [D.int st]) = some (l ++ [st]) := by
    have := intsD_map (l ++ [st])
    rwa [List.map_append] at this
  simp only [biSem, listD, h, e, Option.bind, minL_snoc, Option.map]
theorem lspot {d k : Nat} {S : Sto} {R : List Rw} {s : Bool} {st en w y : Int} (h : S[k]? = some (.lst (R.map Rw.d))) (hR : R.length ≤ 1000) {Q : D → Sto → Prop} (hQ : ∀ S', DI.Fr [] S S' → Q (optD (spotP R s st en w y)) S') : W (calls P0 fs (d + 1) 3 [.loc k, .str (sd s), .tup [.int st, .int en], .int w, .int y] S) Q := by
  refine W_call (f := d_law_spot) rfl rfl ?_
  show WS (dSs P0 _ t_law_spot [some (.loc k), some (.str (sd s)), some (.tup [.int st, .int en]), some (.int w), some (.int y), none, none, none, none, none, none, none] S) _
  unfold t_law_spot
  refine z_set (lc_pure Rw.d (fun r => (r.s == true) && decide (y < r.b)) (fun r => .int r.r) (xs := R) (w_iex (w_var ⟨_, rfl, _, walk_lst h, IsW.li h (by rw [List.length_map]; omega), fun q hq acc => ⟨_, rfl, dT1 (T_and (T_cmp (V_ix (V_var rfl) V_int rfl) V_str (cq_sd q.s true)) fun _ => T_cmp (V_ix (V_var rfl) V_int rfl) (V_var rfl) rfl), fun _ => V_ix (V_var rfl) V_int rfl⟩, ?_⟩)))
  rw [pick_eq true Rw.r y R]
  have e1 : (S ++ [Cell.lst ((pick true Rw.r R y).map D.int)])[S.length]? = some (.lst ((pick true Rw.r R y).map D.int)) := get_push
  have f1 := DI.Fr.push (B := []) (S := S) (c := Cell.lst ((pick true Rw.r R y).map D.int))
  generalize (S ++ [Cell.lst ((pick true Rw.r R y).map D.int)]) = S1 at e1 f1
  generalize S.length = kL at e1
  try simp only [List.set_cons_succ, List.set_cons_zero]
  refine z_set (lc_pure Rw.d (fun r => (r.s == false) && decide (y < r.b)) (fun r => .int r.x) (xs := R) (w_iex (w_var ⟨_, rfl, _, walk_lst (f1.get h (by simp)), IsW.li (f1.get h (by simp)) (by rw [List.length_map]; omega), fun q hq acc => ⟨_, rfl, dT1 (T_and (T_cmp (V_ix (V_var rfl) V_int rfl) V_str (cq_sd q.s false)) fun _ => T_cmp (V_ix (V_var rfl) V_int rfl) (V_var rfl) rfl), fun _ => V_ix (V_var rfl) V_int rfl⟩, ?_⟩)))
  rw [pick_eq false Rw.x y R]
  have e2 : (S1 ++ [Cell.lst ((pick false Rw.x R y).map D.int)])[S1.length]? = some (.lst ((pick false Rw.x R y).map D.int)) := get_push
  replace e1 := get_pushl (c := Cell.lst ((pick false Rw.x R y).map D.int)) e1
  replace f1 := f1.pushr (c := Cell.lst ((pick false Rw.x R y).map D.int))
  generalize (S1 ++ [Cell.lst ((pick false Rw.x R y).map D.int)]) = S2 at e1 e2 f1
  generalize S1.length = kR at e2
  try simp only [List.set_cons_succ, List.set_cons_zero]
  have hlL := pick_len (R := R) (s := true) (g := Rw.r) (y := y)
  have hlR := pick_len (R := R) (s := false) (g := Rw.x) (y := y)
  refine z_iteT (p := (s == true)) (T_cmp (V_var rfl) V_str (cq_sd s true)) (fun hs => ?_) (fun hs => ?_)
  · have hs : s = true := by simpa using hs
    subst hs
    unfold t_law_spot_3
    refine z_set (w_bi (w_cons (w_bin (w_var ⟨_, rfl, w_lst (w_cons (V_use (V_ix (V_var rfl) V_int rfl) (w_nil ⟨sz (by simp), ?_⟩)))⟩))))
    refine w_addL (xs := (pick true Rw.r R y).map D.int) (ys := [.int st]) (get_pushl e1) get_push (Nat.le_trans ?_ (by decide : 1001 ≤ sizeLine)) (w_nil ⟨_, _, bi_max_snoc get_push, ?_⟩)
    · simp only [List.length_map, List.length_singleton]; omega
    replace e2 := get_pushl (c := Cell.lst ((pick true Rw.r R y).map D.int ++ [D.int st])) (get_pushl (c := Cell.lst [D.int st]) e2)
    replace f1 := (f1.pushr (c := Cell.lst [D.int st])).pushr (c := Cell.lst ((pick true Rw.r R y).map D.int ++ [D.int st]))
    generalize (S2 ++ [Cell.lst [D.int st]]) ++ [Cell.lst ((pick true Rw.r R y).map D.int ++ [D.int st])] = S3 at e2 f1
    try simp only [List.set_cons_succ, List.set_cons_zero]
    show WS (dSs P0 _ _ [_, _, _, _, _, _, _, some (.int (leftsP R st y)), _, _, _, _] _) _
    have hge := left_ge (R := R) (st := st) (y := y)
    have hq : ∀ v, spotP R true st en w y = v → ∀ S', DI.Fr [] S3 S' → Q (optD v) S' := fun v ev S' f' => by rw [← ev]; exact hQ _ (f1.trans f')
    refine z_iteT (T_and (T_cmp (V_var rfl) (V_ix (V_var rfl) V_int rfl) rfl) fun _ => T_cmp (V_bin (V_var rfl) (V_var rfl) rfl) (V_ix (V_var rfl) V_int rfl) rfl) (fun ht => ?_) (fun ht => ?_)
    · unfold t_law_spot_1
      refine z_ret (w_non (hq none ?_ _ .refl))
      simp only [Bool.and_eq_true, decide_eq_true_eq] at ht
      unfold spotP
      rw [if_pos rfl, if_pos]
      have : (leftsP R st y == st) = false := by simp; omega
      rw [this, decide_eq_true ht.2]
      rfl
    · refine z_nil ?_
      dsimp only
      unfold t_law_spot_2
      refine z_set (lc_pure D.int (fun x => decide (x < leftsP R st y + w)) D.int (xs := pick false Rw.x R y) (w_iex (w_var ⟨_, rfl, _, walk_lst e2, IsW.li e2 (by rw [List.length_map]; omega), fun q hq acc => ⟨_, rfl, dT1 (T_cmp (V_var rfl) (V_bin (V_var rfl) (V_var rfl) rfl) rfl), fun _ => V_var rfl⟩, ?_⟩)))
      have hc : (!(leftsP R st y == st) && decide (en < leftsP R st y + w)) = false := by
        rw [← ht]
        congr 1
        by_cases c : leftsP R st y = st
        · rw [c]; simp
        · have : st < leftsP R st y := by omega
          simp [c, this]
      try simp only [List.set_cons_succ, List.set_cons_zero]
      refine z_ret (w_ite (w_cmp (w_var ⟨_, rfl, w_lst (w_nil ⟨sz (by simp), _, ne_nil (get_pushl get_push) get_push, _, rfl, fun hb => ?_, fun hb => ?_⟩)⟩)))
      · rw [near_iff] at hb
        refine w_non (hq none ?_ _ DI.Fr.push.pushr)
        unfold spotP
        rw [if_pos rfl, if_pos (by rw [hc, hb]; rfl)]
      · rw [near_iff] at hb
        refine w_var ⟨_, rfl, hq (some _) ?_ _ DI.Fr.push.pushr⟩
        unfold spotP
        rw [if_pos rfl, if_neg (by rw [hc, hb]; decide)]
  · have hs : s = false := by simpa using hs
    subst hs
    refine z_nil ?_
    dsimp only
    unfold t_law_spot_6
    refine z_set (w_bi (w_cons (w_bin (w_var ⟨_, rfl, w_lst (w_cons (V_use (V_ix (V_var rfl) V_int rfl) (w_nil ⟨sz (by simp), ?_⟩)))⟩))))
    refine w_addL (xs := (pick false Rw.x R y).map D.int) (ys := [.int en]) (get_pushl e2) get_push (Nat.le_trans ?_ (by decide : 1001 ≤ sizeLine)) (w_nil ⟨_, _, bi_min_snoc get_push, ?_⟩)
    · simp only [List.length_map, List.length_singleton]; omega
    replace e1 := get_pushl (c := Cell.lst ((pick false Rw.x R y).map D.int ++ [D.int en])) (get_pushl (c := Cell.lst [D.int en]) e1)
    replace f1 := (f1.pushr (c := Cell.lst [D.int en])).pushr (c := Cell.lst ((pick false Rw.x R y).map D.int ++ [D.int en]))
    generalize (S2 ++ [Cell.lst [D.int en]]) ++ [Cell.lst ((pick false Rw.x R y).map D.int ++ [D.int en])] = S3 at e1 f1
    try simp only [List.set_cons_succ, List.set_cons_zero]
    show WS (dSs P0 _ _ [_, _, _, _, _, _, _, some (.int (rightsP R en y)), _, _, _, _] _) _
    have hge := right_le (R := R) (en := en) (y := y)
    have hq : ∀ v, spotP R false st en w y = v → ∀ S', DI.Fr [] S3 S' → Q (optD v) S' := fun v ev S' f' => by rw [← ev]; exact hQ _ (f1.trans f')
    refine z_iteT (T_and (T_cmp (V_var rfl) (V_ix (V_var rfl) V_int rfl) rfl) fun _ => T_cmp (V_bin (V_var rfl) (V_var rfl) rfl) (V_ix (V_var rfl) V_int rfl) rfl) (fun ht => ?_) (fun ht => ?_)
    · unfold t_law_spot_4
      refine z_ret (w_non (hq none ?_ _ .refl))
      simp only [Bool.and_eq_true, decide_eq_true_eq] at ht
      unfold spotP
      rw [if_neg (by decide), if_pos]
      have : (rightsP R en y == en) = false := by simp; omega
      rw [this, decide_eq_true ht.2]
      rfl
    · refine z_nil ?_
      dsimp only
      unfold t_law_spot_5
      refine z_set (lc_pure D.int (fun x => decide (rightsP R en y - w < x)) D.int (xs := pick true Rw.r R y) (w_iex (w_var ⟨_, rfl, _, walk_lst e1, IsW.li e1 (by rw [List.length_map]; omega), fun q hq acc => ⟨_, rfl, dT1 (T_cmp (V_var rfl) (V_bin (V_var rfl) (V_var rfl) rfl) rfl), fun _ => V_var rfl⟩, ?_⟩)))
      have hc : (!(rightsP R en y == en) && decide (rightsP R en y - w < st)) = false := by
        rw [← ht]
        congr 1
        by_cases c : rightsP R en y = en
        · rw [c]; simp
        · have : rightsP R en y < en := by omega
          simp [c, this]
      try simp only [List.set_cons_succ, List.set_cons_zero]
      refine z_ret (w_ite (w_cmp (w_var ⟨_, rfl, w_lst (w_nil ⟨sz (by simp), _, ne_nil (get_pushl get_push) get_push, _, rfl, fun hb => ?_, fun hb => ?_⟩)⟩)))
      · rw [far_iff] at hb
        refine w_non (hq none ?_ _ DI.Fr.push.pushr)
        unfold spotP
        rw [if_neg (by decide), if_pos (by rw [hc, hb]; rfl)]
      · rw [far_iff] at hb
        refine V_use (V_bin (V_var rfl) (V_var rfl) rfl) (hq (some _) ?_ _ DI.Fr.push.pushr)
        unfold spotP
        rw [if_neg (by decide), if_neg (by rw [hc, hb]; decide)]

end K29

set_option Elab.async false
set_option linter.all false
set_option maxRecDepth 100000
set_option maxHeartbeats 4000000
namespace K29
open L2 DI PySem PySem.Spec PyProof.Rows
theorem minL_spec' {l : List Int} {i : Int} (h : minL l = some i) : i ∈ l ∧ ∀ x ∈ l, i ≤ x := by
  cases l with
  | nil => cases h
  | cons a r =>
    have h : r.foldl min a = i := Option.some.inj h
    have f := foldl_min r a
    rw [h] at f
    refine ⟨?_, fun x hx => ?_⟩
    · rcases f.2.2 with e | e
      · rw [e]; simp
      · exact List.mem_cons_of_mem _ e
    · rcases List.mem_cons.mp hx with rfl | hx
      · exact f.1
      · exact f.2.1 x hx
theorem below_spec {R : List Rw} {y y' : Int} (h : belowP R y = some y') : y < y' ∧ (∃ r ∈ R, y' = r.b) ∧ ∀ r ∈ R, y < r.b → y' ≤ r.b := by
  obtain ⟨h1, h2⟩ := minL_spec' h
  obtain ⟨r, hr, e⟩ := List.mem_filterMap.mp h1
  by_cases c : y < r.b
  · rw [if_pos c] at e
    have e : r.b = y' := Option.some.inj e
    refine ⟨by omega, ⟨r, hr, e.symm⟩, fun q hq hqy => h2 _ (List.mem_filterMap.mpr ⟨q, hq, by rw [if_pos hqy]⟩)⟩
  · rw [if_neg c] at e; cases e
theorem fm_congr {α β : Type} {f g : α → Option β} : ∀ {l : List α}, (∀ x ∈ l, f x = g x) → l.filterMap f = l.filterMap g
  | [], _ => rfl
  | x :: l, h => by
    rw [List.filterMap_cons, List.filterMap_cons, h x List.mem_cons_self, fm_congr fun y hy => h y (List.mem_cons_of_mem _ hy)]
theorem pick_const {R : List Rw} {s : Bool} {g : Rw → Int} {y y' y'' : Int} (h : belowP R y = some y') (h1 : y ≤ y'') (h2 : y'' < y') : pick s g R y'' = pick s g R y := by
  obtain ⟨_, _, h3⟩ := below_spec h
  unfold pick
  refine fm_congr fun r hr => ?_
  have := h3 r hr
  have e : (r.s = s ∧ y'' < r.b) = (r.s = s ∧ y < r.b) := by
    apply propext
    constructor
    · rintro ⟨a, b⟩; exact ⟨a, by omega⟩
    · rintro ⟨a, b⟩; have := this b; exact ⟨a, by omega⟩
  simp only [e]
theorem spot_const {R : List Rw} {s : Bool} {st en w y y' y'' : Int} (h : belowP R y = some y') (h1 : y ≤ y'') (h2 : y'' < y') : spotP R s st en w y'' = spotP R s st en w y := by
  unfold spotP leftsP rightsP
  rw [pick_const (s := true) (g := Rw.r) h h1 h2, pick_const (s := false) (g := Rw.x) h h1 h2]
theorem Go.first {R : List Rw} {s : Bool} {st en w y x z : Int} (g : Go R s st en w y x z) : y ≤ z ∧ spotP R s st en w z = some x ∧ (∀ y', y ≤ y' → y' < z → spotP R s st en w y' = none) ∧ (z = y ∨ ∃ r ∈ R, z = r.b) := by
  induction g with
  | stop h => exact ⟨Int.le_refl _, h, fun y' h1 h2 => by omega, .inl rfl⟩
  | @step y y' x z h hb g ih =>
    obtain ⟨h1, h2, h3, h4⟩ := ih
    obtain ⟨b1, b2, b3⟩ := below_spec hb
    refine ⟨by omega, h2, fun y'' k1 k2 => ?_, .inr ?_⟩
    · by_cases c : y'' < y'
      · rw [spot_const hb k1 c, h]
      · exact h3 y'' (by omega) k2
    · rcases h4 with rfl | h4
      · exact b2
      · exact h4
def Bd (R : List Rw) (B : Int) : Prop := ∀ r ∈ R, -1000 ≤ r.y ∧ r.y ≤ B ∧ r.b ≤ B
theorem top_le {R : List Rw} {B t : Int} (h : Bd R B) (ht : t ≤ B) : t ≤ top0 R t ∧ top0 R t ≤ B := by
  unfold top0
  have f := foldl_max_spec (R.map Rw.y) t
  refine ⟨f.2.1, ?_⟩
  rcases f.1 with e | e
  · rw [e]; exact ht
  · obtain ⟨r, hr, e2⟩ := List.mem_map.mp e
    have := (h r hr).2.1
    omega
theorem place_go (R : List Rw) (a : Ask) : ∃ x z, Go R a.s a.st a.en (max 0 a.w) (top0 R a.t) x z ∧ placeP R a = ⟨a.s, x, z, x + max 0 a.w, z + max 0 a.h⟩ := by
  obtain ⟨x, z, g⟩ := Go.ex R a.s a.st a.en (max 0 a.w) (cnt R (top0 R a.t)) (top0 R a.t) (Nat.le_refl _)
  exact ⟨x, z, g, placeP_of g⟩
theorem Bd.place {R : List Rw} {B Hh : Int} {a : Ask} (h : Bd R B) (t1 : -1000 ≤ a.t) (t2 : a.t ≤ B) (hh : a.h ≤ Hh) (h0 : 0 ≤ Hh) : Bd (R ++ [placeP R a]) (B + Hh) := by
  obtain ⟨x, z, g, e⟩ := place_go R a
  obtain ⟨k1, k2, k3, k4⟩ := g.first
  have tl := top_le h t2
  intro r hr
  rcases List.mem_append.mp hr with hr | hr
  · have := h r hr; omega
  · rw [List.mem_singleton] at hr
    subst hr
    rw [e]
    have hz : z ≤ B := by
      rcases k4 with e | ⟨q, hq, e⟩
      · omega
      · have := (h q hq).2.2; omega
    show -1000 ≤ z ∧ z ≤ B + Hh ∧ z + max 0 a.h ≤ B + Hh
    omega
theorem col_eq (g : Rw → Int) (R : List Rw) : (R.filter fun _ => true).map (fun r => D.int (g r)) = (R.map g).map D.int := by
  rw [List.filter_eq_self.mpr (fun _ _ => rfl), List.map_map]; rfl
theorem placed {d k : Nat} {S : Sto} {R : List Rw} {a : Ask} {B : Int} (hk : S[k]? = some (.lst (R.map Rw.d))) (hR : R.length ≤ 1000) (hB : Bd R B) (hB2 : B ≤ 100000) (t1 : -1000 ≤ a.t) (t2 : a.t ≤ B) {Q : D → Sto → Prop} (hQ : ∀ S', DI.Fr [] S S' → Q (placeP R a).d S') :
    W (calls P0 fs (d + 2) 4 [.loc k, .str (sd a.s), .tup [.int a.st, .int a.en], .tup [.int a.w, .int a.h], .int a.t] S) Q := by
  refine W_call (f := d_law_placed) rfl rfl ?_
  show WS (dSs P0 _ t_law_placed [some (.loc k), some (.str (sd a.s)), some (.tup [.int a.st, .int a.en]), some (.tup [.int a.w, .int a.h]), some (.int a.t), none, none, none, none, none, none] S) _
  obtain ⟨x, z, g, e⟩ := place_go R a
  rw [e] at hQ
  obtain ⟨k1, k2, k3, k4⟩ := g.first
  have tl := top_le hB t2
  obtain ⟨s, st, en, w, h, t⟩ := a
  dsimp only at *
  unfold t_law_placed
  refine z_set (w_bi (w_cons (w_bin (w_lst (w_cons (w_var ⟨_, rfl, w_nil ⟨sz (by simp), ?_⟩⟩))))))
  refine lc_pure Rw.d (fun _ => true) (fun r => D.int r.y) (xs := R) (w_iex (w_var ⟨_, rfl, _, walk_lst (get_pushl hk), IsW.li (get_pushl hk) (by rw [List.length_map]; omega), fun q _ acc => ⟨_, rfl, dT0, fun _ => V_ix (V_var rfl) V_int rfl⟩, ?_⟩))
  rw [col_eq]
  refine w_addL (get_pushl get_push) get_push (Nat.le_trans ?_ (by decide : 1001 ≤ sizeLine)) (w_nil ⟨_, _, bi_max1 get_push, ?_⟩)
  · simp only [List.length_map, List.length_singleton]; omega
  have f1 : DI.Fr [] S (S ++ [Cell.lst [D.int t]] ++ [Cell.lst ((R.map Rw.y).map D.int)] ++ [Cell.lst ([D.int t] ++ (R.map Rw.y).map D.int)]) := DI.Fr.push.pushr.pushr
  generalize (S ++ [Cell.lst [D.int t]] ++ [Cell.lst ((R.map Rw.y).map D.int)] ++ [Cell.lst ([D.int t] ++ (R.map Rw.y).map D.int)]) = S1 at f1
  show WS (dSs P0 _ _ [_, _, _, _, _, some (.int (top0 R t)), _, _, _, _, _] _) _
  refine z_par (V_use (V_bi2 V_int (V_ix (V_var rfl) V_int rfl) rfl) (V_use (V_bi2 V_int (V_ix (V_var rfl) V_int rfl) rfl) ?_))
  try simp only [List.set_cons_succ, List.set_cons_zero]
  have hk1 := f1.get hk (by simp)
  refine z_for (w_rng2 (w_var ⟨_, rfl, w_bin (w_bi (w_cons (w_bin (w_lst (w_cons (w_var ⟨_, rfl, w_nil ⟨sz (by simp), ?_⟩⟩))))))⟩))
  refine lc_pure Rw.d (fun _ => true) (fun r => D.int r.b) (xs := R) (w_iex (w_var ⟨_, rfl, _, walk_lst (get_pushl hk1), IsW.li (get_pushl hk1) (by rw [List.length_map]; omega), fun q _ acc => ⟨_, rfl, dT0, fun _ => V_ix (V_var rfl) V_int rfl⟩, ?_⟩))
  rw [col_eq]
  refine w_addL (get_pushl get_push) get_push (Nat.le_trans ?_ (by decide : 1001 ≤ sizeLine)) (w_nil ⟨_, _, bi_max1 get_push, w_int (w_add ?_)⟩)
  · simp only [List.length_map, List.length_singleton]; omega
  have f2 : DI.Fr [] S1 (S1 ++ [Cell.lst [D.int (top0 R t)]] ++ [Cell.lst ((R.map Rw.b).map D.int)] ++ [Cell.lst ([D.int (top0 R t)] ++ (R.map Rw.b).map D.int)]) := DI.Fr.push.pushr.pushr
  generalize (S1 ++ [Cell.lst [D.int (top0 R t)]] ++ [Cell.lst ((R.map Rw.b).map D.int)] ++ [Cell.lst ([D.int (top0 R t)] ++ (R.map Rw.b).map D.int)]) = S2 at f2
  have fm := foldl_max_spec (R.map Rw.b) (top0 R t)
  have hm : (R.map Rw.b).foldl max (top0 R t) ≤ B := by
    rcases fm.1 with e | e
    · rw [e]; omega
    · obtain ⟨r, hr, e2⟩ := List.mem_map.mp e
      have := (hB r hr).2.2
      omega
  have hzm : z ≤ (R.map Rw.b).foldl max (top0 R t) := by
    rcases k4 with e | ⟨q, hq, e⟩
    · have := fm.2.1; omega
    · have := fm.2.2 _ (List.mem_map.mpr ⟨q, hq, rfl⟩); omega
  generalize (R.map Rw.b).foldl max (top0 R t) = mb at fm hm hzm
  refine ⟨_, _, rfl, rfl, decide_eq_true (by omega), ?_⟩
  have f3 := f1.trans f2
  refine WS_for (n := (mb + 1 - top0 R t).toNat) (fun j σ' S' => top0 R t + j ≤ z ∧ DI.Fr [] S S' ∧ ∃ v8 v9, σ' = [some (.loc k), some (.str (sd s)), some (.tup [.int st, .int en]), some (.tup [.int w, .int h]), some (.int t), some (.int (top0 R t)), some (.int (max 0 w)), some (.int (max 0 h)), v8, v9, none]) ⟨by omega, f3, _, _, rfl⟩ ?_ ?_ ?_
  · rintro σ' S' _
    simp [wgo]
  · rintro j σ' S' hj ⟨hz, f, v8, v9, rfl⟩
    refine ⟨.int (top0 R t + j), _, by simp only [wgo]; rw [if_pos hj], rfl, ?_⟩
    try simp only [List.set_cons_succ, List.set_cons_zero]
    unfold t_law_placed_2
    refine z_set (w_cal (w_cons (w_var ⟨_, rfl, w_cons (w_var ⟨_, rfl, w_cons (w_var ⟨_, rfl, w_cons (w_var ⟨_, rfl, w_cons (w_var ⟨_, rfl, w_nil (lspot (f.get hk (by simp)) hR fun S3 f3 => ?_)⟩)⟩)⟩)⟩)⟩)))
    try simp only [List.set_cons_succ, List.set_cons_zero]
    by_cases c : top0 R t + j = z
    · rw [c, k2]
      refine z_iteT (p := true) (T_cmp (V_var rfl) V_non rfl) (fun _ => ?_) (fun h => by cases h)
      unfold t_law_placed_1
      refine z_ret (w_tup (w_cons (w_var ⟨_, rfl, w_cons (w_var ⟨_, rfl, w_cons (w_var ⟨_, rfl, w_cons (V_use (V_bin (V_var rfl) (V_var rfl) rfl) (w_cons (V_use (V_bin (V_var rfl) (V_var rfl) rfl) (w_nil ⟨sz (by simp), ?_⟩))))⟩)⟩)⟩)))
      exact hQ _ (f.trans f3)
    · rw [k3 _ (by omega) (by omega)]
      refine z_iteT (p := false) (T_cmp (V_var rfl) V_non rfl) (fun h => by cases h) (fun _ => z_nil ?_)
      dsimp only
      exact z_nil ⟨by omega, f.trans f3, _, _, rfl⟩
  · rintro σ' S' ⟨hz, f, _⟩
    exfalso
    omega
theorem cut13 (a : Ask) : cutL (askL a) (some 1) (some 3) = [.int a.st, .int a.en] := rfl
theorem cut35 (a : Ask) : cutL (askL a) (some 3) (some 5) = [.int a.w, .int a.h] := rfl

end K29

set_option Elab.async false
set_option linter.all false
set_option maxRecDepth 100000
set_option maxHeartbeats 4000000
namespace K29
open L2 DI PySem PySem.Spec PyProof.Rows
/-! ### is_asked_row of rows and of what is none -/
theorem tN0 {C : Nat → List D → Sto → Out D} {σ : Sl} {S : Sto} {e : Ex} (h : T P0 C e σ S true) : T P0 C (.not_ e) σ S false := T_not h
theorem tN1 {C : Nat → List D → Sto → Out D} {σ : Sl} {S : Sto} {e : Ex} (h : T P0 C e σ S false) : T P0 C (.not_ e) σ S true := T_not h
theorem tO1 {C : Nat → List D → Sto → Out D} {σ : Sl} {S : Sto} {e e' : Ex} (h : T P0 C e σ S true) : T P0 C (.or_ e e') σ S true := T_or (q := true) h fun q => by cases q
theorem tO0 {C : Nat → List D → Sto → Out D} {σ : Sl} {S : Sto} {e e' : Ex} {b : Bool} (h : T P0 C e σ S false) (h' : T P0 C e' σ S b) : T P0 C (.or_ e e') σ S b := T_cast (T_or h fun _ => h') (by simp)
theorem isT {C : Nat → List D → Sto → Out D} {σ : Sl} {S : Sto} {v : Nat} {xs : List D} (h : σ[v]? = some (some (.tup xs))) : T P0 C (.bi .isi (.cons (.var v) (.cons (.bty "tuple") .nil))) σ S true := T_tru rfl (V_bi2 (z := .bl true) (V_var h) V_bty rfl) rfl
theorem lenT {C : Nat → List D → Sto → Out D} {σ : Sl} {S : Sto} {v : Nat} {xs : List D} {n : Int} {b : Bool} (h : σ[v]? = some (some (.tup xs))) (hb : b = decide ((xs.length : Int) ≠ n)) : T P0 C (.cmp .NotEq (.bi .len (.cons (.var v) .nil)) (.cst (.int n))) σ S b := by
  refine T_cmp (V_bi1 (z := .int xs.length) (V_var h) rfl) V_int ?_
  simp only [cmpSem, eqD_int]
  rw [hb]
  by_cases c : (xs.length : Int) = n <;> simp [c]
theorem it0 {S : Sto} {z : D} {xs : List D} : itemSem (.tup (z :: xs)) (.int 0) S = some z := by
  simp only [itemSem]
  exact DI.atI_nat (k := 0) rfl
theorem in_lr {C : Nat → List D → Sto → Out D} {σ : Sl} {S : Sto} {v : Nat} {xs : List D} {z : Str} (h : σ[v]? = some (some (.tup (.str z :: xs)))) {b : Bool} (hb : inSem (.str z) (.tup [.str "left", .str "right"]) S = some (!b)) : T P0 C (.cmp .NotIn (.ix (.var v) (.cst (.int 0))) (.tup (.cons (.cst (.str ("left" : Str))) (.cons (.cst (.str ("right" : Str))) .nil)))) σ S b :=
  T_cmp (y := .tup [.str "left", .str "right"]) (V_ix (z := .str z) (V_var h) V_int it0) (w_tup (w_cons (w_str (w_cons (w_str (w_nil ⟨sz (by decide), rfl, rfl⟩)))))) (by simp only [cmpSem, hb]; cases b <;> rfl)
theorem asked_nt {d : Nat} {S : Sto} {o : D} (h : biSem .isi [o, .ty "tuple"] S = some (.bl false, S)) {Q : D → Sto → Prop} (hQ : Q (.bl false) S) : W (calls P0 fs (d + 1) 7 [o] S) Q := by
  refine W_call (f := d_is_asked_row) rfl rfl ?_
  show WS (dSs P0 _ t_is_asked_row [some o, none, none] S) _
  unfold t_is_asked_row
  refine z_iteT (p := true) (tO1 (tN1 (T_tru rfl (V_bi2 (z := .bl false) (V_var rfl) V_bty h) rfl))) (fun _ => ?_) (fun h => by cases h)
  unfold t_is_asked_row_1
  exact z_ret (w_blc hQ)
theorem asked_len {d : Nat} {S : Sto} {xs : List D} (h : (xs.length : Int) ≠ 7) {Q : D → Sto → Prop} (hQ : Q (.bl false) S) : W (calls P0 fs (d + 1) 7 [.tup xs] S) Q := by
  refine W_call (f := d_is_asked_row) rfl rfl ?_
  show WS (dSs P0 _ t_is_asked_row [some (.tup xs), none, none] S) _
  unfold t_is_asked_row
  refine z_iteT (p := true) (tO0 (tN0 (isT rfl)) (tO1 (lenT rfl (decide_eq_true h).symm))) (fun _ => ?_) (fun h => by cases h)
  unfold t_is_asked_row_1
  exact z_ret (w_blc hQ)
theorem asked_non {d : Nat} {S : Sto} {xs : List D} (h : xs.length = 6) {Q : D → Sto → Prop} (hQ : Q (.bl false) S) : W (calls P0 fs (d + 1) 7 [.tup (.non :: xs)] S) Q := by
  refine W_call (f := d_is_asked_row) rfl rfl ?_
  show WS (dSs P0 _ t_is_asked_row [some (.tup (.non :: xs)), none, none] S) _
  unfold t_is_asked_row
  refine z_iteT (p := true) (tO0 (tN0 (isT rfl)) (tO0 (lenT rfl (by simp [h])) (tO1 (tN1 (T_tru rfl (V_bi2 (z := .bl false) (V_ix (z := .non) (V_var rfl) V_int it0) V_bty rfl) rfl))))) (fun _ => ?_) (fun h => by cases h)
  unfold t_is_asked_row_1
  exact z_ret (w_blc hQ)
theorem asked_both {d : Nat} {S : Sto} {xs : List D} (h : xs.length = 6) {Q : D → Sto → Prop} (hQ : Q (.bl false) S) : W (calls P0 fs (d + 1) 7 [.tup (.str "both" :: xs)] S) Q := by
  refine W_call (f := d_is_asked_row) rfl rfl ?_
  show WS (dSs P0 _ t_is_asked_row [some (.tup (.str "both" :: xs)), none, none] S) _
  unfold t_is_asked_row
  refine z_iteT (p := true) (tO0 (tN0 (isT rfl)) (tO0 (lenT rfl (by simp [h])) (tO0 (tN0 (T_tru rfl (V_bi2 (z := .bl true) (V_ix (z := .str "both") (V_var rfl) V_int it0) V_bty rfl) rfl)) (in_lr (z := "both") rfl rfl)))) (fun _ => ?_) (fun h => by cases h)
  unfold t_is_asked_row_1
  exact z_ret (w_blc hQ)
theorem t7 {C : Nat → List D → Sto → Out D} {S : Sto} {s : Bool} {v1 v2 v3 v4 v5 p : D} {u w : Option D} : T P0 C (.or_ (.not_ (.bi .isi (.cons (.var 0) (.cons (.bty "tuple") .nil)))) (.or_ (.cmp .NotEq (.bi .len (.cons (.var 0) .nil)) (.cst (.int 7))) (.or_ (.not_ (.bi .isi (.cons (.ix (.var 0) (.cst (.int 0))) (.cons (.bty "str") .nil)))) (.cmp .NotIn (.ix (.var 0) (.cst (.int 0))) (.tup (.cons (.cst (.str ("left" : Str))) (.cons (.cst (.str ("right" : Str))) .nil))))))) [some (.tup [.str (sd s), v1, v2, v3, v4, v5, p]), u, w] S false :=
  tO0 (tN0 (isT rfl)) (tO0 (lenT rfl rfl) (tO0 (tN0 (T_tru rfl (V_bi2 (z := .bl true) (V_ix (z := .str (sd s)) (V_var rfl) V_int rfl) V_bty rfl) rfl)) (in_lr rfl (by cases s <;> rfl))))
theorem asked_pn {d : Nat} {S : Sto} {s : Bool} {v1 v2 v3 v4 v5 p : D} (h : biSem .isi [p, .ty "tuple"] S = some (.bl false, S)) {Q : D → Sto → Prop} (hQ : Q (.bl false) S) : W (calls P0 fs (d + 1) 7 [.tup [.str (sd s), v1, v2, v3, v4, v5, p]] S) Q := by
  refine W_call (f := d_is_asked_row) rfl rfl ?_
  show WS (dSs P0 _ t_is_asked_row [some (.tup [.str (sd s), v1, v2, v3, v4, v5, p]), none, none] S) _
  unfold t_is_asked_row
  refine z_iteT (p := false) t7 (fun h => by cases h) fun _ => z_nil ?_
  dsimp only
  unfold t_is_asked_row_4
  refine z_set (V_use (V_ix (z := p) (V_var rfl) V_int rfl) ?_)
  try simp only [List.set_cons_succ, List.set_cons_zero]
  refine z_iteT (p := true) (tO1 (tN1 (T_tru rfl (V_bi2 (z := .bl false) (V_var rfl) V_bty h) rfl))) (fun _ => ?_) (fun h => by cases h)
  unfold t_is_asked_row_2
  exact z_ret (w_blc hQ)
theorem asked_pl {d : Nat} {S : Sto} {s : Bool} {v1 v2 v3 v4 v5 : D} {ps : List D} (h : (ps.length : Int) ≠ 5) {Q : D → Sto → Prop} (hQ : Q (.bl false) S) : W (calls P0 fs (d + 1) 7 [.tup [.str (sd s), v1, v2, v3, v4, v5, .tup ps]] S) Q := by
  refine W_call (f := d_is_asked_row) rfl rfl ?_
  show WS (dSs P0 _ t_is_asked_row [some (.tup [.str (sd s), v1, v2, v3, v4, v5, .tup ps]), none, none] S) _
  unfold t_is_asked_row
  refine z_iteT (p := false) t7 (fun h => by cases h) fun _ => z_nil ?_
  dsimp only
  unfold t_is_asked_row_4
  refine z_set (V_use (V_ix (z := .tup ps) (V_var rfl) V_int rfl) ?_)
  try simp only [List.set_cons_succ, List.set_cons_zero]
  refine z_iteT (p := true) (tO0 (tN0 (isT rfl)) (tO1 (lenT rfl (decide_eq_true h).symm))) (fun _ => ?_) (fun h => by cases h)
  unfold t_is_asked_row_2
  exact z_ret (w_blc hQ)
def smp : D → Bool
  | .int _ | .bl _ | .str _ | .non => true
  | _ => false
def isI : D → Bool
  | .int _ => true
  | _ => false
theorem isint {P : Pg} {C : Nat → List D → Sto → Out D} {σ : Sl} {S : Sto} {v : Nat} {e : D} (h : σ[v]? = some (some e)) (hs : smp e = true) : V P C (.and_ (.bi .isi (.cons (.var v) (.cons (.bty "int") .nil))) (.not_ (.bi .isi (.cons (.var v) (.cons (.bty "bool") .nil))))) σ S (.bl (isI e)) := by
  cases e with
  | int i => exact w_and (V_use (V_bi2 (z := .bl true) (V_var h) V_bty rfl) ⟨true, rfl, fun _ => w_not (V_use (V_bi2 (z := .bl false) (V_var h) V_bty rfl) ⟨false, rfl, rfl, rfl⟩), fun h => by cases h⟩)
  | bl b => exact w_and (V_use (V_bi2 (z := .bl true) (V_var h) V_bty rfl) ⟨true, rfl, fun _ => w_not (V_use (V_bi2 (z := .bl true) (V_var h) V_bty rfl) ⟨true, rfl, rfl, rfl⟩), fun h => by cases h⟩)
  | str x => exact w_and (V_use (V_bi2 (z := .bl false) (V_var h) V_bty rfl) ⟨false, rfl, (fun h => (by cases h)), (fun _ => ⟨rfl, rfl⟩)⟩)
  | non => exact w_and (V_use (V_bi2 (z := .bl false) (V_var h) V_bty rfl) ⟨false, rfl, (fun h => (by cases h)), (fun _ => ⟨rfl, rfl⟩)⟩)
  | _ => cases hs
theorem bls_map (xs : List D) : blsD (xs.map fun x => D.bl (isI x)) = some (xs.map isI) := by
  induction xs with
  | nil => rfl
  | cons x r ih => simp only [List.map_cons, blsD, ih]; rfl
theorem asked9 {d : Nat} {S : Sto} {s s2 : Bool} {v1 v2 v3 v4 v5 w1 w2 w3 w4 : D} (h : ∀ e ∈ [v1, v2, v3, v4, v5, w1, w2, w3, w4], smp e = true) {Q : D → Sto → Prop} (hQ : ∀ S', DI.Fr [] S S' → Q (.bl ([v1, v2, v3, v4, v5, w1, w2, w3, w4].all isI)) S') :
    W (calls P0 fs (d + 1) 7 [.tup [.str (sd s), v1, v2, v3, v4, v5, .tup [.str (sd s2), w1, w2, w3, w4]]] S) Q := by
  refine W_call (f := d_is_asked_row) rfl rfl ?_
  show WS (dSs P0 _ t_is_asked_row [some (.tup [.str (sd s), v1, v2, v3, v4, v5, .tup [.str (sd s2), w1, w2, w3, w4]]), none, none] S) _
  unfold t_is_asked_row
  refine z_iteT (p := false) t7 (fun h => by cases h) fun _ => z_nil ?_
  dsimp only
  unfold t_is_asked_row_4
  refine z_set (V_use (V_ix (z := .tup [.str (sd s2), w1, w2, w3, w4]) (V_var rfl) V_int rfl) ?_)
  try simp only [List.set_cons_succ, List.set_cons_zero]
  refine z_iteT (p := false) (tO0 (tN0 (isT rfl)) (tO0 (lenT rfl rfl) (tN0 (T_tru rfl (V_bi2 (z := .bl true) (V_ix (V_var rfl) V_int rfl) V_bty rfl) rfl)))) (fun h => by cases h) fun _ => z_nil ?_
  dsimp only
  unfold t_is_asked_row_3
  refine z_ret (w_bi (w_cons (w_lc (w_iex (w_bin (w_sl (w_var ⟨_, rfl, w_so (w_int ⟨1, rfl, w_so (w_int ⟨6, rfl, _, _, rfl, ?_⟩)⟩)⟩)))))))
  refine w_sl (w_var ⟨_, rfl, w_so (w_int ⟨1, rfl, w_no ⟨_, _, rfl, ?_⟩⟩)⟩)
  refine w_addT (sz (n := 9) (by decide)) ?_
  refine ⟨.vs [v1, v2, v3, v4, v5, w1, w2, w3, w4], rfl, ?_⟩
  refine W_mono (lcLoop_pure (xs := [v1, v2, v3, v4, v5, w1, w2, w3, w4]) (fun e => some (.bl (isI e))) (fun i acc => rfl) (by simp) ?_) ?_
  · intro e he acc
    exact ⟨_, rfl, w_T0 ⟨rfl, fun _ => V_use (isint rfl (h e he)) ⟨rfl, rfl⟩, fun h => by cases h⟩⟩
  · rintro u S' rfl
    refine w_nil ?_
    refine ⟨.bl ([v1, v2, v3, v4, v5, w1, w2, w3, w4].all isI), S ++ [Cell.lst ([v1, v2, v3, v4, v5, w1, w2, w3, w4].filterMap fun e => some (.bl (isI e)))], ?_, hQ _ DI.Fr.push⟩
    have e1 : ([v1, v2, v3, v4, v5, w1, w2, w3, w4].filterMap fun e => some (D.bl (isI e))) = [v1, v2, v3, v4, v5, w1, w2, w3, w4].map fun x => D.bl (isI x) := by rw [List.filterMap_eq_map']
    simp only [biSem, listD]
    rw [e1, get_push]
    show ((blsD _).map fun bs => (D.bl (bs.all id), _)) = _
    rw [bls_map]
    simp only [Option.map_some, List.all_map]
    rfl
/-! ### strip_fault of rows of which the last one looked at may be no right one -/
noncomputable def rowsP (as : List Ask) : List (Ask × Rw) := as.zip (toldP [] as)
theorem rows_at {as : List Ask} {k : Nat} (h : k < as.length) : (rowsP as)[k]? = some (as[k], placeP ((toldP [] as).take k) as[k]) := by
  have := told_at as [] k h
  rw [List.nil_append] at this
  exact List.getElem?_zip_eq_some (z := (as[k], _)) |>.mpr ⟨List.getElem?_eq_getElem h, this⟩
theorem rows_len (as : List Ask) : (rowsP as).length = as.length := by simp [rowsP, told_len]
def jd (S : Sto) (R : List Rw) (a : Ask) (o : D) : Prop := (∀ S', DI.Fr [] S S' → ∀ (d : Nat) (Q : D → Sto → Prop), (∀ S'', DI.Fr [] S' S'' → Q (.bl false) S'') → W (calls P0 fs (d + 1) 7 [o] S') Q) ∨ ∃ q : Rw, o = rowD (a, q) ∧ q ≠ placeP R a
theorem fault2 {d a n : Nat} {S : Sto} {as : List Ask} {xs : List D} (h : S[a]? = some (.lst xs)) (hn : n ≤ xs.length) (hna : n ≤ as.length) (hx : ∀ k, k < n → xs[k]? = (rowsP as)[k]?.map rowD) (ho : ∀ o, xs[n]? = some o → ∃ ha : n < as.length, jd S ((toldP [] as).take n) as[n] o) (hl : xs.length ≤ 1000) {Q : D → Sto → Prop}
    (hQ : ∀ S', DI.Fr [] S S' → Q (if n < xs.length then .int n else .non) S') : W (calls P0 fs (d + 4) 13 [.loc a] S) Q := by
  refine W_call (f := d_strip_fault) rfl rfl ?_
  show WS (dSs P0 _ t_strip_fault [some (.loc a), none, none, none] S) _
  unfold t_strip_fault
  have ha := lt_of h
  refine z_iteT (p := false) (T_cast (T_not (T_tru (p := true) rfl (V_bi2 (z := .bl true) (V_var rfl) V_bty (by simp only [biSem, tyName, h]; rfl)) rfl)) rfl) (fun h => by cases h) fun _ => ?_
  refine z_nil ?_
  dsimp only
  unfold t_strip_fault_5
  refine z_set (w_mk (w_nil (init get_push fun S1 h1 f1 => ⟨rfl, ?_⟩)))
  try simp only [List.set_cons_succ, List.set_cons_zero]
  have hp := f1.get (get_pushl (c := Cell.ins 0 []) h) (by simp <;> omega)
  have f2 : DI.Fr [] S S1 := (DI.Fr.push (B := [])).comp f1 (by simp)
  have hS1 := f1.1
  simp only [List.length_append, List.length_singleton] at h1 hS1
  refine z_for (w_enum (w_var ⟨_, rfl, .li a, by simp only [walkL, hp], ?_⟩))
  have hw : wlen (.en (.li a)) S1 = xs.length := by simp [wlen, hp]
  rw [hw]
  refine WS_for (n := xs.length) (fun k σ' S' => k ≤ n ∧ ∃ v2 v3, σ' = [some (.loc a), some (.loc S.length), v2, v3] ∧ Sp S' S.length (S.length + 1) ((toldP [] as).take k) ∧ DI.Fr [] S S') ⟨by omega, _, _, rfl, by simpa using h1, f2⟩ ?_ ?_ ?_
  · rintro σ' S' ⟨_, v2, v3, rfl, g, f3⟩
    have := f3.get h (by simp)
    simp only [wgo, this]
    simp
  · rintro k σ' S' hk ⟨hkn, v2, v3, rfl, g, f3⟩
    have hp3 := f3.get h (by simp)
    refine ⟨.tup [.int k, xs[k]], [some (.loc a), some (.loc S.length), some (.int k), some xs[k]], by simp only [wgo, hp3]; simp [hk], rfl, ?_⟩
    have hkx : xs[k]? = some xs[k] := List.getElem?_eq_getElem hk
    have row : ∀ (q : Rw) (R : List Rw) (ask : Ask), xs[k] = rowD (ask, q) → Sp S' S.length (S.length + 1) R → R.length ≤ 1000 → ∀ Q' : Po, (q = placeP R ask → ∀ S3, DI.Fr [] S S3 → Sp S3 S.length (S.length + 1) (R ++ [placeP R ask]) → Q'.nx [some (.loc a), some (.loc S.length), some (.int k), some xs[k]] S3) → (q ≠ placeP R ask → ∀ S3, DI.Fr [] S S3 → Q'.rt (.int k) S3) → WS (dSs P0 (calls P0 fs (d + 3)) t_strip_fault_3 [some (.loc a), some (.loc S.length), some (.int k), some xs[k]] S') Q' := by
      intro q R ask e gR hR Q' hy hno
      rw [e] at hy ⊢
      unfold t_strip_fault_3
      refine z_ite (w_or (w_not (w_tru rfl (w_cal (w_cons (w_var ⟨_, rfl, w_nil ?_⟩))))))
      refine asked9 (d := d + 2) (s := ask.s) (s2 := q.s) (by intro e he; simp only [List.mem_cons, List.not_mem_nil, or_false] at he; rcases he with rfl | rfl | rfl | rfl | rfl | rfl | rfl | rfl | rfl <;> rfl) fun S2 f4 => ?_
      refine ⟨true, rfl, true, rfl, false, rfl, ?_⟩
      refine ⟨fun h => (by cases h), fun _ => ?_⟩
      refine w_cmp (place6 (a := ask) (more := [q.d]) (gR.fr f4 (by simp) (by simp)) (by omega) rfl rfl fun S5 f5 g5 => V_use (V_ix (z := q.d) (V_var rfl) V_int rfl) ?_)
      obtain ⟨t, e1, e2⟩ := eq_pl (S := S5) (Rw.pl (placeP R ask)) (Rw.pl q)
      refine ⟨!t, by simp only [cmpSem, e1]; rfl, !t, rfl, fun w => ?_, fun w => ?_⟩
      · unfold t_strip_fault_2
        refine z_ret (w_var ⟨_, rfl, ?_⟩)
        refine hno (fun z => ?_) S5 ((f3.trans f4).comp f5 (by simp))
        have : t = true := e2.mpr (by rw [z])
        rw [this] at w; cases w
      · refine z_nil ?_
        dsimp only
        refine z_nil ?_
        have ht : t = true := by cases t with | true => rfl | false => cases w
        exact hy (Rw.inj.mp (e2.mp ht)).symm S5 ((f3.trans f4).comp f5 (by simp)) g5
    have hRl : ((toldP [] as).take k).length ≤ 1000 := by simp [told_len]; omega
    by_cases c : k < n
    · have hka : k < as.length := by omega
      have e := hx k c
      rw [hkx, rows_at hka, Option.map_some] at e
      refine row _ _ _ (Option.some.inj e) g hRl _ (fun _ S3 f4 g4 => ?_) (fun z => absurd rfl z)
      refine ⟨by omega, _, _, rfl, ?_, f4⟩
      have ht := told_at as [] k hka
      rw [List.nil_append] at ht
      rw [List.take_add_one, ht]
      exact g4
    · have hkn : k = n := by omega
      subst hkn
      obtain ⟨hka, hj⟩ := ho _ hkx
      rcases hj with hj | ⟨q, e, hq⟩
      · unfold t_strip_fault_3
        refine z_ite (w_or (w_not (w_tru rfl (w_cal (w_cons (w_var ⟨_, rfl, w_nil (hj S' f3 (d + 2) _ fun S2 f4 => ?_)⟩))))))
        refine ⟨false, rfl, false, rfl, true, rfl, (fun _ => ⟨true, rfl, (fun _ => ?_), (fun h => (by cases h))⟩), (fun h => (by cases h))⟩
        unfold t_strip_fault_2
        refine z_ret (w_var ⟨_, rfl, ?_⟩)
        have := hQ S2 (f3.trans f4)
        rw [if_pos hk] at this
        exact this
      · refine row q _ _ e g hRl _ (fun z => absurd z hq) (fun _ S3 f4 => ?_)
        have := hQ S3 f4
        rw [if_pos hk] at this
        exact this
  · rintro σ' S' ⟨hkn, v2, v3, rfl, g, f3⟩
    dsimp only
    unfold t_strip_fault_4
    refine z_ret (w_non ?_)
    have := hQ S' f3
    rw [if_neg (by omega)] at this
    exact this
end K29

set_option Elab.async false
set_option linter.all false
set_option maxRecDepth 100000
set_option maxHeartbeats 4000000
namespace K29
open L2 DI PySem PySem.Spec PyProof.Rows
/-! ### repr of trees -/
def RB (S : Sto) (d : D) (k b : Nat) : Prop := ∀ f, k ≤ f → ∃ q, toR S f d = some q ∧ q.showable = true ∧ q.depth ≤ k ∧ q.shown.length + 2 ≤ b
theorem RB.up {S : Sto} {d : D} {k k' b b' : Nat} (h : RB S d k b) (hk : k ≤ k') (hb : b ≤ b') : RB S d k' b' := fun f hf =>
  let ⟨q, h1, h2, h3, h4⟩ := h f (by omega)
  ⟨q, h1, h2, by omega, by omega⟩
theorem rb_non {S : Sto} : RB S .non 1 6 := fun f hf => by
  obtain ⟨f, rfl⟩ : ∃ f', f = f' + 1 := ⟨f - 1, by omega⟩
  exact ⟨.none, rfl, rfl, by show 0 ≤ 1; omega, by decide +kernel⟩
theorem rb_bl {S : Sto} {b : Bool} : RB S (.bl b) 1 7 := fun f hf => by
  obtain ⟨f, rfl⟩ : ∃ f', f = f' + 1 := ⟨f - 1, by omega⟩
  exact ⟨.bool b, rfl, rfl, by show 0 ≤ 1; omega, by cases b <;> decide +kernel⟩
theorem rb_int {S : Sto} {i : Int} (h : i.natAbs < 10 ^ 7) : RB S (.int i) 1 10 := fun f hf => by
  obtain ⟨f, rfl⟩ : ∃ f', f = f' + 1 := ⟨f - 1, by omega⟩
  refine ⟨.int i, rfl, ?_, by show 0 ≤ 1; omega, ?_⟩
  · show decide (i.natAbs.log2 < 1920) = true
    refine decide_eq_true ?_
    have : i.natAbs.log2 ≤ i.natAbs.log2 := Nat.le_refl _
    by_cases h0 : i.natAbs = 0
    · rw [h0]; decide
    · rw [Nat.log2_lt h0]
      exact Nat.lt_of_lt_of_le h (by decide +kernel)
  · have := int_text_length_le10 (a := i) (k := 7) (by omega) h
    show (Str.ofString (toString i)).length + 2 ≤ 10
    have e : (Str.ofString (toString i)).length = (toString i).length := PySem.ofString_length _
    omega
theorem rb_str {S : Sto} {x : Str} (h : ∀ c ∈ x.cps.toList, c < 16 ^ 8) : RB S (.str x) 1 (10 * x.length + 4) := fun f hf => by
  obtain ⟨f, rfl⟩ : ∃ f', f = f' + 1 := ⟨f - 1, by omega⟩
  refine ⟨.str x, rfl, rfl, by show 0 ≤ 1; omega, ?_⟩
  have := StrLaws.reprText_len x h
  show (reprText x).length + 2 ≤ _
  omega
theorem rb_list {S : Sto} {k : Nat} : ∀ {xs : List D} {bs : List Nat}, xs.length = bs.length → (∀ (i : Nat) (d : D) (b : Nat), xs[i]? = some d → bs[i]? = some b → RB S d k b) → ∀ f, k ≤ f → ∃ qs, xs.mapM (toR S f) = some qs ∧ PyData.showableAll qs = true ∧ PyData.depthAll qs ≤ k ∧ piled (PyData.shownAll qs) ≤ bs.sum ∧ qs.length = xs.length
  | [], [], _, _, f, hf => ⟨[], rfl, rfl, Nat.zero_le _, Nat.le_refl _, rfl⟩
  | [], _ :: _, h, _, _, _ => by cases h
  | _ :: _, [], h, _, _, _ => by cases h
  | x :: xs, b :: bs, h, hx, f, hf => by
    obtain ⟨q, h1, h2, h3, h4⟩ := hx 0 x b rfl rfl f hf
    obtain ⟨qs, g1, g2, g3, g4, g5⟩ := rb_list (xs := xs) (bs := bs) (by simpa using h) (fun i d b e1 e2 => hx (i + 1) d b (by simpa using e1) (by simpa using e2)) f hf
    refine ⟨q :: qs, ?_, ?_, ?_, ?_, ?_⟩
    · rw [List.mapM_cons, h1, g1]; rfl
    · show (q.showable && PyData.showableAll qs) = true
      rw [h2, g2]; rfl
    · show max q.depth (PyData.depthAll qs) ≤ k
      omega
    · show piled (q.shown :: PyData.shownAll qs) ≤ _
      rw [piled_cons, List.sum_cons]
      omega
    · rw [List.length_cons, g5]; rfl
theorem tup_len (ts : List Str) : (tupleText ts).length ≤ piled ts + 3 := by
  unfold tupleText
  rw [strLen_append, strLen_append]
  have e1 : ((("(" : String) : Str)).length = 1 := rfl
  have e3 : (((if ts.length == 1 then ",)" else ")" : String) : Str)).length ≤ 2 := by split <;> decide
  by_cases h : ts = []
  · subst h
    have e4 : (Str.join ", " []).length = 0 := rfl
    omega
  · have := join_length_add ts h
    omega
theorem dict_len (ts : List Str) : (dictText ts).length ≤ piled ts + 2 := by
  unfold dictText
  rw [strLen_append, strLen_append]
  have e1 : ((("{" : String) : Str)).length = 1 := rfl
  have e3 : ((("}" : String) : Str)).length = 1 := rfl
  by_cases h : ts = []
  · subst h
    have e4 : (Str.join ", " []).length = 0 := rfl
    omega
  · have := join_length_add ts h
    omega
theorem rb_tup {S : Sto} {k : Nat} {xs : List D} {bs : List Nat} (h : xs.length = bs.length) (hx : ∀ (i : Nat) (d : D) (b : Nat), xs[i]? = some d → bs[i]? = some b → RB S d k b) : RB S (.tup xs) (k + 1) (bs.sum + 5) := fun f hf => by
  obtain ⟨f, rfl⟩ : ∃ f', f = f' + 1 := ⟨f - 1, by omega⟩
  obtain ⟨qs, g1, g2, g3, g4, g5⟩ := rb_list h hx f (by omega)
  refine ⟨.tuple qs, ?_, g2, ?_, ?_⟩
  · show (xs.mapM (toR S f)).map PyData.tuple = _
    rw [g1]; rfl
  · show PyData.depthAll qs + 1 ≤ k + 1
    omega
  · show (tupleText (PyData.shownAll qs)).length + 2 ≤ _
    have := tup_len (PyData.shownAll qs)
    omega
theorem rb_tupc {S : Sto} {k b : Nat} {xs : List D} (hx : ∀ x ∈ xs, RB S x k b) : RB S (.tup xs) (k + 1) (xs.length * b + 5) := by
  have := rb_tup (S := S) (k := k) (xs := xs) (bs := List.replicate xs.length b) (by simp) fun i d b' e1 e2 => by
    rw [List.getElem?_replicate] at e2
    split at e2
    · cases e2; exact hx d (List.mem_of_getElem? e1)
    · cases e2
  simpa using this
theorem kv_repr {kb : Nat} : ∀ {kvs : List (Key × D)} {qs : List PyData}, qs.length = kvs.length → (∀ kv ∈ kvs, ∃ w : Str, kv.1 = .inr w ∧ w.length ≤ kb ∧ ∀ c ∈ w.cps.toList, c < 16 ^ 8) → PyData.showableAll qs = true →
    PyData.showableKv ((kvs.map fun w => keyP w.1).zip qs) = true ∧ PyData.depthKv ((kvs.map fun w => keyP w.1).zip qs) ≤ PyData.depthAll qs ∧ piled (PyData.shownKv ((kvs.map fun w => keyP w.1).zip qs)) ≤ piled (PyData.shownAll qs) + kvs.length * (10 * kb + 4)
  | [], [], _, _, _ => ⟨rfl, Nat.le_refl _, Nat.zero_le _⟩
  | [], _ :: _, h, _, _ => by cases h
  | _ :: _, [], h, _, _ => by cases h
  | kv :: kvs, q :: qs, h, hk, hs => by
    have hs' : (q.showable && PyData.showableAll qs) = true := hs
    rw [Bool.and_eq_true] at hs'
    obtain ⟨g1, g2, g3⟩ := kv_repr (kvs := kvs) (qs := qs) (by simpa using h) (fun kv hkv => hk kv (List.mem_cons_of_mem _ hkv)) hs'.2
    obtain ⟨w, e, hw, hc⟩ := hk kv List.mem_cons_self
    have ek : keyP kv.1 = .str w := by rw [e]; rfl
    rw [List.map_cons, List.zip_cons_cons, ek]
    refine ⟨?_, ?_, ?_⟩
    · show (true && q.showable && PyData.showableKv _) = true
      rw [hs'.1, g1]; rfl
    · show max (max 0 q.depth) (PyData.depthKv _) ≤ max q.depth (PyData.depthAll qs)
      omega
    · show piled ((reprText w ++ ": " ++ q.shown) :: PyData.shownKv _) ≤ piled (q.shown :: PyData.shownAll qs) + (kvs.length + 1) * _
      rw [piled_cons, piled_cons, strLen_append, strLen_append]
      have e1 : (((": " : String) : Str)).length = 2 := rfl
      have := StrLaws.reprText_len w hc
      have e2 : (kvs.length + 1) * (10 * kb + 4) = kvs.length * (10 * kb + 4) + (10 * kb + 4) := by rw [Nat.add_mul, Nat.one_mul]
      omega
theorem rb_dict {S : Sto} {k b kb a : Nat} {kvs : List (Key × D)} (h : S[a]? = some (.dk kvs)) (hx : ∀ kv ∈ kvs, RB S kv.2 k b) (hk : ∀ kv ∈ kvs, ∃ w : Str, kv.1 = .inr w ∧ w.length ≤ kb ∧ ∀ c ∈ w.cps.toList, c < 16 ^ 8) :
    RB S (.loc a) (k + 1) (kvs.length * b + kvs.length * (10 * kb + 4) + 4) := fun f hf => by
  obtain ⟨f, rfl⟩ : ∃ f', f = f' + 1 := ⟨f - 1, by omega⟩
  obtain ⟨qs, g1, g2, g3, g4, g5⟩ := rb_list (S := S) (k := k) (xs := kvs.map (·.2)) (bs := List.replicate kvs.length b) (by simp) (fun i d b' e1 e2 => by
    rw [List.getElem?_replicate] at e2
    split at e2
    · cases e2
      obtain ⟨kv, hkv, rfl⟩ := List.mem_map.mp (List.mem_of_getElem? e1)
      exact hx kv hkv
    · cases e2) f (by omega)
  obtain ⟨r1, r2, r3⟩ := kv_repr (qs := qs) (by simpa using g5) hk g2
  refine ⟨.dict ((kvs.map fun w : Key × D => keyP w.1).zip qs), ?_, r1, ?_, ?_⟩
  · simp only [toR, h]
    rw [g1]; rfl
  · show PyData.depthKv _ + 1 ≤ k + 1
    omega
  · show (dictText (PyData.shownKv _)).length + 2 ≤ _
    have := dict_len (PyData.shownKv ((kvs.map fun w => keyP w.1).zip qs))
    simp at g4
    omega

theorem rb_intK {S : Sto} {i : Int} (h : i.natAbs < 10 ^ 25) : RB S (.int i) 1 28 := fun f hf => by
  obtain ⟨f, rfl⟩ : ∃ f', f = f' + 1 := ⟨f - 1, by omega⟩
  refine ⟨.int i, rfl, ?_, by show 0 ≤ 1; omega, ?_⟩
  · show decide (i.natAbs.log2 < 1920) = true
    refine decide_eq_true ?_
    by_cases h0 : i.natAbs = 0
    · rw [h0]; decide
    · rw [Nat.log2_lt h0]
      exact Nat.lt_of_lt_of_le h (by decide +kernel)
  · have := int_text_length_le10 (a := i) (k := 25) (by omega) h
    show (Str.ofString (toString i)).length + 2 ≤ 28
    have e : (Str.ofString (toString i)).length = (toString i).length := PySem.ofString_length _
    omega
theorem piled_sum : ∀ ts : List Str, piled ts = (ts.map (·.length)).sum + 2 * ts.length
  | [] => rfl
  | t :: ts => by
    rw [piled_cons, piled_sum ts]
    simp only [List.map_cons, List.sum_cons, List.length_cons]
    omega
theorem lst_len (ts : List Str) : (listText ts).length ≤ piled ts + 3 := by
  rw [piled_sum]
  exact listText_len_le ts
theorem rb_lstc {S : Sto} {k b a : Nat} {xs : List D} (h : S[a]? = some (.lst xs)) (hx : ∀ x ∈ xs, RB S x k b) : RB S (.loc a) (k + 1) (xs.length * b + 5) := fun f hf => by
  obtain ⟨f, rfl⟩ : ∃ f', f = f' + 1 := ⟨f - 1, by omega⟩
  obtain ⟨qs, g1, g2, g3, g4, g5⟩ := rb_list (S := S) (k := k) (xs := xs) (bs := List.replicate xs.length b) (by simp) (fun i d b' e1 e2 => by
    rw [List.getElem?_replicate] at e2
    split at e2
    · cases e2; exact hx d (List.mem_of_getElem? e1)
    · cases e2) f (by omega)
  refine ⟨.list qs, ?_, g2, ?_, ?_⟩
  · simp only [toR, h]
    rw [g1]; rfl
  · show PyData.depthAll qs + 1 ≤ k + 1
    omega
  · show (listText (PyData.shownAll qs)).length + 2 ≤ _
    have := lst_len (PyData.shownAll qs)
    simp at g4
    omega
/-- repr of a list of what can be shown -/
theorem repr_lst {S : Sto} {a b : Nat} {xs : List D} (h : S[a]? = some (.lst xs)) (hx : ∀ x ∈ xs, RB S x 5 b) (hl : xs.length * b ≤ 1000000) : ∃ q, toR S 32 (.loc a) = some q ∧ biSem .repr_ [.loc a] S = some (.str q.shown, S) := by
  obtain ⟨q, h1, h2, h3, h4⟩ := rb_lstc h hx 32 (by omega)
  refine ⟨q, h1, ?_⟩
  have h5 : q.shown.length ≤ sizeLine := Nat.le_trans (m := 1000005) (by omega) (by decide)
  simp only [biSem, h1, Option.bind_some]
  rw [if_pos ⟨h2, by omega, h5⟩]
def szI (i : Int) : Prop := i.natAbs < 10 ^ 25
theorem rb_sd2 {S : Sto} {s : Bool} : RB S (.str (sd s)) 1 54 := by
  refine (rb_str (x := sd s) ?_).up (Nat.le_refl _) ?_
  · have : ((sd s).cps.toList.all fun c => decide (c < 16 ^ 8)) = true := by cases s <;> decide +kernel
    exact fun c hc => of_decide_eq_true (List.all_eq_true.mp this c hc)
  · cases s <;> decide +kernel
theorem rb_place {S : Sto} {q : Rw} (h : szI q.x ∧ szI q.y ∧ szI q.r ∧ szI q.b) : RB S q.d 2 275 := by
  refine (rb_tupc (k := 1) (b := 54) fun x hx => ?_).up (Nat.le_refl _) (by show 5 * 54 + 5 ≤ 275; omega)
  simp only [List.mem_cons, List.not_mem_nil, or_false] at hx
  rcases hx with rfl | rfl | rfl | rfl | rfl
  · exact rb_sd2
  · exact (rb_intK h.1).up (by omega) (by omega)
  · exact (rb_intK h.2.1).up (by omega) (by omega)
  · exact (rb_intK h.2.2.1).up (by omega) (by omega)
  · exact (rb_intK h.2.2.2).up (by omega) (by omega)
/-! ### bounds of what is asked and of the places -/
def sm (a : Ask) : Prop := (-100 ≤ a.st ∧ a.st ≤ 100) ∧ (-200 ≤ a.en ∧ a.en ≤ 200) ∧ (-100 ≤ a.w ∧ a.w ≤ 100) ∧ (-100 ≤ a.h ∧ a.h ≤ 100) ∧ -3 ≤ a.t ∧ a.t ≤ 40
def Bx (R : List Rw) (B : Int) : Prop := ∀ r ∈ R, (-B ≤ r.x ∧ r.x ≤ B) ∧ (-B ≤ r.r ∧ r.r ≤ B) ∧ r.y ≤ r.b
theorem pick_mem {R : List Rw} {s : Bool} {g : Rw → Int} {y z : Int} (h : z ∈ pick s g R y) : ∃ r ∈ R, z = g r := by
  obtain ⟨r, hr, e⟩ := List.mem_filterMap.mp h
  split at e
  · exact ⟨r, hr, (Option.some.inj e).symm⟩
  · cases e
theorem fold_min (l : List Int) (a : Int) : l.foldl min a = a ∨ l.foldl min a ∈ l := (foldl_min l a).2.2
theorem Bx.place {R : List Rw} {a : Ask} {B : Int} (h : Bx R B) (hs : sm a) (hB : 200 ≤ B) : Bx (R ++ [placeP R a]) (B + 200) := by
  obtain ⟨x, z, g, e⟩ := place_go R a
  obtain ⟨_, k2, _, _⟩ := g.first
  obtain ⟨s1, s2, s3, _⟩ := hs
  intro r hr
  rcases List.mem_append.mp hr with hr | hr
  · have := h r hr; omega
  · rw [List.mem_singleton] at hr
    subst hr
    rw [e]
    have hx : -(B + 100) ≤ x ∧ x ≤ B + 100 := by
      unfold spotP at k2
      split at k2
      · split at k2
        · cases k2
        · have k2 := Option.some.inj k2
          unfold leftsP at k2
          rcases (foldl_max_spec (pick true Rw.r R z) a.st).1 with e | e
          · omega
          · obtain ⟨r, hr, e2⟩ := pick_mem e
            have := (h r hr).2
            omega
      · split at k2
        · cases k2
        · have k2 := Option.some.inj k2
          unfold rightsP at k2
          rcases fold_min (pick false Rw.x R z) a.en with e | e
          · omega
          · obtain ⟨r, hr, e2⟩ := pick_mem e
            have := (h r hr).1
            omega
    show (-(B + 200) ≤ x ∧ x ≤ B + 200) ∧ (-(B + 200) ≤ x + max 0 a.w ∧ x + max 0 a.w ≤ B + 200) ∧ z ≤ z + max 0 a.h
    omega
theorem askedC {d i : Nat} {S : Sto} (h : St S i) {Q : D → Sto → Prop}
    (hQ : ∀ (a : Ask) (S' : Sto), sm a → St S' i → DI.Fr [i] S S' → Q (.tup (askL a)) S') : W (calls P0 fs (d + 3) 2 [.loc i, .int 40] S) Q := by
  refine W_call (f := d_law_asked) rfl rfl ?_
  show WS (dSs P0 _ t_law_asked [some (.loc i), some (.int 40), none, none, none, none] S) _
  unfold t_law_asked
  (repeat (first | ((with_reducible refine w_var ?_); refine ⟨_, rfl, ?_⟩) | with_reducible refine z_set ?_ | with_reducible refine z_setT ?_ | with_reducible refine z_par ?_ | with_reducible refine z_fld ?_ | with_reducible refine z_sub ?_ | with_reducible refine z_exp ?_ | with_reducible refine z_ret ?_ | with_reducible refine z_retN ?_ | with_reducible refine z_ite ?_ | with_reducible refine z_whl ?_ | with_reducible refine z_for ?_ | with_reducible refine z_pass ?_ | with_reducible refine z_brk ?_ | with_reducible refine z_cnt ?_ | with_reducible refine z_nil ?_ | with_reducible refine z_par3 ?_ | with_reducible refine z_sub2 ?_ | with_reducible refine z_sub3 ?_ | with_reducible refine z_raiF ?_ | with_reducible refine z_rai ?_ | with_reducible refine z_try1 ?_ | with_reducible refine w_bin ?_ | with_reducible refine w_int ?_ | with_reducible refine w_str ?_ | with_reducible refine w_blc ?_ | with_reducible refine w_non ?_ | with_reducible refine w_bty ?_ | with_reducible refine w_neg ?_ | with_reducible refine w_cmp ?_ | with_reducible refine w_chn ?_ | with_reducible refine w_and ?_ | with_reducible refine w_or ?_ | with_reducible refine w_not ?_ | with_reducible refine w_ite ?_ | with_reducible refine w_fld ?_ | with_reducible refine w_ix ?_ | with_reducible refine w_sl ?_ | with_reducible refine w_no ?_ | with_reducible refine w_so ?_ | with_reducible refine w_nil ?_ | with_reducible refine w_cons ?_ | with_reducible refine w_tup ?_ | with_reducible refine w_lst ?_ | with_reducible refine w_cal ?_ | with_reducible refine w_mk ?_ | with_reducible refine w_mth ?_ | with_reducible refine w_bi ?_ | with_reducible refine w_bm ?_ | with_reducible refine w_lc ?_ | with_reducible refine w_iex ?_ | with_reducible refine w_rng1 ?_ | with_reducible refine w_rng2 ?_ | with_reducible refine w_enum ?_ | with_reducible refine w_T0 ?_ | with_reducible refine w_T1 ?_ | with_reducible refine w_add ?_ | with_reducible refine w_sub ?_ | with_reducible refine w_dctK ?_ | with_reducible refine w_dget1 ?_ | with_reducible refine w_dget2 ?_ | with_reducible refine w_rev ?_ | ((with_reducible refine w_tru ?_ ?_); exact rfl)))
  refine digit h (by omega) (by omega) fun x1 S1 hx1 hx1' h2 f1 => ?_
  (repeat (first | ((with_reducible refine w_var ?_); refine ⟨_, rfl, ?_⟩) | with_reducible refine z_set ?_ | with_reducible refine z_setT ?_ | with_reducible refine z_par ?_ | with_reducible refine z_fld ?_ | with_reducible refine z_sub ?_ | with_reducible refine z_exp ?_ | with_reducible refine z_ret ?_ | with_reducible refine z_retN ?_ | with_reducible refine z_ite ?_ | with_reducible refine z_whl ?_ | with_reducible refine z_for ?_ | with_reducible refine z_pass ?_ | with_reducible refine z_brk ?_ | with_reducible refine z_cnt ?_ | with_reducible refine z_nil ?_ | with_reducible refine z_par3 ?_ | with_reducible refine z_sub2 ?_ | with_reducible refine z_sub3 ?_ | with_reducible refine z_raiF ?_ | with_reducible refine z_rai ?_ | with_reducible refine z_try1 ?_ | with_reducible refine w_bin ?_ | with_reducible refine w_int ?_ | with_reducible refine w_str ?_ | with_reducible refine w_blc ?_ | with_reducible refine w_non ?_ | with_reducible refine w_bty ?_ | with_reducible refine w_neg ?_ | with_reducible refine w_cmp ?_ | with_reducible refine w_chn ?_ | with_reducible refine w_and ?_ | with_reducible refine w_or ?_ | with_reducible refine w_not ?_ | with_reducible refine w_ite ?_ | with_reducible refine w_fld ?_ | with_reducible refine w_ix ?_ | with_reducible refine w_sl ?_ | with_reducible refine w_no ?_ | with_reducible refine w_so ?_ | with_reducible refine w_nil ?_ | with_reducible refine w_cons ?_ | with_reducible refine w_tup ?_ | with_reducible refine w_lst ?_ | with_reducible refine w_cal ?_ | with_reducible refine w_mk ?_ | with_reducible refine w_mth ?_ | with_reducible refine w_bi ?_ | with_reducible refine w_bm ?_ | with_reducible refine w_lc ?_ | with_reducible refine w_iex ?_ | with_reducible refine w_rng1 ?_ | with_reducible refine w_rng2 ?_ | with_reducible refine w_enum ?_ | with_reducible refine w_T0 ?_ | with_reducible refine w_T1 ?_ | with_reducible refine w_add ?_ | with_reducible refine w_sub ?_ | with_reducible refine w_dctK ?_ | with_reducible refine w_dget1 ?_ | with_reducible refine w_dget2 ?_ | with_reducible refine w_rev ?_ | ((with_reducible refine w_tru ?_ ?_); exact rfl)))
  refine w_div (by omega) ?_
  (repeat (first | ((with_reducible refine w_var ?_); refine ⟨_, rfl, ?_⟩) | with_reducible refine z_set ?_ | with_reducible refine z_setT ?_ | with_reducible refine z_par ?_ | with_reducible refine z_fld ?_ | with_reducible refine z_sub ?_ | with_reducible refine z_exp ?_ | with_reducible refine z_ret ?_ | with_reducible refine z_retN ?_ | with_reducible refine z_ite ?_ | with_reducible refine z_whl ?_ | with_reducible refine z_for ?_ | with_reducible refine z_pass ?_ | with_reducible refine z_brk ?_ | with_reducible refine z_cnt ?_ | with_reducible refine z_nil ?_ | with_reducible refine z_par3 ?_ | with_reducible refine z_sub2 ?_ | with_reducible refine z_sub3 ?_ | with_reducible refine z_raiF ?_ | with_reducible refine z_rai ?_ | with_reducible refine z_try1 ?_ | with_reducible refine w_bin ?_ | with_reducible refine w_int ?_ | with_reducible refine w_str ?_ | with_reducible refine w_blc ?_ | with_reducible refine w_non ?_ | with_reducible refine w_bty ?_ | with_reducible refine w_neg ?_ | with_reducible refine w_cmp ?_ | with_reducible refine w_chn ?_ | with_reducible refine w_and ?_ | with_reducible refine w_or ?_ | with_reducible refine w_not ?_ | with_reducible refine w_ite ?_ | with_reducible refine w_fld ?_ | with_reducible refine w_ix ?_ | with_reducible refine w_sl ?_ | with_reducible refine w_no ?_ | with_reducible refine w_so ?_ | with_reducible refine w_nil ?_ | with_reducible refine w_cons ?_ | with_reducible refine w_tup ?_ | with_reducible refine w_lst ?_ | with_reducible refine w_cal ?_ | with_reducible refine w_mk ?_ | with_reducible refine w_mth ?_ | with_reducible refine w_bi ?_ | with_reducible refine w_bm ?_ | with_reducible refine w_lc ?_ | with_reducible refine w_iex ?_ | with_reducible refine w_rng1 ?_ | with_reducible refine w_rng2 ?_ | with_reducible refine w_enum ?_ | with_reducible refine w_T0 ?_ | with_reducible refine w_T1 ?_ | with_reducible refine w_add ?_ | with_reducible refine w_sub ?_ | with_reducible refine w_dctK ?_ | with_reducible refine w_dget1 ?_ | with_reducible refine w_dget2 ?_ | with_reducible refine w_rev ?_ | ((with_reducible refine w_tru ?_ ?_); exact rfl)))
  try simp only [List.set_cons_succ, List.set_cons_zero]
  (repeat (first | ((with_reducible refine w_var ?_); refine ⟨_, rfl, ?_⟩) | with_reducible refine z_set ?_ | with_reducible refine z_setT ?_ | with_reducible refine z_par ?_ | with_reducible refine z_fld ?_ | with_reducible refine z_sub ?_ | with_reducible refine z_exp ?_ | with_reducible refine z_ret ?_ | with_reducible refine z_retN ?_ | with_reducible refine z_ite ?_ | with_reducible refine z_whl ?_ | with_reducible refine z_for ?_ | with_reducible refine z_pass ?_ | with_reducible refine z_brk ?_ | with_reducible refine z_cnt ?_ | with_reducible refine z_nil ?_ | with_reducible refine z_par3 ?_ | with_reducible refine z_sub2 ?_ | with_reducible refine z_sub3 ?_ | with_reducible refine z_raiF ?_ | with_reducible refine z_rai ?_ | with_reducible refine z_try1 ?_ | with_reducible refine w_bin ?_ | with_reducible refine w_int ?_ | with_reducible refine w_str ?_ | with_reducible refine w_blc ?_ | with_reducible refine w_non ?_ | with_reducible refine w_bty ?_ | with_reducible refine w_neg ?_ | with_reducible refine w_cmp ?_ | with_reducible refine w_chn ?_ | with_reducible refine w_and ?_ | with_reducible refine w_or ?_ | with_reducible refine w_not ?_ | with_reducible refine w_ite ?_ | with_reducible refine w_fld ?_ | with_reducible refine w_ix ?_ | with_reducible refine w_sl ?_ | with_reducible refine w_no ?_ | with_reducible refine w_so ?_ | with_reducible refine w_nil ?_ | with_reducible refine w_cons ?_ | with_reducible refine w_tup ?_ | with_reducible refine w_lst ?_ | with_reducible refine w_cal ?_ | with_reducible refine w_mk ?_ | with_reducible refine w_mth ?_ | with_reducible refine w_bi ?_ | with_reducible refine w_bm ?_ | with_reducible refine w_lc ?_ | with_reducible refine w_iex ?_ | with_reducible refine w_rng1 ?_ | with_reducible refine w_rng2 ?_ | with_reducible refine w_enum ?_ | with_reducible refine w_T0 ?_ | with_reducible refine w_T1 ?_ | with_reducible refine w_add ?_ | with_reducible refine w_sub ?_ | with_reducible refine w_dctK ?_ | with_reducible refine w_dget1 ?_ | with_reducible refine w_dget2 ?_ | with_reducible refine w_rev ?_ | ((with_reducible refine w_tru ?_ ?_); exact rfl)))
  refine digit h2 (by omega) (by omega) fun x2 S2 hx2 hx2' h3 f2 => ?_
  (repeat (first | ((with_reducible refine w_var ?_); refine ⟨_, rfl, ?_⟩) | with_reducible refine z_set ?_ | with_reducible refine z_setT ?_ | with_reducible refine z_par ?_ | with_reducible refine z_fld ?_ | with_reducible refine z_sub ?_ | with_reducible refine z_exp ?_ | with_reducible refine z_ret ?_ | with_reducible refine z_retN ?_ | with_reducible refine z_ite ?_ | with_reducible refine z_whl ?_ | with_reducible refine z_for ?_ | with_reducible refine z_pass ?_ | with_reducible refine z_brk ?_ | with_reducible refine z_cnt ?_ | with_reducible refine z_nil ?_ | with_reducible refine z_par3 ?_ | with_reducible refine z_sub2 ?_ | with_reducible refine z_sub3 ?_ | with_reducible refine z_raiF ?_ | with_reducible refine z_rai ?_ | with_reducible refine z_try1 ?_ | with_reducible refine w_bin ?_ | with_reducible refine w_int ?_ | with_reducible refine w_str ?_ | with_reducible refine w_blc ?_ | with_reducible refine w_non ?_ | with_reducible refine w_bty ?_ | with_reducible refine w_neg ?_ | with_reducible refine w_cmp ?_ | with_reducible refine w_chn ?_ | with_reducible refine w_and ?_ | with_reducible refine w_or ?_ | with_reducible refine w_not ?_ | with_reducible refine w_ite ?_ | with_reducible refine w_fld ?_ | with_reducible refine w_ix ?_ | with_reducible refine w_sl ?_ | with_reducible refine w_no ?_ | with_reducible refine w_so ?_ | with_reducible refine w_nil ?_ | with_reducible refine w_cons ?_ | with_reducible refine w_tup ?_ | with_reducible refine w_lst ?_ | with_reducible refine w_cal ?_ | with_reducible refine w_mk ?_ | with_reducible refine w_mth ?_ | with_reducible refine w_bi ?_ | with_reducible refine w_bm ?_ | with_reducible refine w_lc ?_ | with_reducible refine w_iex ?_ | with_reducible refine w_rng1 ?_ | with_reducible refine w_rng2 ?_ | with_reducible refine w_enum ?_ | with_reducible refine w_T0 ?_ | with_reducible refine w_T1 ?_ | with_reducible refine w_add ?_ | with_reducible refine w_sub ?_ | with_reducible refine w_dctK ?_ | with_reducible refine w_dget1 ?_ | with_reducible refine w_dget2 ?_ | with_reducible refine w_rev ?_ | ((with_reducible refine w_tru ?_ ?_); exact rfl)))
  refine digit h3 (by omega) (by omega) fun x3 S3 hx3 hx3' h4 f3 => ?_
  (repeat (first | ((with_reducible refine w_var ?_); refine ⟨_, rfl, ?_⟩) | with_reducible refine z_set ?_ | with_reducible refine z_setT ?_ | with_reducible refine z_par ?_ | with_reducible refine z_fld ?_ | with_reducible refine z_sub ?_ | with_reducible refine z_exp ?_ | with_reducible refine z_ret ?_ | with_reducible refine z_retN ?_ | with_reducible refine z_ite ?_ | with_reducible refine z_whl ?_ | with_reducible refine z_for ?_ | with_reducible refine z_pass ?_ | with_reducible refine z_brk ?_ | with_reducible refine z_cnt ?_ | with_reducible refine z_nil ?_ | with_reducible refine z_par3 ?_ | with_reducible refine z_sub2 ?_ | with_reducible refine z_sub3 ?_ | with_reducible refine z_raiF ?_ | with_reducible refine z_rai ?_ | with_reducible refine z_try1 ?_ | with_reducible refine w_bin ?_ | with_reducible refine w_int ?_ | with_reducible refine w_str ?_ | with_reducible refine w_blc ?_ | with_reducible refine w_non ?_ | with_reducible refine w_bty ?_ | with_reducible refine w_neg ?_ | with_reducible refine w_cmp ?_ | with_reducible refine w_chn ?_ | with_reducible refine w_and ?_ | with_reducible refine w_or ?_ | with_reducible refine w_not ?_ | with_reducible refine w_ite ?_ | with_reducible refine w_fld ?_ | with_reducible refine w_ix ?_ | with_reducible refine w_sl ?_ | with_reducible refine w_no ?_ | with_reducible refine w_so ?_ | with_reducible refine w_nil ?_ | with_reducible refine w_cons ?_ | with_reducible refine w_tup ?_ | with_reducible refine w_lst ?_ | with_reducible refine w_cal ?_ | with_reducible refine w_mk ?_ | with_reducible refine w_mth ?_ | with_reducible refine w_bi ?_ | with_reducible refine w_bm ?_ | with_reducible refine w_lc ?_ | with_reducible refine w_iex ?_ | with_reducible refine w_rng1 ?_ | with_reducible refine w_rng2 ?_ | with_reducible refine w_enum ?_ | with_reducible refine w_T0 ?_ | with_reducible refine w_T1 ?_ | with_reducible refine w_add ?_ | with_reducible refine w_sub ?_ | with_reducible refine w_dctK ?_ | with_reducible refine w_dget1 ?_ | with_reducible refine w_dget2 ?_ | with_reducible refine w_rev ?_ | ((with_reducible refine w_tru ?_ ?_); exact rfl)))
  refine ⟨sz (by simp), ?_⟩
  (repeat (first | ((with_reducible refine w_var ?_); refine ⟨_, rfl, ?_⟩) | with_reducible refine z_set ?_ | with_reducible refine z_setT ?_ | with_reducible refine z_par ?_ | with_reducible refine z_fld ?_ | with_reducible refine z_sub ?_ | with_reducible refine z_exp ?_ | with_reducible refine z_ret ?_ | with_reducible refine z_retN ?_ | with_reducible refine z_ite ?_ | with_reducible refine z_whl ?_ | with_reducible refine z_for ?_ | with_reducible refine z_pass ?_ | with_reducible refine z_brk ?_ | with_reducible refine z_cnt ?_ | with_reducible refine z_nil ?_ | with_reducible refine z_par3 ?_ | with_reducible refine z_sub2 ?_ | with_reducible refine z_sub3 ?_ | with_reducible refine z_raiF ?_ | with_reducible refine z_rai ?_ | with_reducible refine z_try1 ?_ | with_reducible refine w_bin ?_ | with_reducible refine w_int ?_ | with_reducible refine w_str ?_ | with_reducible refine w_blc ?_ | with_reducible refine w_non ?_ | with_reducible refine w_bty ?_ | with_reducible refine w_neg ?_ | with_reducible refine w_cmp ?_ | with_reducible refine w_chn ?_ | with_reducible refine w_and ?_ | with_reducible refine w_or ?_ | with_reducible refine w_not ?_ | with_reducible refine w_ite ?_ | with_reducible refine w_fld ?_ | with_reducible refine w_ix ?_ | with_reducible refine w_sl ?_ | with_reducible refine w_no ?_ | with_reducible refine w_so ?_ | with_reducible refine w_nil ?_ | with_reducible refine w_cons ?_ | with_reducible refine w_tup ?_ | with_reducible refine w_lst ?_ | with_reducible refine w_cal ?_ | with_reducible refine w_mk ?_ | with_reducible refine w_mth ?_ | with_reducible refine w_bi ?_ | with_reducible refine w_bm ?_ | with_reducible refine w_lc ?_ | with_reducible refine w_iex ?_ | with_reducible refine w_rng1 ?_ | with_reducible refine w_rng2 ?_ | with_reducible refine w_enum ?_ | with_reducible refine w_T0 ?_ | with_reducible refine w_T1 ?_ | with_reducible refine w_add ?_ | with_reducible refine w_sub ?_ | with_reducible refine w_dctK ?_ | with_reducible refine w_dget1 ?_ | with_reducible refine w_dget2 ?_ | with_reducible refine w_rev ?_ | ((with_reducible refine w_tru ?_ ?_); exact rfl)))
  refine oneI' h4 (by simp) (by simp) (by simp) fun x4 S4 hx4 h5 f4 => ?_
  have hx4 : -10 ≤ x4 ∧ x4 ≤ 40 := by
    simp only [List.mem_cons, List.not_mem_nil, or_false, D.int.injEq] at hx4
    omega
  (repeat (first | ((with_reducible refine w_var ?_); refine ⟨_, rfl, ?_⟩) | with_reducible refine z_set ?_ | with_reducible refine z_setT ?_ | with_reducible refine z_par ?_ | with_reducible refine z_fld ?_ | with_reducible refine z_sub ?_ | with_reducible refine z_exp ?_ | with_reducible refine z_ret ?_ | with_reducible refine z_retN ?_ | with_reducible refine z_ite ?_ | with_reducible refine z_whl ?_ | with_reducible refine z_for ?_ | with_reducible refine z_pass ?_ | with_reducible refine z_brk ?_ | with_reducible refine z_cnt ?_ | with_reducible refine z_nil ?_ | with_reducible refine z_par3 ?_ | with_reducible refine z_sub2 ?_ | with_reducible refine z_sub3 ?_ | with_reducible refine z_raiF ?_ | with_reducible refine z_rai ?_ | with_reducible refine z_try1 ?_ | with_reducible refine w_bin ?_ | with_reducible refine w_int ?_ | with_reducible refine w_str ?_ | with_reducible refine w_blc ?_ | with_reducible refine w_non ?_ | with_reducible refine w_bty ?_ | with_reducible refine w_neg ?_ | with_reducible refine w_cmp ?_ | with_reducible refine w_chn ?_ | with_reducible refine w_and ?_ | with_reducible refine w_or ?_ | with_reducible refine w_not ?_ | with_reducible refine w_ite ?_ | with_reducible refine w_fld ?_ | with_reducible refine w_ix ?_ | with_reducible refine w_sl ?_ | with_reducible refine w_no ?_ | with_reducible refine w_so ?_ | with_reducible refine w_nil ?_ | with_reducible refine w_cons ?_ | with_reducible refine w_tup ?_ | with_reducible refine w_lst ?_ | with_reducible refine w_cal ?_ | with_reducible refine w_mk ?_ | with_reducible refine w_mth ?_ | with_reducible refine w_bi ?_ | with_reducible refine w_bm ?_ | with_reducible refine w_lc ?_ | with_reducible refine w_iex ?_ | with_reducible refine w_rng1 ?_ | with_reducible refine w_rng2 ?_ | with_reducible refine w_enum ?_ | with_reducible refine w_T0 ?_ | with_reducible refine w_T1 ?_ | with_reducible refine w_add ?_ | with_reducible refine w_sub ?_ | with_reducible refine w_dctK ?_ | with_reducible refine w_dget1 ?_ | with_reducible refine w_dget2 ?_ | with_reducible refine w_rev ?_ | ((with_reducible refine w_tru ?_ ?_); exact rfl)))
  try simp only [List.set_cons_succ, List.set_cons_zero]
  (repeat (first | ((with_reducible refine w_var ?_); refine ⟨_, rfl, ?_⟩) | with_reducible refine z_set ?_ | with_reducible refine z_setT ?_ | with_reducible refine z_par ?_ | with_reducible refine z_fld ?_ | with_reducible refine z_sub ?_ | with_reducible refine z_exp ?_ | with_reducible refine z_ret ?_ | with_reducible refine z_retN ?_ | with_reducible refine z_ite ?_ | with_reducible refine z_whl ?_ | with_reducible refine z_for ?_ | with_reducible refine z_pass ?_ | with_reducible refine z_brk ?_ | with_reducible refine z_cnt ?_ | with_reducible refine z_nil ?_ | with_reducible refine z_par3 ?_ | with_reducible refine z_sub2 ?_ | with_reducible refine z_sub3 ?_ | with_reducible refine z_raiF ?_ | with_reducible refine z_rai ?_ | with_reducible refine z_try1 ?_ | with_reducible refine w_bin ?_ | with_reducible refine w_int ?_ | with_reducible refine w_str ?_ | with_reducible refine w_blc ?_ | with_reducible refine w_non ?_ | with_reducible refine w_bty ?_ | with_reducible refine w_neg ?_ | with_reducible refine w_cmp ?_ | with_reducible refine w_chn ?_ | with_reducible refine w_and ?_ | with_reducible refine w_or ?_ | with_reducible refine w_not ?_ | with_reducible refine w_ite ?_ | with_reducible refine w_fld ?_ | with_reducible refine w_ix ?_ | with_reducible refine w_sl ?_ | with_reducible refine w_no ?_ | with_reducible refine w_so ?_ | with_reducible refine w_nil ?_ | with_reducible refine w_cons ?_ | with_reducible refine w_tup ?_ | with_reducible refine w_lst ?_ | with_reducible refine w_cal ?_ | with_reducible refine w_mk ?_ | with_reducible refine w_mth ?_ | with_reducible refine w_bi ?_ | with_reducible refine w_bm ?_ | with_reducible refine w_lc ?_ | with_reducible refine w_iex ?_ | with_reducible refine w_rng1 ?_ | with_reducible refine w_rng2 ?_ | with_reducible refine w_enum ?_ | with_reducible refine w_T0 ?_ | with_reducible refine w_T1 ?_ | with_reducible refine w_add ?_ | with_reducible refine w_sub ?_ | with_reducible refine w_dctK ?_ | with_reducible refine w_dget1 ?_ | with_reducible refine w_dget2 ?_ | with_reducible refine w_rev ?_ | ((with_reducible refine w_tru ?_ ?_); exact rfl)))
  refine digit h5 (by omega) (by omega) fun x5 S5 hx5 hx5' h6 f5 => ?_
  (repeat (first | ((with_reducible refine w_var ?_); refine ⟨_, rfl, ?_⟩) | with_reducible refine z_set ?_ | with_reducible refine z_setT ?_ | with_reducible refine z_par ?_ | with_reducible refine z_fld ?_ | with_reducible refine z_sub ?_ | with_reducible refine z_exp ?_ | with_reducible refine z_ret ?_ | with_reducible refine z_retN ?_ | with_reducible refine z_ite ?_ | with_reducible refine z_whl ?_ | with_reducible refine z_for ?_ | with_reducible refine z_pass ?_ | with_reducible refine z_brk ?_ | with_reducible refine z_cnt ?_ | with_reducible refine z_nil ?_ | with_reducible refine z_par3 ?_ | with_reducible refine z_sub2 ?_ | with_reducible refine z_sub3 ?_ | with_reducible refine z_raiF ?_ | with_reducible refine z_rai ?_ | with_reducible refine z_try1 ?_ | with_reducible refine w_bin ?_ | with_reducible refine w_int ?_ | with_reducible refine w_str ?_ | with_reducible refine w_blc ?_ | with_reducible refine w_non ?_ | with_reducible refine w_bty ?_ | with_reducible refine w_neg ?_ | with_reducible refine w_cmp ?_ | with_reducible refine w_chn ?_ | with_reducible refine w_and ?_ | with_reducible refine w_or ?_ | with_reducible refine w_not ?_ | with_reducible refine w_ite ?_ | with_reducible refine w_fld ?_ | with_reducible refine w_ix ?_ | with_reducible refine w_sl ?_ | with_reducible refine w_no ?_ | with_reducible refine w_so ?_ | with_reducible refine w_nil ?_ | with_reducible refine w_cons ?_ | with_reducible refine w_tup ?_ | with_reducible refine w_lst ?_ | with_reducible refine w_cal ?_ | with_reducible refine w_mk ?_ | with_reducible refine w_mth ?_ | with_reducible refine w_bi ?_ | with_reducible refine w_bm ?_ | with_reducible refine w_lc ?_ | with_reducible refine w_iex ?_ | with_reducible refine w_rng1 ?_ | with_reducible refine w_rng2 ?_ | with_reducible refine w_enum ?_ | with_reducible refine w_T0 ?_ | with_reducible refine w_T1 ?_ | with_reducible refine w_add ?_ | with_reducible refine w_sub ?_ | with_reducible refine w_dctK ?_ | with_reducible refine w_dget1 ?_ | with_reducible refine w_dget2 ?_ | with_reducible refine w_rev ?_ | ((with_reducible refine w_tru ?_ ?_); exact rfl)))
  refine w_div (by omega) ?_
  (repeat (first | ((with_reducible refine w_var ?_); refine ⟨_, rfl, ?_⟩) | with_reducible refine z_set ?_ | with_reducible refine z_setT ?_ | with_reducible refine z_par ?_ | with_reducible refine z_fld ?_ | with_reducible refine z_sub ?_ | with_reducible refine z_exp ?_ | with_reducible refine z_ret ?_ | with_reducible refine z_retN ?_ | with_reducible refine z_ite ?_ | with_reducible refine z_whl ?_ | with_reducible refine z_for ?_ | with_reducible refine z_pass ?_ | with_reducible refine z_brk ?_ | with_reducible refine z_cnt ?_ | with_reducible refine z_nil ?_ | with_reducible refine z_par3 ?_ | with_reducible refine z_sub2 ?_ | with_reducible refine z_sub3 ?_ | with_reducible refine z_raiF ?_ | with_reducible refine z_rai ?_ | with_reducible refine z_try1 ?_ | with_reducible refine w_bin ?_ | with_reducible refine w_int ?_ | with_reducible refine w_str ?_ | with_reducible refine w_blc ?_ | with_reducible refine w_non ?_ | with_reducible refine w_bty ?_ | with_reducible refine w_neg ?_ | with_reducible refine w_cmp ?_ | with_reducible refine w_chn ?_ | with_reducible refine w_and ?_ | with_reducible refine w_or ?_ | with_reducible refine w_not ?_ | with_reducible refine w_ite ?_ | with_reducible refine w_fld ?_ | with_reducible refine w_ix ?_ | with_reducible refine w_sl ?_ | with_reducible refine w_no ?_ | with_reducible refine w_so ?_ | with_reducible refine w_nil ?_ | with_reducible refine w_cons ?_ | with_reducible refine w_tup ?_ | with_reducible refine w_lst ?_ | with_reducible refine w_cal ?_ | with_reducible refine w_mk ?_ | with_reducible refine w_mth ?_ | with_reducible refine w_bi ?_ | with_reducible refine w_bm ?_ | with_reducible refine w_lc ?_ | with_reducible refine w_iex ?_ | with_reducible refine w_rng1 ?_ | with_reducible refine w_rng2 ?_ | with_reducible refine w_enum ?_ | with_reducible refine w_T0 ?_ | with_reducible refine w_T1 ?_ | with_reducible refine w_add ?_ | with_reducible refine w_sub ?_ | with_reducible refine w_dctK ?_ | with_reducible refine w_dget1 ?_ | with_reducible refine w_dget2 ?_ | with_reducible refine w_rev ?_ | ((with_reducible refine w_tru ?_ ?_); exact rfl)))
  refine digit h6 (by omega) (by omega) fun x6 S6 hx6 hx6' h7 f6 => ?_
  (repeat (first | ((with_reducible refine w_var ?_); refine ⟨_, rfl, ?_⟩) | with_reducible refine z_set ?_ | with_reducible refine z_setT ?_ | with_reducible refine z_par ?_ | with_reducible refine z_fld ?_ | with_reducible refine z_sub ?_ | with_reducible refine z_exp ?_ | with_reducible refine z_ret ?_ | with_reducible refine z_retN ?_ | with_reducible refine z_ite ?_ | with_reducible refine z_whl ?_ | with_reducible refine z_for ?_ | with_reducible refine z_pass ?_ | with_reducible refine z_brk ?_ | with_reducible refine z_cnt ?_ | with_reducible refine z_nil ?_ | with_reducible refine z_par3 ?_ | with_reducible refine z_sub2 ?_ | with_reducible refine z_sub3 ?_ | with_reducible refine z_raiF ?_ | with_reducible refine z_rai ?_ | with_reducible refine z_try1 ?_ | with_reducible refine w_bin ?_ | with_reducible refine w_int ?_ | with_reducible refine w_str ?_ | with_reducible refine w_blc ?_ | with_reducible refine w_non ?_ | with_reducible refine w_bty ?_ | with_reducible refine w_neg ?_ | with_reducible refine w_cmp ?_ | with_reducible refine w_chn ?_ | with_reducible refine w_and ?_ | with_reducible refine w_or ?_ | with_reducible refine w_not ?_ | with_reducible refine w_ite ?_ | with_reducible refine w_fld ?_ | with_reducible refine w_ix ?_ | with_reducible refine w_sl ?_ | with_reducible refine w_no ?_ | with_reducible refine w_so ?_ | with_reducible refine w_nil ?_ | with_reducible refine w_cons ?_ | with_reducible refine w_tup ?_ | with_reducible refine w_lst ?_ | with_reducible refine w_cal ?_ | with_reducible refine w_mk ?_ | with_reducible refine w_mth ?_ | with_reducible refine w_bi ?_ | with_reducible refine w_bm ?_ | with_reducible refine w_lc ?_ | with_reducible refine w_iex ?_ | with_reducible refine w_rng1 ?_ | with_reducible refine w_rng2 ?_ | with_reducible refine w_enum ?_ | with_reducible refine w_T0 ?_ | with_reducible refine w_T1 ?_ | with_reducible refine w_add ?_ | with_reducible refine w_sub ?_ | with_reducible refine w_dctK ?_ | with_reducible refine w_dget1 ?_ | with_reducible refine w_dget2 ?_ | with_reducible refine w_rev ?_ | ((with_reducible refine w_tru ?_ ?_); exact rfl)))
  refine digit h7 (by omega) (by omega) fun x7 S7 hx7 hx7' h8 f7 => ?_
  (repeat (first | ((with_reducible refine w_var ?_); refine ⟨_, rfl, ?_⟩) | with_reducible refine z_set ?_ | with_reducible refine z_setT ?_ | with_reducible refine z_par ?_ | with_reducible refine z_fld ?_ | with_reducible refine z_sub ?_ | with_reducible refine z_exp ?_ | with_reducible refine z_ret ?_ | with_reducible refine z_retN ?_ | with_reducible refine z_ite ?_ | with_reducible refine z_whl ?_ | with_reducible refine z_for ?_ | with_reducible refine z_pass ?_ | with_reducible refine z_brk ?_ | with_reducible refine z_cnt ?_ | with_reducible refine z_nil ?_ | with_reducible refine z_par3 ?_ | with_reducible refine z_sub2 ?_ | with_reducible refine z_sub3 ?_ | with_reducible refine z_raiF ?_ | with_reducible refine z_rai ?_ | with_reducible refine z_try1 ?_ | with_reducible refine w_bin ?_ | with_reducible refine w_int ?_ | with_reducible refine w_str ?_ | with_reducible refine w_blc ?_ | with_reducible refine w_non ?_ | with_reducible refine w_bty ?_ | with_reducible refine w_neg ?_ | with_reducible refine w_cmp ?_ | with_reducible refine w_chn ?_ | with_reducible refine w_and ?_ | with_reducible refine w_or ?_ | with_reducible refine w_not ?_ | with_reducible refine w_ite ?_ | with_reducible refine w_fld ?_ | with_reducible refine w_ix ?_ | with_reducible refine w_sl ?_ | with_reducible refine w_no ?_ | with_reducible refine w_so ?_ | with_reducible refine w_nil ?_ | with_reducible refine w_cons ?_ | with_reducible refine w_tup ?_ | with_reducible refine w_lst ?_ | with_reducible refine w_cal ?_ | with_reducible refine w_mk ?_ | with_reducible refine w_mth ?_ | with_reducible refine w_bi ?_ | with_reducible refine w_bm ?_ | with_reducible refine w_lc ?_ | with_reducible refine w_iex ?_ | with_reducible refine w_rng1 ?_ | with_reducible refine w_rng2 ?_ | with_reducible refine w_enum ?_ | with_reducible refine w_T0 ?_ | with_reducible refine w_T1 ?_ | with_reducible refine w_add ?_ | with_reducible refine w_sub ?_ | with_reducible refine w_dctK ?_ | with_reducible refine w_dget1 ?_ | with_reducible refine w_dget2 ?_ | with_reducible refine w_rev ?_ | ((with_reducible refine w_tru ?_ ?_); exact rfl)))
  refine ⟨sz (by simp), ?_⟩
  (repeat (first | ((with_reducible refine w_var ?_); refine ⟨_, rfl, ?_⟩) | with_reducible refine z_set ?_ | with_reducible refine z_setT ?_ | with_reducible refine z_par ?_ | with_reducible refine z_fld ?_ | with_reducible refine z_sub ?_ | with_reducible refine z_exp ?_ | with_reducible refine z_ret ?_ | with_reducible refine z_retN ?_ | with_reducible refine z_ite ?_ | with_reducible refine z_whl ?_ | with_reducible refine z_for ?_ | with_reducible refine z_pass ?_ | with_reducible refine z_brk ?_ | with_reducible refine z_cnt ?_ | with_reducible refine z_nil ?_ | with_reducible refine z_par3 ?_ | with_reducible refine z_sub2 ?_ | with_reducible refine z_sub3 ?_ | with_reducible refine z_raiF ?_ | with_reducible refine z_rai ?_ | with_reducible refine z_try1 ?_ | with_reducible refine w_bin ?_ | with_reducible refine w_int ?_ | with_reducible refine w_str ?_ | with_reducible refine w_blc ?_ | with_reducible refine w_non ?_ | with_reducible refine w_bty ?_ | with_reducible refine w_neg ?_ | with_reducible refine w_cmp ?_ | with_reducible refine w_chn ?_ | with_reducible refine w_and ?_ | with_reducible refine w_or ?_ | with_reducible refine w_not ?_ | with_reducible refine w_ite ?_ | with_reducible refine w_fld ?_ | with_reducible refine w_ix ?_ | with_reducible refine w_sl ?_ | with_reducible refine w_no ?_ | with_reducible refine w_so ?_ | with_reducible refine w_nil ?_ | with_reducible refine w_cons ?_ | with_reducible refine w_tup ?_ | with_reducible refine w_lst ?_ | with_reducible refine w_cal ?_ | with_reducible refine w_mk ?_ | with_reducible refine w_mth ?_ | with_reducible refine w_bi ?_ | with_reducible refine w_bm ?_ | with_reducible refine w_lc ?_ | with_reducible refine w_iex ?_ | with_reducible refine w_rng1 ?_ | with_reducible refine w_rng2 ?_ | with_reducible refine w_enum ?_ | with_reducible refine w_T0 ?_ | with_reducible refine w_T1 ?_ | with_reducible refine w_add ?_ | with_reducible refine w_sub ?_ | with_reducible refine w_dctK ?_ | with_reducible refine w_dget1 ?_ | with_reducible refine w_dget2 ?_ | with_reducible refine w_rev ?_ | ((with_reducible refine w_tru ?_ ?_); exact rfl)))
  refine oneI' h8 (by simp) (by simp) (by simp) fun x8 S8 hx8 h9 f8 => ?_
  have hx8 : -10 ≤ x8 ∧ x8 ≤ 40 := by
    simp only [List.mem_cons, List.not_mem_nil, or_false, D.int.injEq] at hx8
    omega
  try simp only [List.set_cons_succ, List.set_cons_zero]
  (repeat (first | ((with_reducible refine w_var ?_); refine ⟨_, rfl, ?_⟩) | with_reducible refine z_set ?_ | with_reducible refine z_setT ?_ | with_reducible refine z_par ?_ | with_reducible refine z_fld ?_ | with_reducible refine z_sub ?_ | with_reducible refine z_exp ?_ | with_reducible refine z_ret ?_ | with_reducible refine z_retN ?_ | with_reducible refine z_ite ?_ | with_reducible refine z_whl ?_ | with_reducible refine z_for ?_ | with_reducible refine z_pass ?_ | with_reducible refine z_brk ?_ | with_reducible refine z_cnt ?_ | with_reducible refine z_nil ?_ | with_reducible refine z_par3 ?_ | with_reducible refine z_sub2 ?_ | with_reducible refine z_sub3 ?_ | with_reducible refine z_raiF ?_ | with_reducible refine z_rai ?_ | with_reducible refine z_try1 ?_ | with_reducible refine w_bin ?_ | with_reducible refine w_int ?_ | with_reducible refine w_str ?_ | with_reducible refine w_blc ?_ | with_reducible refine w_non ?_ | with_reducible refine w_bty ?_ | with_reducible refine w_neg ?_ | with_reducible refine w_cmp ?_ | with_reducible refine w_chn ?_ | with_reducible refine w_and ?_ | with_reducible refine w_or ?_ | with_reducible refine w_not ?_ | with_reducible refine w_ite ?_ | with_reducible refine w_fld ?_ | with_reducible refine w_ix ?_ | with_reducible refine w_sl ?_ | with_reducible refine w_no ?_ | with_reducible refine w_so ?_ | with_reducible refine w_nil ?_ | with_reducible refine w_cons ?_ | with_reducible refine w_tup ?_ | with_reducible refine w_lst ?_ | with_reducible refine w_cal ?_ | with_reducible refine w_mk ?_ | with_reducible refine w_mth ?_ | with_reducible refine w_bi ?_ | with_reducible refine w_bm ?_ | with_reducible refine w_lc ?_ | with_reducible refine w_iex ?_ | with_reducible refine w_rng1 ?_ | with_reducible refine w_rng2 ?_ | with_reducible refine w_enum ?_ | with_reducible refine w_T0 ?_ | with_reducible refine w_T1 ?_ | with_reducible refine w_add ?_ | with_reducible refine w_sub ?_ | with_reducible refine w_dctK ?_ | with_reducible refine w_dget1 ?_ | with_reducible refine w_dget2 ?_ | with_reducible refine w_rev ?_ | ((with_reducible refine w_tru ?_ ?_); exact rfl)))
  refine digit h9 (by omega) (by omega) fun y1 T1 hy1 hy1' g1 e1 => ?_
  (repeat (first | ((with_reducible refine w_var ?_); refine ⟨_, rfl, ?_⟩) | with_reducible refine z_set ?_ | with_reducible refine z_setT ?_ | with_reducible refine z_par ?_ | with_reducible refine z_fld ?_ | with_reducible refine z_sub ?_ | with_reducible refine z_exp ?_ | with_reducible refine z_ret ?_ | with_reducible refine z_retN ?_ | with_reducible refine z_ite ?_ | with_reducible refine z_whl ?_ | with_reducible refine z_for ?_ | with_reducible refine z_pass ?_ | with_reducible refine z_brk ?_ | with_reducible refine z_cnt ?_ | with_reducible refine z_nil ?_ | with_reducible refine z_par3 ?_ | with_reducible refine z_sub2 ?_ | with_reducible refine z_sub3 ?_ | with_reducible refine z_raiF ?_ | with_reducible refine z_rai ?_ | with_reducible refine z_try1 ?_ | with_reducible refine w_bin ?_ | with_reducible refine w_int ?_ | with_reducible refine w_str ?_ | with_reducible refine w_blc ?_ | with_reducible refine w_non ?_ | with_reducible refine w_bty ?_ | with_reducible refine w_neg ?_ | with_reducible refine w_cmp ?_ | with_reducible refine w_chn ?_ | with_reducible refine w_and ?_ | with_reducible refine w_or ?_ | with_reducible refine w_not ?_ | with_reducible refine w_ite ?_ | with_reducible refine w_fld ?_ | with_reducible refine w_ix ?_ | with_reducible refine w_sl ?_ | with_reducible refine w_no ?_ | with_reducible refine w_so ?_ | with_reducible refine w_nil ?_ | with_reducible refine w_cons ?_ | with_reducible refine w_tup ?_ | with_reducible refine w_lst ?_ | with_reducible refine w_cal ?_ | with_reducible refine w_mk ?_ | with_reducible refine w_mth ?_ | with_reducible refine w_bi ?_ | with_reducible refine w_bm ?_ | with_reducible refine w_lc ?_ | with_reducible refine w_iex ?_ | with_reducible refine w_rng1 ?_ | with_reducible refine w_rng2 ?_ | with_reducible refine w_enum ?_ | with_reducible refine w_T0 ?_ | with_reducible refine w_T1 ?_ | with_reducible refine w_add ?_ | with_reducible refine w_sub ?_ | with_reducible refine w_dctK ?_ | with_reducible refine w_dget1 ?_ | with_reducible refine w_dget2 ?_ | with_reducible refine w_rev ?_ | ((with_reducible refine w_tru ?_ ?_); exact rfl)))
  refine digit g1 (by omega) (by omega) fun y2 T2 hy2 hy2' g2 e2 => ?_
  (repeat (first | ((with_reducible refine w_var ?_); refine ⟨_, rfl, ?_⟩) | with_reducible refine z_set ?_ | with_reducible refine z_setT ?_ | with_reducible refine z_par ?_ | with_reducible refine z_fld ?_ | with_reducible refine z_sub ?_ | with_reducible refine z_exp ?_ | with_reducible refine z_ret ?_ | with_reducible refine z_retN ?_ | with_reducible refine z_ite ?_ | with_reducible refine z_whl ?_ | with_reducible refine z_for ?_ | with_reducible refine z_pass ?_ | with_reducible refine z_brk ?_ | with_reducible refine z_cnt ?_ | with_reducible refine z_nil ?_ | with_reducible refine z_par3 ?_ | with_reducible refine z_sub2 ?_ | with_reducible refine z_sub3 ?_ | with_reducible refine z_raiF ?_ | with_reducible refine z_rai ?_ | with_reducible refine z_try1 ?_ | with_reducible refine w_bin ?_ | with_reducible refine w_int ?_ | with_reducible refine w_str ?_ | with_reducible refine w_blc ?_ | with_reducible refine w_non ?_ | with_reducible refine w_bty ?_ | with_reducible refine w_neg ?_ | with_reducible refine w_cmp ?_ | with_reducible refine w_chn ?_ | with_reducible refine w_and ?_ | with_reducible refine w_or ?_ | with_reducible refine w_not ?_ | with_reducible refine w_ite ?_ | with_reducible refine w_fld ?_ | with_reducible refine w_ix ?_ | with_reducible refine w_sl ?_ | with_reducible refine w_no ?_ | with_reducible refine w_so ?_ | with_reducible refine w_nil ?_ | with_reducible refine w_cons ?_ | with_reducible refine w_tup ?_ | with_reducible refine w_lst ?_ | with_reducible refine w_cal ?_ | with_reducible refine w_mk ?_ | with_reducible refine w_mth ?_ | with_reducible refine w_bi ?_ | with_reducible refine w_bm ?_ | with_reducible refine w_lc ?_ | with_reducible refine w_iex ?_ | with_reducible refine w_rng1 ?_ | with_reducible refine w_rng2 ?_ | with_reducible refine w_enum ?_ | with_reducible refine w_T0 ?_ | with_reducible refine w_T1 ?_ | with_reducible refine w_add ?_ | with_reducible refine w_sub ?_ | with_reducible refine w_dctK ?_ | with_reducible refine w_dget1 ?_ | with_reducible refine w_dget2 ?_ | with_reducible refine w_rev ?_ | ((with_reducible refine w_tru ?_ ?_); exact rfl)))
  refine digit g2 (by omega) (by omega) fun y3 T3 hy3 hy3' g3 e3 => ?_
  (repeat (first | ((with_reducible refine w_var ?_); refine ⟨_, rfl, ?_⟩) | with_reducible refine z_set ?_ | with_reducible refine z_setT ?_ | with_reducible refine z_par ?_ | with_reducible refine z_fld ?_ | with_reducible refine z_sub ?_ | with_reducible refine z_exp ?_ | with_reducible refine z_ret ?_ | with_reducible refine z_retN ?_ | with_reducible refine z_ite ?_ | with_reducible refine z_whl ?_ | with_reducible refine z_for ?_ | with_reducible refine z_pass ?_ | with_reducible refine z_brk ?_ | with_reducible refine z_cnt ?_ | with_reducible refine z_nil ?_ | with_reducible refine z_par3 ?_ | with_reducible refine z_sub2 ?_ | with_reducible refine z_sub3 ?_ | with_reducible refine z_raiF ?_ | with_reducible refine z_rai ?_ | with_reducible refine z_try1 ?_ | with_reducible refine w_bin ?_ | with_reducible refine w_int ?_ | with_reducible refine w_str ?_ | with_reducible refine w_blc ?_ | with_reducible refine w_non ?_ | with_reducible refine w_bty ?_ | with_reducible refine w_neg ?_ | with_reducible refine w_cmp ?_ | with_reducible refine w_chn ?_ | with_reducible refine w_and ?_ | with_reducible refine w_or ?_ | with_reducible refine w_not ?_ | with_reducible refine w_ite ?_ | with_reducible refine w_fld ?_ | with_reducible refine w_ix ?_ | with_reducible refine w_sl ?_ | with_reducible refine w_no ?_ | with_reducible refine w_so ?_ | with_reducible refine w_nil ?_ | with_reducible refine w_cons ?_ | with_reducible refine w_tup ?_ | with_reducible refine w_lst ?_ | with_reducible refine w_cal ?_ | with_reducible refine w_mk ?_ | with_reducible refine w_mth ?_ | with_reducible refine w_bi ?_ | with_reducible refine w_bm ?_ | with_reducible refine w_lc ?_ | with_reducible refine w_iex ?_ | with_reducible refine w_rng1 ?_ | with_reducible refine w_rng2 ?_ | with_reducible refine w_enum ?_ | with_reducible refine w_T0 ?_ | with_reducible refine w_T1 ?_ | with_reducible refine w_add ?_ | with_reducible refine w_sub ?_ | with_reducible refine w_dctK ?_ | with_reducible refine w_dget1 ?_ | with_reducible refine w_dget2 ?_ | with_reducible refine w_rev ?_ | ((with_reducible refine w_tru ?_ ?_); exact rfl)))
  refine ⟨sz (by simp), ?_⟩
  (repeat (first | ((with_reducible refine w_var ?_); refine ⟨_, rfl, ?_⟩) | with_reducible refine z_set ?_ | with_reducible refine z_setT ?_ | with_reducible refine z_par ?_ | with_reducible refine z_fld ?_ | with_reducible refine z_sub ?_ | with_reducible refine z_exp ?_ | with_reducible refine z_ret ?_ | with_reducible refine z_retN ?_ | with_reducible refine z_ite ?_ | with_reducible refine z_whl ?_ | with_reducible refine z_for ?_ | with_reducible refine z_pass ?_ | with_reducible refine z_brk ?_ | with_reducible refine z_cnt ?_ | with_reducible refine z_nil ?_ | with_reducible refine z_par3 ?_ | with_reducible refine z_sub2 ?_ | with_reducible refine z_sub3 ?_ | with_reducible refine z_raiF ?_ | with_reducible refine z_rai ?_ | with_reducible refine z_try1 ?_ | with_reducible refine w_bin ?_ | with_reducible refine w_int ?_ | with_reducible refine w_str ?_ | with_reducible refine w_blc ?_ | with_reducible refine w_non ?_ | with_reducible refine w_bty ?_ | with_reducible refine w_neg ?_ | with_reducible refine w_cmp ?_ | with_reducible refine w_chn ?_ | with_reducible refine w_and ?_ | with_reducible refine w_or ?_ | with_reducible refine w_not ?_ | with_reducible refine w_ite ?_ | with_reducible refine w_fld ?_ | with_reducible refine w_ix ?_ | with_reducible refine w_sl ?_ | with_reducible refine w_no ?_ | with_reducible refine w_so ?_ | with_reducible refine w_nil ?_ | with_reducible refine w_cons ?_ | with_reducible refine w_tup ?_ | with_reducible refine w_lst ?_ | with_reducible refine w_cal ?_ | with_reducible refine w_mk ?_ | with_reducible refine w_mth ?_ | with_reducible refine w_bi ?_ | with_reducible refine w_bm ?_ | with_reducible refine w_lc ?_ | with_reducible refine w_iex ?_ | with_reducible refine w_rng1 ?_ | with_reducible refine w_rng2 ?_ | with_reducible refine w_enum ?_ | with_reducible refine w_T0 ?_ | with_reducible refine w_T1 ?_ | with_reducible refine w_add ?_ | with_reducible refine w_sub ?_ | with_reducible refine w_dctK ?_ | with_reducible refine w_dget1 ?_ | with_reducible refine w_dget2 ?_ | with_reducible refine w_rev ?_ | ((with_reducible refine w_tru ?_ ?_); exact rfl)))
  refine oneI' g3 (by simp) (by simp) (by simp) fun y4 T4 hy4 g4 e4 => ?_
  have hy4 : -10 ≤ y4 ∧ y4 ≤ 40 := by
    simp only [List.mem_cons, List.not_mem_nil, or_false, D.int.injEq] at hy4
    omega
  try simp only [List.set_cons_succ, List.set_cons_zero]
  (repeat (first | ((with_reducible refine w_var ?_); refine ⟨_, rfl, ?_⟩) | with_reducible refine z_set ?_ | with_reducible refine z_setT ?_ | with_reducible refine z_par ?_ | with_reducible refine z_fld ?_ | with_reducible refine z_sub ?_ | with_reducible refine z_exp ?_ | with_reducible refine z_ret ?_ | with_reducible refine z_retN ?_ | with_reducible refine z_ite ?_ | with_reducible refine z_whl ?_ | with_reducible refine z_for ?_ | with_reducible refine z_pass ?_ | with_reducible refine z_brk ?_ | with_reducible refine z_cnt ?_ | with_reducible refine z_nil ?_ | with_reducible refine z_par3 ?_ | with_reducible refine z_sub2 ?_ | with_reducible refine z_sub3 ?_ | with_reducible refine z_raiF ?_ | with_reducible refine z_rai ?_ | with_reducible refine z_try1 ?_ | with_reducible refine w_bin ?_ | with_reducible refine w_int ?_ | with_reducible refine w_str ?_ | with_reducible refine w_blc ?_ | with_reducible refine w_non ?_ | with_reducible refine w_bty ?_ | with_reducible refine w_neg ?_ | with_reducible refine w_cmp ?_ | with_reducible refine w_chn ?_ | with_reducible refine w_and ?_ | with_reducible refine w_or ?_ | with_reducible refine w_not ?_ | with_reducible refine w_ite ?_ | with_reducible refine w_fld ?_ | with_reducible refine w_ix ?_ | with_reducible refine w_sl ?_ | with_reducible refine w_no ?_ | with_reducible refine w_so ?_ | with_reducible refine w_nil ?_ | with_reducible refine w_cons ?_ | with_reducible refine w_tup ?_ | with_reducible refine w_lst ?_ | with_reducible refine w_cal ?_ | with_reducible refine w_mk ?_ | with_reducible refine w_mth ?_ | with_reducible refine w_bi ?_ | with_reducible refine w_bm ?_ | with_reducible refine w_lc ?_ | with_reducible refine w_iex ?_ | with_reducible refine w_rng1 ?_ | with_reducible refine w_rng2 ?_ | with_reducible refine w_enum ?_ | with_reducible refine w_T0 ?_ | with_reducible refine w_T1 ?_ | with_reducible refine w_add ?_ | with_reducible refine w_sub ?_ | with_reducible refine w_dctK ?_ | with_reducible refine w_dget1 ?_ | with_reducible refine w_dget2 ?_ | with_reducible refine w_rev ?_ | ((with_reducible refine w_tru ?_ ?_); exact rfl)))
  refine ⟨sz (by simp), ?_⟩
  (repeat (first | ((with_reducible refine w_var ?_); refine ⟨_, rfl, ?_⟩) | with_reducible refine z_set ?_ | with_reducible refine z_setT ?_ | with_reducible refine z_par ?_ | with_reducible refine z_fld ?_ | with_reducible refine z_sub ?_ | with_reducible refine z_exp ?_ | with_reducible refine z_ret ?_ | with_reducible refine z_retN ?_ | with_reducible refine z_ite ?_ | with_reducible refine z_whl ?_ | with_reducible refine z_for ?_ | with_reducible refine z_pass ?_ | with_reducible refine z_brk ?_ | with_reducible refine z_cnt ?_ | with_reducible refine z_nil ?_ | with_reducible refine z_par3 ?_ | with_reducible refine z_sub2 ?_ | with_reducible refine z_sub3 ?_ | with_reducible refine z_raiF ?_ | with_reducible refine z_rai ?_ | with_reducible refine z_try1 ?_ | with_reducible refine w_bin ?_ | with_reducible refine w_int ?_ | with_reducible refine w_str ?_ | with_reducible refine w_blc ?_ | with_reducible refine w_non ?_ | with_reducible refine w_bty ?_ | with_reducible refine w_neg ?_ | with_reducible refine w_cmp ?_ | with_reducible refine w_chn ?_ | with_reducible refine w_and ?_ | with_reducible refine w_or ?_ | with_reducible refine w_not ?_ | with_reducible refine w_ite ?_ | with_reducible refine w_fld ?_ | with_reducible refine w_ix ?_ | with_reducible refine w_sl ?_ | with_reducible refine w_no ?_ | with_reducible refine w_so ?_ | with_reducible refine w_nil ?_ | with_reducible refine w_cons ?_ | with_reducible refine w_tup ?_ | with_reducible refine w_lst ?_ | with_reducible refine w_cal ?_ | with_reducible refine w_mk ?_ | with_reducible refine w_mth ?_ | with_reducible refine w_bi ?_ | with_reducible refine w_bm ?_ | with_reducible refine w_lc ?_ | with_reducible refine w_iex ?_ | with_reducible refine w_rng1 ?_ | with_reducible refine w_rng2 ?_ | with_reducible refine w_enum ?_ | with_reducible refine w_T0 ?_ | with_reducible refine w_T1 ?_ | with_reducible refine w_add ?_ | with_reducible refine w_sub ?_ | with_reducible refine w_dctK ?_ | with_reducible refine w_dget1 ?_ | with_reducible refine w_dget2 ?_ | with_reducible refine w_rev ?_ | ((with_reducible refine w_tru ?_ ?_); exact rfl)))
  have gl := g4.lt
  refine one (g4.fr (B := []) DI.Fr.push (by simp)) get_push (by omega) (by simp) (by simp) fun x T5 hm g5 e5 => ?_
  have fr := (((((((f1.trans f2).trans f3).trans f4).trans f5).trans f6).trans f7).trans f8).trans ((e1.trans e2).trans (e3.trans (e4.trans (DI.Fr.push.trans e5))))
  (repeat (first | ((with_reducible refine w_var ?_); refine ⟨_, rfl, ?_⟩) | with_reducible refine z_set ?_ | with_reducible refine z_setT ?_ | with_reducible refine z_par ?_ | with_reducible refine z_fld ?_ | with_reducible refine z_sub ?_ | with_reducible refine z_exp ?_ | with_reducible refine z_ret ?_ | with_reducible refine z_retN ?_ | with_reducible refine z_ite ?_ | with_reducible refine z_whl ?_ | with_reducible refine z_for ?_ | with_reducible refine z_pass ?_ | with_reducible refine z_brk ?_ | with_reducible refine z_cnt ?_ | with_reducible refine z_nil ?_ | with_reducible refine z_par3 ?_ | with_reducible refine z_sub2 ?_ | with_reducible refine z_sub3 ?_ | with_reducible refine z_raiF ?_ | with_reducible refine z_rai ?_ | with_reducible refine z_try1 ?_ | with_reducible refine w_bin ?_ | with_reducible refine w_int ?_ | with_reducible refine w_str ?_ | with_reducible refine w_blc ?_ | with_reducible refine w_non ?_ | with_reducible refine w_bty ?_ | with_reducible refine w_neg ?_ | with_reducible refine w_cmp ?_ | with_reducible refine w_chn ?_ | with_reducible refine w_and ?_ | with_reducible refine w_or ?_ | with_reducible refine w_not ?_ | with_reducible refine w_ite ?_ | with_reducible refine w_fld ?_ | with_reducible refine w_ix ?_ | with_reducible refine w_sl ?_ | with_reducible refine w_no ?_ | with_reducible refine w_so ?_ | with_reducible refine w_nil ?_ | with_reducible refine w_cons ?_ | with_reducible refine w_tup ?_ | with_reducible refine w_lst ?_ | with_reducible refine w_cal ?_ | with_reducible refine w_mk ?_ | with_reducible refine w_mth ?_ | with_reducible refine w_bi ?_ | with_reducible refine w_bm ?_ | with_reducible refine w_lc ?_ | with_reducible refine w_iex ?_ | with_reducible refine w_rng1 ?_ | with_reducible refine w_rng2 ?_ | with_reducible refine w_enum ?_ | with_reducible refine w_T0 ?_ | with_reducible refine w_T1 ?_ | with_reducible refine w_add ?_ | with_reducible refine w_sub ?_ | with_reducible refine w_dctK ?_ | with_reducible refine w_dget1 ?_ | with_reducible refine w_dget2 ?_ | with_reducible refine w_rev ?_ | ((with_reducible refine w_tru ?_ ?_); exact rfl)))
  refine w_div (by omega) ?_
  (repeat (first | ((with_reducible refine w_var ?_); refine ⟨_, rfl, ?_⟩) | with_reducible refine z_set ?_ | with_reducible refine z_setT ?_ | with_reducible refine z_par ?_ | with_reducible refine z_fld ?_ | with_reducible refine z_sub ?_ | with_reducible refine z_exp ?_ | with_reducible refine z_ret ?_ | with_reducible refine z_retN ?_ | with_reducible refine z_ite ?_ | with_reducible refine z_whl ?_ | with_reducible refine z_for ?_ | with_reducible refine z_pass ?_ | with_reducible refine z_brk ?_ | with_reducible refine z_cnt ?_ | with_reducible refine z_nil ?_ | with_reducible refine z_par3 ?_ | with_reducible refine z_sub2 ?_ | with_reducible refine z_sub3 ?_ | with_reducible refine z_raiF ?_ | with_reducible refine z_rai ?_ | with_reducible refine z_try1 ?_ | with_reducible refine w_bin ?_ | with_reducible refine w_int ?_ | with_reducible refine w_str ?_ | with_reducible refine w_blc ?_ | with_reducible refine w_non ?_ | with_reducible refine w_bty ?_ | with_reducible refine w_neg ?_ | with_reducible refine w_cmp ?_ | with_reducible refine w_chn ?_ | with_reducible refine w_and ?_ | with_reducible refine w_or ?_ | with_reducible refine w_not ?_ | with_reducible refine w_ite ?_ | with_reducible refine w_fld ?_ | with_reducible refine w_ix ?_ | with_reducible refine w_sl ?_ | with_reducible refine w_no ?_ | with_reducible refine w_so ?_ | with_reducible refine w_nil ?_ | with_reducible refine w_cons ?_ | with_reducible refine w_tup ?_ | with_reducible refine w_lst ?_ | with_reducible refine w_cal ?_ | with_reducible refine w_mk ?_ | with_reducible refine w_mth ?_ | with_reducible refine w_bi ?_ | with_reducible refine w_bm ?_ | with_reducible refine w_lc ?_ | with_reducible refine w_iex ?_ | with_reducible refine w_rng1 ?_ | with_reducible refine w_rng2 ?_ | with_reducible refine w_enum ?_ | with_reducible refine w_T0 ?_ | with_reducible refine w_T1 ?_ | with_reducible refine w_add ?_ | with_reducible refine w_sub ?_ | with_reducible refine w_dctK ?_ | with_reducible refine w_dget1 ?_ | with_reducible refine w_dget2 ?_ | with_reducible refine w_rev ?_ | ((with_reducible refine w_tru ?_ ?_); exact rfl)))
  refine digit g5 (by omega) (by omega) fun y6 T6 hy6 hy6' g6 e6 => ?_
  (repeat (first | ((with_reducible refine w_var ?_); refine ⟨_, rfl, ?_⟩) | with_reducible refine z_set ?_ | with_reducible refine z_setT ?_ | with_reducible refine z_par ?_ | with_reducible refine z_fld ?_ | with_reducible refine z_sub ?_ | with_reducible refine z_exp ?_ | with_reducible refine z_ret ?_ | with_reducible refine z_retN ?_ | with_reducible refine z_ite ?_ | with_reducible refine z_whl ?_ | with_reducible refine z_for ?_ | with_reducible refine z_pass ?_ | with_reducible refine z_brk ?_ | with_reducible refine z_cnt ?_ | with_reducible refine z_nil ?_ | with_reducible refine z_par3 ?_ | with_reducible refine z_sub2 ?_ | with_reducible refine z_sub3 ?_ | with_reducible refine z_raiF ?_ | with_reducible refine z_rai ?_ | with_reducible refine z_try1 ?_ | with_reducible refine w_bin ?_ | with_reducible refine w_int ?_ | with_reducible refine w_str ?_ | with_reducible refine w_blc ?_ | with_reducible refine w_non ?_ | with_reducible refine w_bty ?_ | with_reducible refine w_neg ?_ | with_reducible refine w_cmp ?_ | with_reducible refine w_chn ?_ | with_reducible refine w_and ?_ | with_reducible refine w_or ?_ | with_reducible refine w_not ?_ | with_reducible refine w_ite ?_ | with_reducible refine w_fld ?_ | with_reducible refine w_ix ?_ | with_reducible refine w_sl ?_ | with_reducible refine w_no ?_ | with_reducible refine w_so ?_ | with_reducible refine w_nil ?_ | with_reducible refine w_cons ?_ | with_reducible refine w_tup ?_ | with_reducible refine w_lst ?_ | with_reducible refine w_cal ?_ | with_reducible refine w_mk ?_ | with_reducible refine w_mth ?_ | with_reducible refine w_bi ?_ | with_reducible refine w_bm ?_ | with_reducible refine w_lc ?_ | with_reducible refine w_iex ?_ | with_reducible refine w_rng1 ?_ | with_reducible refine w_rng2 ?_ | with_reducible refine w_enum ?_ | with_reducible refine w_T0 ?_ | with_reducible refine w_T1 ?_ | with_reducible refine w_add ?_ | with_reducible refine w_sub ?_ | with_reducible refine w_dctK ?_ | with_reducible refine w_dget1 ?_ | with_reducible refine w_dget2 ?_ | with_reducible refine w_rev ?_ | ((with_reducible refine w_tru ?_ ?_); exact rfl)))
  have hs : ∃ s, x = .str (sd s) := by
    simp only [List.mem_cons, List.not_mem_nil, or_false] at hm
    rcases hm with rfl | rfl
    · exact ⟨true, rfl⟩
    · exact ⟨false, rfl⟩
  obtain ⟨s, rfl⟩ := hs
  refine ⟨sz (by simp), ?_⟩
  refine hQ ⟨s, _, _, _, _, _⟩ T6 ?_ g6 (fr.trans e6)
  unfold sm
  dsimp only
  omega
theorem told_snoc (a : Ask) : ∀ (as : List Ask) (R : List Rw), toldP R (as ++ [a]) = toldP R as ++ [placeP (R ++ toldP R as) a]
  | [], R => by simp [toldP]
  | b :: as, R => by simp [toldP, told_snoc a as]
theorem rows_snoc (a : Ask) (as : List Ask) : rowsP (as ++ [a]) = rowsP as ++ [(a, placeP (toldP [] as) a)] := by
  unfold rowsP
  rw [told_snoc, List.zip_append (by rw [told_len])]
  rfl
theorem last_ix {S : Sto} {k : Nat} {xs : List D} {y : D} (h : S[k]? = some (.lst (xs ++ [y]))) : itemSem (.loc k) (.int (-1)) S = some y := by
  simp only [itemSem, h]
  unfold atI
  have e2 : ixN (xs ++ [y]).length (-1) = some xs.length := by
    unfold ixN
    simp
    omega
  rw [e2]
  simp
theorem bm_app {S : Sto} {a : Nat} {xs : List D} {d : D} (h : S[a]? = some (.lst xs)) (hl : xs.length ≤ 100000) : bmSem .append (.loc a) [d] S = some (.non, S.set a (.lst (xs ++ [d]))) := by
  have : xs.length < sizeLine := Nat.lt_of_le_of_lt hl (by decide)
  simp only [bmSem, h, this, if_true]
/-- what holds of the rows of the law -/
structure Rs (as : List Ask) : Prop where
  sm : ∀ a ∈ as, sm a
  bd : Bd (toldP [] as) (100 + 100 * as.length)
  bx : Bx (toldP [] as) (200 + 200 * as.length)
theorem Rs.nil : Rs [] := by
  refine ⟨?_, ?_, ?_⟩
  · intro a ha; cases ha
  · intro r hr; cases hr
  · intro r hr; cases hr
theorem Rs.snoc {as : List Ask} {a : Ask} (h : Rs as) (ha : K29.sm a) : Rs (as ++ [a]) := by
  obtain ⟨s1, s2, s3, s4, s5⟩ := id ha
  refine ⟨fun x hx => ?_, ?_, ?_⟩
  · rcases List.mem_append.mp hx with hx | hx
    · exact h.sm x hx
    · rw [List.mem_singleton.mp hx]; exact ha
  · have := h.bd.place (a := a) (Hh := 100) (by omega) (by omega) (by omega) (by omega)
    rw [told_snoc, List.nil_append]
    have e : (100 + 100 * ((as ++ [a]).length : Int)) = 100 + 100 * as.length + 100 := by simp; omega
    rw [e]; exact this
  · have := h.bx.place ha (by omega)
    rw [told_snoc, List.nil_append]
    have e : (200 + 200 * ((as ++ [a]).length : Int)) = 200 + 200 * as.length + 200 := by simp; omega
    rw [e]; exact this
theorem rows {d i : Nat} {S : Sto} (h : St S i) {Q : D → Sto → Prop} (hQ : ∀ (f : Nat) (as : List Ask) (S' : Sto), 1 ≤ as.length → as.length ≤ 8 → S.length ≤ f → S'[f]? = some (.lst ((rowsP as).map rowD)) → Rs as → St S' i → DI.Fr [i] S S' → Q (.loc f) S') : W (calls P0 fs (d + 4) 5 [.loc i] S) Q := by
  refine W_call (f := d_law_rows) rfl rfl ?_
  show WS (dSs P0 _ t_law_rows [some (.loc i), none, none, none, none] S) _
  unfold t_law_rows
  have hil := h.lt
  refine z_par (w_lst (w_nil ⟨sz (by simp), w_lst (w_nil ⟨sz (by simp), ?_⟩)⟩))
  try simp only [List.set_cons_succ, List.set_cons_zero]
  have hs1 : St (S ++ [Cell.lst []] ++ [Cell.lst []]) i := (h.fr (B := []) DI.Fr.push (by simp)).fr (B := []) DI.Fr.push (by simp)
  have k1 : (S ++ [Cell.lst []] ++ [Cell.lst []])[S.length]? = some (.lst []) := get_pushl get_push
  have r1 : (S ++ [Cell.lst []] ++ [Cell.lst []])[(S ++ [Cell.lst []]).length]? = some (.lst []) := get_push
  have f1 : DI.Fr [] S (S ++ [Cell.lst []] ++ [Cell.lst []]) := DI.Fr.push.pushr
  generalize S ++ [Cell.lst []] ++ [Cell.lst []] = S1 at hs1 k1 r1 f1
  have el : (S ++ [Cell.lst []]).length = S.length + 1 := by simp
  rw [el] at r1 ⊢
  have hkl := lt_of r1
  refine z_for (w_rng1 (w_bin (w_int (w_cal (w_cons (w_var ⟨_, rfl, w_cons (w_int (w_nil (digit hs1 (by omega) (by omega) fun x S2 hx hx2 hs2 f2 => w_add ⟨_, rfl, decide_eq_true (by omega), ?_⟩)))⟩))))))
  have k2 := f2.get k1 (by simp; omega)
  have r2 := f2.get r1 (by simp; omega)
  have f3 : DI.Fr [i] S S2 := (f1.sub (by simp)).trans f2
  refine WS_for (n := (1 + x).toNat) (fun k σ' S' => k ≤ (1 + x).toNat ∧ ∃ v3 v4 as, σ' = [some (.loc i), some (.loc S.length), some (.loc (S.length + 1)), v3, v4] ∧ as.length = k ∧ S'[S.length]? = some (.lst ((toldP [] as).map Rw.d)) ∧ S'[S.length + 1]? = some (.lst ((rowsP as).map rowD)) ∧ Rs as ∧ St S' i ∧ DI.Fr [i] S S') ⟨by omega, _, _, [], rfl, rfl, k2, r2, Rs.nil, hs2, f3⟩ ?_ ?_ ?_
  · rintro σ' S' _
    simp [wgo]
  · rintro k σ' S' hk ⟨_, v3, v4, as, rfl, hl, hk3, hr3, R3, hs3, f4⟩
    refine ⟨.int (0 + k), _, by simp only [wgo]; rw [if_pos hk], rfl, ?_⟩
    try simp only [List.set_cons_succ, List.set_cons_zero]
    unfold t_law_rows_1
    refine z_set (w_cal (w_cons (w_var ⟨_, rfl, w_cons (w_int (w_nil (askedC hs3 fun a S4 ha hs4 f5 => ?_)))⟩)))
    try simp only [List.set_cons_succ, List.set_cons_zero]
    have hk4 := f5.get hk3 (by simp; omega)
    have hr4 := f5.get hr3 (by simp; omega)
    obtain ⟨s1, s2, s3, s4, s5⟩ := id ha
    refine z_exp (w_bm (w_var ⟨_, rfl, _, _, rfl, hk4, w_cons (w_cal (w_cons (w_var ⟨_, rfl, w_cons (V_use (V_ix (z := .str (sd a.s)) (V_var rfl) V_int rfl) (w_cons ?_))⟩)))⟩))
    refine w_tup (w_cons (V_use (V_ix (z := .int a.st) (V_var rfl) V_int rfl) (w_cons (V_use (V_ix (z := .int a.en) (V_var rfl) V_int rfl) (w_nil ⟨sz (by simp), w_cons ?_⟩)))))
    refine w_tup (w_cons (V_use (V_ix (z := .int a.w) (V_var rfl) V_int rfl) (w_cons (V_use (V_ix (z := .int a.h) (V_var rfl) V_int rfl) (w_nil ⟨sz (by simp), w_cons ?_⟩)))))
    refine V_use (V_ix (z := .int a.t) (V_var rfl) V_int rfl) (w_nil (placed (R := toldP [] as) (a := a) (B := 100 + 100 * as.length) hk4 (by rw [told_len]; omega) R3.bd (by omega) (by omega) (by omega) fun S5 f6 => w_nil ?_))
    have hk5 := f6.get hk4 (by simp)
    have hr5 := f6.get hr4 (by simp)
    have hs5 := hs4.fr f6 (by simp)
    refine ⟨_, _, bm_app hk5 (by rw [List.length_map, told_len]; omega), ?_⟩
    have hk6 : (S5.set S.length (.lst ((toldP [] as).map Rw.d ++ [(placeP (toldP [] as) a).d])))[S.length]? = some (.lst ((toldP [] as).map Rw.d ++ [(placeP (toldP [] as) a).d])) := get_set (lt_of hk5)
    have hr6 : (S5.set S.length (.lst ((toldP [] as).map Rw.d ++ [(placeP (toldP [] as) a).d])))[S.length + 1]? = some (.lst ((rowsP as).map rowD)) := by rw [get_setn (by omega)]; exact hr5
    have hs6 : St (S5.set S.length (.lst ((toldP [] as).map Rw.d ++ [(placeP (toldP [] as) a).d]))) i := hs5.fr (B := [S.length]) (DI.Fr.set (.inl (by simp))) (by simp; omega)
    have f7 : DI.Fr [i] S (S5.set S.length (.lst ((toldP [] as).map Rw.d ++ [(placeP (toldP [] as) a).d]))) := ((f4.trans f5).trans (f6.sub (by simp))).setr (.inr (Nat.le_refl _))
    generalize S5.set S.length (.lst ((toldP [] as).map Rw.d ++ [(placeP (toldP [] as) a).d])) = S6 at hk6 hr6 hs6 f7
    refine z_exp (w_bm (w_var ⟨_, rfl, _, _, rfl, hr6, w_cons (w_bin (w_var ⟨.tup (askL a), rfl, w_tup (w_cons (V_use (V_ix (V_var rfl) (V_neg V_int) (last_ix hk6)) (w_nil ⟨sz (by simp), ?_⟩)))⟩))⟩))
    refine w_addT (sz (n := 7) (by decide)) (w_nil ?_)
    refine ⟨_, _, bm_app hr6 (by rw [List.length_map, rows_len]; omega), z_nil ?_⟩
    refine ⟨by omega, _, _, as ++ [a], rfl, by simp [hl], ?_, ?_, R3.snoc ha, hs6.fr (B := [S.length + 1]) (DI.Fr.set (.inl (by simp))) (by simp; omega), f7.setr (.inr (by omega))⟩
    · rw [get_setn (by omega), hk6, told_snoc]
      simp
    · rw [get_set (lt_of hr6), rows_snoc]
      simp [rowD, rowL]
  · rintro σ' S' ⟨_, v3, v4, as, rfl, hl, hk3, hr3, R3, hs3, f4⟩
    dsimp only
    unfold t_law_rows_2
    refine z_ret (w_var ⟨_, rfl, hQ _ as _ (by omega) (by omega) (by omega) hr3 R3 hs3 f4⟩)
end K29

set_option Elab.async false
set_option linter.all false
set_option maxRecDepth 100000
set_option maxHeartbeats 4000000
namespace K29
open L2 DI PySem PySem.Spec PyProof.Rows
/-! ### rows that are spoilt -/
abbrev placeL (q : Rw) : List D := [.str (sd q.s), .int q.x, .int q.y, .int q.r, .int q.b]
abbrev rowF (a : Ask) (q : Rw) : List D := [.str (sd a.s), .int a.st, .int a.en, .int a.w, .int a.h, .int a.t, .tup (placeL q)]
theorem V_hi {C : Nat → List D → Sto → Out D} {σ : Sl} {S : Sto} {o e : Ex} {x z : D} {k : Int} (ho : V P0 C o σ S x) (he : V P0 C e σ S (.int k)) (h : sliceSem x none (some k) S = some (z, S)) : V P0 C (.sl o .no (.so e)) σ S z := w_sl (V_use ho (w_no (w_so (V_use he ⟨k, rfl, _, _, h, rfl, rfl⟩))))
theorem V_lo {C : Nat → List D → Sto → Out D} {σ : Sl} {S : Sto} {o e : Ex} {x z : D} {k : Int} (ho : V P0 C o σ S x) (he : V P0 C e σ S (.int k)) (h : sliceSem x (some k) none S = some (z, S)) : V P0 C (.sl o (.so e) .no) σ S z := w_sl (V_use ho (w_so (V_use he ⟨k, rfl, w_no ⟨_, _, h, rfl, rfl⟩⟩)))
theorem V_tt {C : Nat → List D → Sto → Out D} {σ : Sl} {S : Sto} {e e' : Ex} {xs ys : List D} (h : V P0 C e σ S (.tup xs)) (h' : V P0 C e' σ S (.tup ys)) (hl : xs.length + ys.length ≤ 1000) : V P0 C (.bin .Add e e') σ S (.tup (xs ++ ys)) := w_bin (V_use h (V_use h' (w_addT (Nat.le_trans hl (by decide)) ⟨rfl, rfl⟩)))
theorem V_u {C : Nat → List D → Sto → Out D} {σ : Sl} {S : Sto} {e : Ex} {x : D} (h : V P0 C e σ S x) : V P0 C (.tup (.cons e .nil)) σ S (.tup [x]) := w_tup (w_cons (V_use h (w_nil ⟨sz (by simp), rfl, rfl⟩)))
theorem bi_tup {S : Sto} {a : Nat} {xs : List D} (h : S[a]? = some (.lst xs)) : biSem .tuple_ [.loc a] S = some (.tup xs, S) := by simp only [biSem, seqD, h, Option.map_some]
section
variable {C : Nat → List D → Sto → Out D} {σ : Sl} {S : Sto} {a : Ask} {q : Rw}
theorem R6 (h : σ[1]? = some (some (.tup (rowF a q)))) : V P0 C (.sl (.var 1) .no (.so (.cst (.int 6)))) σ S (.tup (askL a)) := V_hi (V_var h) V_int rfl
theorem P6 (h : σ[1]? = some (some (.tup (rowF a q)))) : V P0 C (.ix (.var 1) (.cst (.int 6))) σ S (.tup (placeL q)) := V_ix (V_var h) V_int rfl
end
/-- bounds of a row -/
structure B7 (a : Ask) (q : Rw) : Prop where
  st : a.st.natAbs < 10 ^ 7
  en : a.en.natAbs < 10 ^ 7
  w : a.w.natAbs < 10 ^ 7
  h : a.h.natAbs < 10 ^ 7
  t : a.t.natAbs < 10 ^ 7
  x : q.x.natAbs < 10 ^ 7
  y : q.y.natAbs < 10 ^ 7
  r : q.r.natAbs < 10 ^ 7
  b : q.b.natAbs < 10 ^ 7
theorem s25 {i : Int} (h : i.natAbs < 10 ^ 7) : szI i := Nat.lt_of_lt_of_le h (by decide)
theorem s25n {i n : Int} (h : i.natAbs < 10 ^ 7) (h1 : -1 ≤ n) (h2 : n ≤ 100000000000000000000) : szI (i + n) := by
  unfold szI
  have e1 : (10 : Nat) ^ 7 = 10000000 := by decide
  have e2 : (10 : Nat) ^ 25 = 10000000000000000000000000 := by decide
  rw [e1] at h
  rw [e2]
  omega
def szP (q : Rw) : Prop := szI q.x ∧ szI q.y ∧ szI q.r ∧ szI q.b
theorem B7.szp {a : Ask} {q : Rw} (h : B7 a q) : szP q := ⟨s25 h.x, s25 h.y, s25 h.r, s25 h.b⟩
theorem pick4 {a : Ask} {q : Rw} (h : B7 a q) {x : Int} (hx : 0 ≤ x) (hx2 : x < 4) : ∃ (k : Nat) (v : Int), 1 + x = (k : Int) ∧ k < 5 ∧ (placeL q)[k]? = some (.int v) ∧ ∀ n : Int, n ≠ 0 → -1 ≤ n → n ≤ 100000000000000000000 → ∃ q' : Rw, (placeL q).set k (.int (v + n)) = placeL q' ∧ q' ≠ q ∧ szP q' := by
  have : x = 0 ∨ x = 1 ∨ x = 2 ∨ x = 3 := by omega
  rcases this with rfl | rfl | rfl | rfl
  · refine ⟨1, q.x, rfl, by decide, rfl, fun n hn h1 h2 => ⟨⟨q.s, q.x + n, q.y, q.r, q.b⟩, rfl, fun e => hn ?_, s25n h.x h1 h2, s25 h.y, s25 h.r, s25 h.b⟩⟩
    have : q.x + n = q.x := congrArg Rw.x e
    omega
  · refine ⟨2, q.y, rfl, by decide, rfl, fun n hn h1 h2 => ⟨⟨q.s, q.x, q.y + n, q.r, q.b⟩, rfl, fun e => hn ?_, s25 h.x, s25n h.y h1 h2, s25 h.r, s25 h.b⟩⟩
    have : q.y + n = q.y := congrArg Rw.y e
    omega
  · refine ⟨3, q.r, rfl, by decide, rfl, fun n hn h1 h2 => ⟨⟨q.s, q.x, q.y, q.r + n, q.b⟩, rfl, fun e => hn ?_, s25 h.x, s25 h.y, s25n h.r h1 h2, s25 h.b⟩⟩
    have : q.r + n = q.r := congrArg Rw.r e
    omega
  · refine ⟨4, q.b, rfl, by decide, rfl, fun n hn h1 h2 => ⟨⟨q.s, q.x, q.y, q.r, q.b + n⟩, rfl, fun e => hn ?_, s25 h.x, s25 h.y, s25 h.r, s25n h.b h1 h2⟩⟩
    have : q.b + n = q.b := congrArg Rw.b e
    omega
def odd (B : List Nat) (S : Sto) (R : List Rw) (a : Ask) (o : D) : Prop := ∀ S', DI.Fr B S S' → RB S' o 4 2300 ∧ jd S' R a o
theorem odd.fr {B : List Nat} {S S' : Sto} {R : List Rw} {a : Ask} {o : D} (h : odd B S R a o) (f : DI.Fr B S S') : odd B S' R a o := fun S'' f2 => h S'' (f.trans f2)
theorem odd.sub {B B' : List Nat} {S : Sto} {R : List Rw} {a : Ask} {o : D} (h : odd B S R a o) (hs : ∀ k ∈ B', k ∈ B) : odd B' S R a o := fun S' f => h S' (f.sub fun k hk _ => hs k hk)
theorem odd_no {B : List Nat} {S : Sto} {R : List Rw} {a : Ask} {o : D} (hr : ∀ S', DI.Fr B S S' → RB S' o 4 2300) (hj : ∀ S', DI.Fr B S S' → ∀ (d : Nat) (Q : D → Sto → Prop), (∀ S'', DI.Fr [] S' S'' → Q (.bl false) S'') → W (calls P0 fs (d + 1) 7 [o] S') Q) : odd B S R a o := fun S' f => ⟨hr S' f, .inl fun S'' f2 d Q hQ => hj S'' (f.trans (f2.sub (by simp))) d Q hQ⟩
section
variable {S : Sto}
theorem rb_row {xs : List D} (h : ∀ x ∈ xs, RB S x 2 275) (hl : xs.length ≤ 8) : RB S (.tup xs) 4 2300 := (rb_tupc h).up (by omega) (by have := Nat.mul_le_mul_right 275 hl; omega)
theorem ri {i : Int} (h : i.natAbs < 10 ^ 7) : RB S (.int i) 2 275 := (rb_intK (s25 h)).up (by omega) (by omega)
theorem rnon : RB S .non 2 275 := rb_non.up (by omega) (by omega)
theorem rbl {b : Bool} : RB S (.bl b) 2 275 := rb_bl.up (by omega) (by omega)
theorem rtx {x : Str} (h : (x.cps.toList.all fun c => decide (c < 16 ^ 8)) = true) (hl : x.length ≤ 20) : RB S (.str x) 2 275 := (rb_str fun c hc => of_decide_eq_true (List.all_eq_true.mp h c hc)).up (by omega) (by omega)
theorem r5 : RB S (.str "5") 2 275 := rtx (by decide +kernel) (by decide +kernel)
theorem rbo : RB S (.str "both") 2 275 := rtx (by decide +kernel) (by decide +kernel)
theorem rpq {q : Rw} (h : szP q) : RB S (.tup (placeL q)) 2 275 := rb_place h
theorem B7.ask {a : Ask} {q : Rw} (hb : B7 a q) : ∀ x ∈ askL a, RB S x 2 275 := by
  intro x hx
  unfold askL at hx
  simp only [List.mem_cons, List.not_mem_nil, or_false] at hx
  rcases hx with rfl | rfl | rfl | rfl | rfl | rfl
  · exact rb_sd2.up (by omega) (by omega)
  · exact ri hb.st
  · exact ri hb.en
  · exact ri hb.w
  · exact ri hb.h
  · exact ri hb.t
theorem all_app {xs ys : List D} {p : D → Prop} (h : ∀ x ∈ xs, p x) (h' : ∀ x ∈ ys, p x) : ∀ x ∈ xs ++ ys, p x := fun x hx => (List.mem_append.mp hx).elim (h x) (h' x)
theorem all_1 {x : D} {p : D → Prop} (h : p x) : ∀ y ∈ [x], p y := fun y hy => by rw [List.mem_singleton.mp hy]; exact h
theorem all_c {x : D} {xs : List D} {p : D → Prop} (h : p x) (h' : ∀ y ∈ xs, p y) : ∀ y ∈ x :: xs, p y := fun y hy => (List.mem_cons.mp hy).elim (fun e => by rw [e]; exact h) (h' y)
theorem all_0 {p : D → Prop} : ∀ y ∈ ([] : List D), p y := fun y hy => by cases hy
end
section
variable {B : List Nat} {S : Sto} {R : List Rw} {a : Ask} {q : Rw}
theorem odd_row {q' : Rw} (hb : B7 a q) (hq : q' ≠ placeP R a) (hs : szP q') : odd B S R a (.tup (askL a ++ [.tup (placeL q')])) := fun S' _ => ⟨rb_row (all_app hb.ask (all_1 (rpq hs))) (by show 7 ≤ 8; omega), .inr ⟨q', rfl, hq⟩⟩
theorem odd_pn {n : Nat} {xs : List D} (hb : B7 a q) (h : S[n]? = some (.lst (placeL q))) (hn : n ∉ B) : odd B S R a (.tup (askL a ++ [.loc n])) := by
  refine odd_no (fun S' f => rb_row (all_app hb.ask (all_1 ?_)) (by show 7 ≤ 8; omega)) fun S' f d Q hQ => ?_
  · have := f.get h hn
    refine (rb_lstc (k := 1) (b := 54) this fun x hx => ?_).up (by omega) (by show 5 * 54 + 5 ≤ 275; omega)
    obtain ⟨s1, s2, s3, s4⟩ := hb.szp
    simp only [List.mem_cons, List.not_mem_nil, or_false] at hx
    rcases hx with rfl | rfl | rfl | rfl | rfl
    · exact rb_sd2
    · exact (rb_intK s1).up (by omega) (by omega)
    · exact (rb_intK s2).up (by omega) (by omega)
    · exact (rb_intK s3).up (by omega) (by omega)
    · exact (rb_intK s4).up (by omega) (by omega)
  · have := f.get h hn
    exact asked_pn (p := .loc n) (by simp only [biSem, tyName, this]; rfl) (hQ _ DI.Fr.refl)
theorem odd_p4 (hb : B7 a q) : odd B S R a (.tup (askL a ++ [.tup [.str (sd q.s), .int q.x, .int q.y, .int q.r]])) := by
  refine odd_no (fun S' f => rb_row (all_app hb.ask (all_1 ?_)) (by show 7 ≤ 8; omega)) fun S' f d Q hQ => ?_
  · obtain ⟨s1, s2, s3, s4⟩ := hb.szp
    refine (rb_tupc (k := 1) (b := 54) ?_).up (by omega) (by show 4 * 54 + 5 ≤ 275; omega)
    exact all_c rb_sd2 (all_c ((rb_intK s1).up (by omega) (by omega)) (all_c ((rb_intK s2).up (by omega) (by omega)) (all_1 ((rb_intK s3).up (by omega) (by omega)))))
  · exact asked_pl (by show ((4 : Nat) : Int) ≠ 5; decide) (hQ _ DI.Fr.refl)
theorem odd_pnon (hb : B7 a q) : odd B S R a (.tup (askL a ++ [.non])) := odd_no (fun S' f => rb_row (all_app hb.ask (all_1 rnon)) (by show 7 ≤ 8; omega)) fun S' f d Q hQ => asked_pn (p := .non) rfl (hQ _ DI.Fr.refl)
theorem odd_6 (hb : B7 a q) : odd B S R a (.tup (askL a)) := odd_no (fun S' f => rb_row hb.ask (by show 6 ≤ 8; omega)) fun S' f d Q hQ => asked_len (by show ((6 : Nat) : Int) ≠ 7; decide) (hQ _ DI.Fr.refl)
theorem B7.tl (hb : B7 a q) : ∀ x ∈ [.int a.st, .int a.en, .int a.w, .int a.h, .int a.t, .tup (placeL q)], RB S x 2 275 := all_c (ri hb.st) (all_c (ri hb.en) (all_c (ri hb.w) (all_c (ri hb.h) (all_c (ri hb.t) (all_1 (rpq hb.szp))))))
theorem odd_both (hb : B7 a q) : odd B S R a (.tup ([.str "both"] ++ [.int a.st, .int a.en, .int a.w, .int a.h, .int a.t, .tup (placeL q)])) := odd_no (fun S' f => rb_row (all_c rbo hb.tl) (by show 7 ≤ 8; omega)) fun S' f d Q hQ => asked_both rfl (hQ _ DI.Fr.refl)
theorem odd_nonr (hb : B7 a q) : odd B S R a (.tup ([.non] ++ [.int a.st, .int a.en, .int a.w, .int a.h, .int a.t, .tup (placeL q)])) := odd_no (fun S' f => rb_row (all_c rnon hb.tl) (by show 7 ≤ 8; omega)) fun S' f d Q hQ => asked_non rfl (hQ _ DI.Fr.refl)
theorem odd_lst {n : Nat} (hb : B7 a q) (h : S[n]? = some (.lst (rowF a q))) (hn : n ∉ B) : odd B S R a (.loc n) := by
  refine odd_no (fun S' f => ?_) fun S' f d Q hQ => ?_
  · have := f.get h hn
    exact (rb_lstc (k := 2) (b := 275) this (all_c (rb_sd2.up (by omega) (by omega)) hb.tl)).up (by omega) (by show 7 * 275 + 5 ≤ 2300; omega)
  · have := f.get h hn
    exact asked_nt (by simp only [biSem, tyName, this]; rfl) (hQ _ DI.Fr.refl)
theorem odd_dct {n : Nat} (h : S[n]? = some (.dk [])) (hn : n ∉ B) : odd B S R a (.loc n) := by
  refine odd_no (fun S' f => ?_) fun S' f d Q hQ => ?_
  · have := f.get h hn
    exact (rb_dict (k := 0) (b := 0) (kb := 0) this (fun kv hk => by cases hk) (fun kv hk => by cases hk)).up (by omega) (by show 0 * 0 + 0 * (10 * 0 + 4) + 4 ≤ 2300; omega)
  · have := f.get h hn
    exact asked_nt (by simp only [biSem, tyName, this]; rfl) (hQ _ DI.Fr.refl)
theorem odd_non : odd B S R a .non := odd_no (fun S' f => rnon.up (by omega) (by omega)) fun S' f d Q hQ => asked_nt rfl (hQ _ DI.Fr.refl)
theorem odd_str : odd B S R a (.str "left") := odd_no (fun S' f => (rtx (by decide +kernel) (by decide +kernel)).up (by omega) (by omega)) fun S' f d Q hQ => asked_nt rfl (hQ _ DI.Fr.refl)
theorem odd_nil : odd B S R a (.tup []) := odd_no (fun S' f => rb_row all_0 (by show 0 ≤ 8; omega)) fun S' f d Q hQ => asked_len (by decide) (hQ _ DI.Fr.refl)
theorem odd_int : odd B S R a (.int 5) := odd_no (fun S' f => (ri (by decide)).up (by omega) (by omega)) fun S' f d Q hQ => asked_nt rfl (hQ _ DI.Fr.refl)
theorem odd_8 (hb : B7 a q) : odd B S R a (.tup (rowF a q ++ [.int 0])) := odd_no (fun S' f => rb_row (all_app (all_c (rb_sd2.up (by omega) (by omega)) hb.tl) (all_1 (ri (by decide)))) (by show 8 ≤ 8; omega)) fun S' f d Q hQ => asked_len (by show ((8 : Nat) : Int) ≠ 7; decide) (hQ _ DI.Fr.refl)
theorem odd_9 {s s2 : Bool} {v1 v2 v3 v4 v5 w1 w2 w3 w4 : D} (h : ∀ e ∈ [v1, v2, v3, v4, v5, w1, w2, w3, w4], smp e = true ∧ ∀ S, RB S e 1 54) (hn : [v1, v2, v3, v4, v5, w1, w2, w3, w4].all isI = false) : odd B S R a (.tup [.str (sd s), v1, v2, v3, v4, v5, .tup [.str (sd s2), w1, w2, w3, w4]]) := by
  have up : ∀ {S' : Sto} {e : D}, RB S' e 1 54 → RB S' e 2 275 := fun h => h.up (by omega) (by omega)
  have g := h
  simp only [List.forall_mem_cons] at g
  obtain ⟨g1, g2, g3, g4, g5, g6, g7, g8, g9, _⟩ := g
  refine odd_no (fun S' f => rb_row ?_ (by show 7 ≤ 8; omega)) fun S' f d Q hQ => ?_
  · refine all_c (up rb_sd2) (all_c (up (g1.2 _)) (all_c (up (g2.2 _)) (all_c (up (g3.2 _)) (all_c (up (g4.2 _)) (all_c (up (g5.2 _)) (all_1 ?_))))))
    exact (rb_tupc (k := 1) (b := 54) (all_c rb_sd2 (all_c (g6.2 _) (all_c (g7.2 _) (all_c (g8.2 _) (all_1 (g9.2 _))))))).up (by omega) (by show 5 * 54 + 5 ≤ 275; omega)
  · refine asked9 (fun e he => (h e he).1) fun S'' f2 => ?_
    rw [hn]
    exact hQ _ f2
end
end K29

set_option Elab.async false
set_option linter.all false
set_option maxRecDepth 100000
set_option maxHeartbeats 4000000
namespace K29
open L2 DI PySem PySem.Spec PyProof.Rows
theorem s54 {i : Int} (h : i.natAbs < 10 ^ 7) : smp (.int i) = true ∧ ∀ S, RB S (.int i) 1 54 := ⟨rfl, fun S => (rb_intK (s25 h)).up (by omega) (by omega)⟩
theorem b54 {b : Bool} : smp (.bl b) = true ∧ ∀ S, RB S (.bl b) 1 54 := ⟨rfl, fun S => rb_bl.up (by omega) (by omega)⟩
theorem n54 : smp .non = true ∧ ∀ S, RB S .non 1 54 := ⟨rfl, fun S => rb_non.up (by omega) (by omega)⟩
theorem t54 : smp (.str "5") = true ∧ ∀ S, RB S (.str "5") 1 54 := ⟨rfl, fun S => (rb_str fun c hc => of_decide_eq_true (List.all_eq_true.mp (show ((("5" : Str).cps.toList.all fun c => decide (c < 16 ^ 8)) = true) from by decide +kernel) c hc)).up (by omega) (by decide +kernel)⟩
/-- a truth in the place of a number of a row -/
theorem odd_t {B : List Nat} {S : Sto} {R : List Rw} {a : Ask} {q : Rw} (hb : B7 a q) {t : Bool} {x : Int} (hx : 0 ≤ x) (hx2 : x < 5) : (cutL (rowF a q) none (some (1 + x)) ++ [D.bl t] ++ cutL (rowF a q) (some (1 + x + 1)) none).length = 7 ∧ (cutL (rowF a q) none (some (1 + x))).length ≤ 7 ∧ (cutL (rowF a q) (some (1 + x + 1)) none).length ≤ 7 ∧ odd B S R a (.tup (cutL (rowF a q) none (some (1 + x)) ++ [.bl t] ++ cutL (rowF a q) (some (1 + x + 1)) none)) := by
  have : x = 0 ∨ x = 1 ∨ x = 2 ∨ x = 3 ∨ x = 4 := by omega
  rcases this with rfl | rfl | rfl | rfl | rfl
  · exact ⟨rfl, by show 1 ≤ 7; omega, by show 5 ≤ 7; omega, odd_9 (s := a.s) (s2 := q.s) (v1 := .bl t) (v2 := .int a.en) (v3 := .int a.w) (v4 := .int a.h) (v5 := .int a.t) (w1 := .int q.x) (w2 := .int q.y) (w3 := .int q.r) (w4 := .int q.b) (all_c b54 (all_c (s54 hb.en) (all_c (s54 hb.w) (all_c (s54 hb.h) (all_c (s54 hb.t) (all_c (s54 hb.x) (all_c (s54 hb.y) (all_c (s54 hb.r) (all_1 (s54 hb.b))))))))) ) rfl⟩
  · exact ⟨rfl, by show 2 ≤ 7; omega, by show 4 ≤ 7; omega, odd_9 (s := a.s) (s2 := q.s) (v1 := .int a.st) (v2 := .bl t) (v3 := .int a.w) (v4 := .int a.h) (v5 := .int a.t) (w1 := .int q.x) (w2 := .int q.y) (w3 := .int q.r) (w4 := .int q.b) (all_c (s54 hb.st) (all_c b54 (all_c (s54 hb.w) (all_c (s54 hb.h) (all_c (s54 hb.t) (all_c (s54 hb.x) (all_c (s54 hb.y) (all_c (s54 hb.r) (all_1 (s54 hb.b))))))))) ) rfl⟩
  · exact ⟨rfl, by show 3 ≤ 7; omega, by show 3 ≤ 7; omega, odd_9 (s := a.s) (s2 := q.s) (v1 := .int a.st) (v2 := .int a.en) (v3 := .bl t) (v4 := .int a.h) (v5 := .int a.t) (w1 := .int q.x) (w2 := .int q.y) (w3 := .int q.r) (w4 := .int q.b) (all_c (s54 hb.st) (all_c (s54 hb.en) (all_c b54 (all_c (s54 hb.h) (all_c (s54 hb.t) (all_c (s54 hb.x) (all_c (s54 hb.y) (all_c (s54 hb.r) (all_1 (s54 hb.b))))))))) ) rfl⟩
  · exact ⟨rfl, by show 4 ≤ 7; omega, by show 2 ≤ 7; omega, odd_9 (s := a.s) (s2 := q.s) (v1 := .int a.st) (v2 := .int a.en) (v3 := .int a.w) (v4 := .bl t) (v5 := .int a.t) (w1 := .int q.x) (w2 := .int q.y) (w3 := .int q.r) (w4 := .int q.b) (all_c (s54 hb.st) (all_c (s54 hb.en) (all_c (s54 hb.w) (all_c b54 (all_c (s54 hb.t) (all_c (s54 hb.x) (all_c (s54 hb.y) (all_c (s54 hb.r) (all_1 (s54 hb.b))))))))) ) rfl⟩
  · exact ⟨rfl, by show 5 ≤ 7; omega, by show 1 ≤ 7; omega, odd_9 (s := a.s) (s2 := q.s) (v1 := .int a.st) (v2 := .int a.en) (v3 := .int a.w) (v4 := .int a.h) (v5 := .bl t) (w1 := .int q.x) (w2 := .int q.y) (w3 := .int q.r) (w4 := .int q.b) (all_c (s54 hb.st) (all_c (s54 hb.en) (all_c (s54 hb.w) (all_c (s54 hb.h) (all_c b54 (all_c (s54 hb.x) (all_c (s54 hb.y) (all_c (s54 hb.r) (all_1 (s54 hb.b))))))))) ) rfl⟩
/-- and in the place of a number of its place -/
theorem odd_tp {B : List Nat} {S : Sto} {R : List Rw} {a : Ask} {q : Rw} (hb : B7 a q) {t : Bool} {x : Int} (hx : 0 ≤ x) (hx2 : x < 4) : (cutL (placeL q) none (some (1 + x)) ++ [D.bl t] ++ cutL (placeL q) (some (1 + x + 1)) none).length = 5 ∧ (cutL (placeL q) none (some (1 + x))).length ≤ 7 ∧ (cutL (placeL q) (some (1 + x + 1)) none).length ≤ 7 ∧ odd B S R a (.tup (askL a ++ [.tup (cutL (placeL q) none (some (1 + x)) ++ [.bl t] ++ cutL (placeL q) (some (1 + x + 1)) none)])) := by
  have : x = 0 ∨ x = 1 ∨ x = 2 ∨ x = 3 := by omega
  rcases this with rfl | rfl | rfl | rfl
  · exact ⟨rfl, by show 1 ≤ 7; omega, by show 3 ≤ 7; omega, odd_9 (s := a.s) (s2 := q.s) (v1 := .int a.st) (v2 := .int a.en) (v3 := .int a.w) (v4 := .int a.h) (v5 := .int a.t) (w1 := .bl t) (w2 := .int q.y) (w3 := .int q.r) (w4 := .int q.b) (all_c (s54 hb.st) (all_c (s54 hb.en) (all_c (s54 hb.w) (all_c (s54 hb.h) (all_c (s54 hb.t) (all_c b54 (all_c (s54 hb.y) (all_c (s54 hb.r) (all_1 (s54 hb.b))))))))) ) rfl⟩
  · exact ⟨rfl, by show 2 ≤ 7; omega, by show 2 ≤ 7; omega, odd_9 (s := a.s) (s2 := q.s) (v1 := .int a.st) (v2 := .int a.en) (v3 := .int a.w) (v4 := .int a.h) (v5 := .int a.t) (w1 := .int q.x) (w2 := .bl t) (w3 := .int q.r) (w4 := .int q.b) (all_c (s54 hb.st) (all_c (s54 hb.en) (all_c (s54 hb.w) (all_c (s54 hb.h) (all_c (s54 hb.t) (all_c (s54 hb.x) (all_c b54 (all_c (s54 hb.r) (all_1 (s54 hb.b))))))))) ) rfl⟩
  · exact ⟨rfl, by show 3 ≤ 7; omega, by show 1 ≤ 7; omega, odd_9 (s := a.s) (s2 := q.s) (v1 := .int a.st) (v2 := .int a.en) (v3 := .int a.w) (v4 := .int a.h) (v5 := .int a.t) (w1 := .int q.x) (w2 := .int q.y) (w3 := .bl t) (w4 := .int q.b) (all_c (s54 hb.st) (all_c (s54 hb.en) (all_c (s54 hb.w) (all_c (s54 hb.h) (all_c (s54 hb.t) (all_c (s54 hb.x) (all_c (s54 hb.y) (all_c b54 (all_1 (s54 hb.b))))))))) ) rfl⟩
  · exact ⟨rfl, by show 4 ≤ 7; omega, by show 0 ≤ 7; omega, odd_9 (s := a.s) (s2 := q.s) (v1 := .int a.st) (v2 := .int a.en) (v3 := .int a.w) (v4 := .int a.h) (v5 := .int a.t) (w1 := .int q.x) (w2 := .int q.y) (w3 := .int q.r) (w4 := .bl t) (all_c (s54 hb.st) (all_c (s54 hb.en) (all_c (s54 hb.w) (all_c (s54 hb.h) (all_c (s54 hb.t) (all_c (s54 hb.x) (all_c (s54 hb.y) (all_c (s54 hb.r) (all_1 b54)))))))) ) rfl⟩
theorem mem_cut {xs : List D} {lo hi : Option Int} {x : D} (h : x ∈ cutL xs lo hi) : x ∈ xs := List.mem_of_mem_drop (List.mem_of_mem_take h)
theorem cut_le {xs : List D} {lo hi : Option Int} : (cutL xs lo hi).length ≤ xs.length := by
  unfold cutL
  rw [List.length_take, List.length_drop]
  omega
theorem eq_left {s : Bool} {S : Sto} : cmpSem .Eq (.str (sd s)) (.str "left") S = some s := by
  have := cq_sd (S := S) s true
  rw [show sd true = "left" from rfl] at this
  rw [this]
  cases s <;> rfl
theorem not_q {q : Rw} : (⟨!q.s, q.x, q.y, q.r, q.b⟩ : Rw) ≠ q := fun e => by
  have : (!q.s) = q.s := congrArg Rw.s e
  cases h : q.s <;> rw [h] at this <;> cases this
theorem V_turn {C : Nat → List D → Sto → Out D} {σ : Sl} {S : Sto} {a : Ask} {q : Rw} (h : σ[1]? = some (some (.tup (rowF a q)))) : V P0 C (.ite (.cmp .Eq (.ix (.ix (.var 1) (.cst (.int 6))) (.cst (.int 0))) (.cst (.str ("left" : Str)))) (.cst (.str ("right" : Str))) (.cst (.str ("left" : Str)))) σ S (.str (sd (!q.s))) := by
  refine w_iteT (T_cmp (V_ix (z := .str (sd q.s)) (P6 h) V_int rfl) V_str eq_left) (fun e => ?_) (fun e => ?_)
  · rw [e]; exact V_str
  · rw [e]; exact V_str
/-- the spoilt row -/
theorem spoilt {d i : Nat} {S : Sto} {R : List Rw} {a : Ask} {q : Rw} (h : St S i) (hq : q = placeP R a) (hb : B7 a q) {Q : D → Sto → Prop} (hQ : ∀ (o : D) (S' : Sto), odd [i] S' R a o → St S' i → DI.Fr [i] S S' → Q o S') : W (calls P0 fs (d + 3) 14 [.loc i, rowD (a, q)] S) Q := by
  refine W_call (f := d_law_spoilt) rfl rfl ?_
  show WS (dSs P0 _ t_law_spoilt [some (.loc i), some (.tup (rowF a q)), none, none, none, none, none] S) _
  unfold t_law_spoilt
  have hil := h.lt
  have hlq : ∀ q' : Rw, q' ≠ q → q' ≠ placeP R a := fun q' e => hq ▸ e
  refine z_par (w_bi (w_cons (V_use (P6 rfl) (w_nil ⟨.loc S.length, S ++ [.lst (placeL q)], rfl, ?_⟩))))
  refine w_bin (w_int (w_cal (w_cons (w_var ⟨_, rfl, w_cons (w_int (w_nil (digit (h.fr (B := []) DI.Fr.push (by simp)) (by omega) (by omega) fun x S1 hx hx2 h1 f1 => w_add ?_)))⟩))))
  have p1 : S1[S.length]? = some (.lst (placeL q)) := f1.get get_push (by simp; omega)
  have g1 : DI.Fr [i] S S1 := DI.Fr.push.trans f1
  clear f1
  try simp only [List.set_cons_succ, List.set_cons_zero]
  obtain ⟨k, v, e1, e2, e3, e4⟩ := pick4 hb hx hx2
  have hl1 := lt_of p1
  refine z_sub (w_bin (V_use (V_ix (z := .int v) (V_var rfl) (V_var rfl) (by simp only [itemSem, p1]; rw [e1]; exact DI.atI_nat e3)) ?_))
  refine w_cal (w_cons (w_var ⟨_, rfl, w_cons ?_⟩))
  refine w_lst (w_cons (w_int (w_cons (V_use (V_neg V_int) (w_cons (w_bin (w_int (w_int (w_pow (by decide) ?_)))))))))
  refine w_nil ⟨sz (by simp), w_nil ?_⟩
  have hil1 := h1.lt
  refine one (h1.fr (B := []) DI.Fr.push (by simp)) get_push (by omega) (by simp) (by simp) fun y S2 hy h2 f2 => ?_
  obtain ⟨n, rfl, hn, hn1, hn2⟩ : ∃ n : Int, y = .int n ∧ n ≠ 0 ∧ -1 ≤ n ∧ n ≤ 100000000000000000000 := by
    simp only [List.mem_cons, List.not_mem_nil, or_false] at hy
    rcases hy with rfl | rfl | rfl
    · exact ⟨_, rfl, by decide, by decide, by decide⟩
    · exact ⟨_, rfl, by decide, by decide, by decide⟩
    · exact ⟨_, rfl, by decide, by decide, by decide⟩
  obtain ⟨q', eq', hq', hs'⟩ := e4 n hn hn1 hn2
  have g2 := g1.trans (DI.Fr.push.trans f2)
  have p2 : S2[S.length]? = some (.lst (placeL q)) := f2.get (get_pushl p1) (by simp; omega)
  refine w_add (V_use (V_var rfl) (V_use (V_var rfl) ⟨S2.set S.length (.lst (placeL q')), ?_, ?_⟩))
  · simp only [setSem, p2]
    rw [e1, DI.ixN_nat (show k < (placeL q).length from e2)]
    simp only [Option.map_some]
    rw [eq']
  have p3 : (S2.set S.length (.lst (placeL q')))[S.length]? = some (.lst (placeL q')) := get_set (lt_of p2)
  have h3 : St (S2.set S.length (.lst (placeL q'))) i := h2.fr (B := [S.length]) (DI.Fr.set (.inl (by simp))) (by simp; omega)
  have g3 : DI.Fr [i] S (S2.set S.length (.lst (placeL q'))) := g2.setr (.inr (Nat.le_refl _))
  generalize S2.set S.length (.lst (placeL q')) = S3 at p3 h3 g3
  have hil3 := h3.lt
  refine z_set (w_lst (w_cons (V_use (V_tt (R6 rfl) (V_u (V_bi1 (V_var rfl) (bi_tup p3))) (by show 7 ≤ 1000; omega)) (w_cons (w_bin (V_use (R6 rfl) ?_))))))
  refine w_tup (w_cons (w_bi (w_cons (V_use (P6 rfl) (w_nil ⟨.loc S3.length, S3 ++ [.lst (placeL q)], rfl, w_nil ⟨sz (by simp), w_addT (sz (n := 7) (by decide)) (w_cons ?_)⟩⟩)))))
  refine V_use (V_tt (R6 rfl) (V_u (V_hi (P6 rfl) V_int rfl)) (by show 7 ≤ 1000; omega)) (w_cons (V_use (V_tt (R6 rfl) (V_u V_non) (by show 7 ≤ 1000; omega)) (w_cons (V_use (R6 rfl) (w_nil ⟨sz (by simp), ?_⟩)))))
  have L4 : (S3 ++ [Cell.lst (placeL q)] ++ [Cell.lst [.tup (askL a ++ [.tup (placeL q')]), .tup (askL a ++ [.loc S3.length]), .tup (askL a ++ [.tup (cutL (placeL q) none (some 4))]), .tup (askL a ++ [.non]), .tup (askL a)]])[(S3 ++ [Cell.lst (placeL q)]).length]? = some (.lst [.tup (askL a ++ [.tup (placeL q')]), .tup (askL a ++ [.loc S3.length]), .tup (askL a ++ [.tup (cutL (placeL q) none (some 4))]), .tup (askL a ++ [.non]), .tup (askL a)]) := get_push
  have H4 : ∀ n, (S3 ++ [Cell.lst (placeL q)]).length ≤ n → ∀ o ∈ [D.tup (askL a ++ [.tup (placeL q')]), .tup (askL a ++ [.loc S3.length]), .tup (askL a ++ [.tup (cutL (placeL q) none (some 4))]), .tup (askL a ++ [.non]), .tup (askL a)], odd [i, n] (S3 ++ [Cell.lst (placeL q)] ++ [Cell.lst [.tup (askL a ++ [.tup (placeL q')]), .tup (askL a ++ [.loc S3.length]), .tup (askL a ++ [.tup (cutL (placeL q) none (some 4))]), .tup (askL a ++ [.non]), .tup (askL a)]]) R a o :=
    fun n hn => all_c (odd_row hb (hlq _ hq') hs') (all_c (odd_pn (xs := []) hb (get_pushl get_push) (by simp at hn ⊢; omega)) (all_c (odd_p4 hb) (all_c (odd_pnon hb) (all_1 (odd_6 hb)))))
  have h4 : St (S3 ++ [Cell.lst (placeL q)] ++ [Cell.lst [.tup (askL a ++ [.tup (placeL q')]), .tup (askL a ++ [.loc S3.length]), .tup (askL a ++ [.tup (cutL (placeL q) none (some 4))]), .tup (askL a ++ [.non]), .tup (askL a)]]) i := (h3.fr (B := []) DI.Fr.push (by simp)).fr (B := []) DI.Fr.push (by simp)
  have g4 := (g3.pushr (c := Cell.lst (placeL q))).pushr (c := Cell.lst [.tup (askL a ++ [.tup (placeL q')]), .tup (askL a ++ [.loc S3.length]), .tup (askL a ++ [.tup (cutL (placeL q) none (some 4))]), .tup (askL a ++ [.non]), .tup (askL a)])
  have ln4 : [D.tup (askL a ++ [.tup (placeL q')]), .tup (askL a ++ [.loc S3.length]), .tup (askL a ++ [.tup (cutL (placeL q) none (some 4))]), .tup (askL a ++ [.non]), .tup (askL a)].length = 5 := rfl
  try simp only [List.set_cons_succ, List.set_cons_zero]
  have hn4 : (S3 ++ [Cell.lst (placeL q)]).length ≠ i := by simp; omega
  generalize [D.tup (askL a ++ [.tup (placeL q')]), .tup (askL a ++ [.loc S3.length]), .tup (askL a ++ [.tup (cutL (placeL q) none (some 4))]), .tup (askL a ++ [.non]), .tup (askL a)] = X at L4 H4 h4 g4 ln4
  have hn4l := lt_of L4
  generalize (S3 ++ [Cell.lst (placeL q)]).length = n4 at L4 hn4 H4 hn4l
  generalize S3 ++ [Cell.lst (placeL q)] ++ [Cell.lst X] = S4 at L4 H4 h4 g4 hn4l
  clear p3 h3 g3 hil3
  have hil4 := h4.lt
  refine z_set (w_bin (w_var ⟨_, rfl, w_lst ?_⟩))
  refine w_cons (V_use (V_tt (V_u V_str) (V_lo (V_var rfl) V_int rfl) (by show 7 ≤ 1000; omega)) (w_cons (V_use (V_tt (V_u V_non) (V_lo (V_var rfl) V_int rfl) (by show 7 ≤ 1000; omega)) (w_cons ?_))))
  refine w_bi (w_cons (w_var ⟨_, rfl, w_nil ⟨.loc S4.length, S4 ++ [.lst (rowF a q)], rfl, w_cons (w_non (w_cons (w_dct0 (w_cons (w_str (w_cons ?_))))))⟩⟩))
  refine w_tup (w_nil ⟨sz (by simp), w_cons (V_use (V_tt (V_var rfl) (V_u V_int) (by show 8 ≤ 1000; omega)) (w_cons (w_int (w_nil ⟨sz (by simp), ?_⟩))))⟩)
  refine w_addL (xs := X) (ys := [D.tup ([.str "both"] ++ cutL (rowF a q) (some 1) none), .tup ([.non] ++ cutL (rowF a q) (some 1) none), .loc S4.length, .non, .loc (S4 ++ [Cell.lst (rowF a q)]).length, .str "left", .tup [], .tup (rowF a q ++ [.int 0]), .int 5]) (get_pushl (get_pushl (get_pushl L4))) get_push (sz (by rw [ln4]; show 14 ≤ 1000000; omega)) ?_
  have L5 := get_push (S := S4 ++ [Cell.lst (rowF a q)] ++ [Cell.dk []] ++ [Cell.lst [D.tup ([.str "both"] ++ cutL (rowF a q) (some 1) none), .tup ([.non] ++ cutL (rowF a q) (some 1) none), .loc S4.length, .non, .loc (S4 ++ [Cell.lst (rowF a q)]).length, .str "left", .tup [], .tup (rowF a q ++ [.int 0]), .int 5]]) (c := Cell.lst (X ++ [D.tup ([.str "both"] ++ cutL (rowF a q) (some 1) none), .tup ([.non] ++ cutL (rowF a q) (some 1) none), .loc S4.length, .non, .loc (S4 ++ [Cell.lst (rowF a q)]).length, .str "left", .tup [], .tup (rowF a q ++ [.int 0]), .int 5]))
  have f5 : DI.Fr [i] S4 (S4 ++ [Cell.lst (rowF a q)] ++ [Cell.dk []] ++ [Cell.lst [D.tup ([.str "both"] ++ cutL (rowF a q) (some 1) none), .tup ([.non] ++ cutL (rowF a q) (some 1) none), .loc S4.length, .non, .loc (S4 ++ [Cell.lst (rowF a q)]).length, .str "left", .tup [], .tup (rowF a q ++ [.int 0]), .int 5]] ++ [Cell.lst (X ++ [D.tup ([.str "both"] ++ cutL (rowF a q) (some 1) none), .tup ([.non] ++ cutL (rowF a q) (some 1) none), .loc S4.length, .non, .loc (S4 ++ [Cell.lst (rowF a q)]).length, .str "left", .tup [], .tup (rowF a q ++ [.int 0]), .int 5])]) := DI.Fr.push.pushr.pushr.pushr
  have H5 : ∀ n, (S4 ++ [Cell.lst (rowF a q)] ++ [Cell.dk []]).length ≤ n → ∀ o ∈ X ++ [D.tup ([.str "both"] ++ cutL (rowF a q) (some 1) none), .tup ([.non] ++ cutL (rowF a q) (some 1) none), .loc S4.length, .non, .loc (S4 ++ [Cell.lst (rowF a q)]).length, .str "left", .tup [], .tup (rowF a q ++ [.int 0]), .int 5], odd [i, n] (S4 ++ [Cell.lst (rowF a q)] ++ [Cell.dk []] ++ [Cell.lst [D.tup ([.str "both"] ++ cutL (rowF a q) (some 1) none), .tup ([.non] ++ cutL (rowF a q) (some 1) none), .loc S4.length, .non, .loc (S4 ++ [Cell.lst (rowF a q)]).length, .str "left", .tup [], .tup (rowF a q ++ [.int 0]), .int 5]] ++ [Cell.lst (X ++ [D.tup ([.str "both"] ++ cutL (rowF a q) (some 1) none), .tup ([.non] ++ cutL (rowF a q) (some 1) none), .loc S4.length, .non, .loc (S4 ++ [Cell.lst (rowF a q)]).length, .str "left", .tup [], .tup (rowF a q ++ [.int 0]), .int 5])]) R a o :=
    fun n hn => all_app (fun o ho => (H4 n (by simp at hn; omega) o ho).fr (f5.sub (by simp))) (all_c (odd_both hb) (all_c (odd_nonr hb) (all_c (odd_lst hb (get_pushl (get_pushl (get_pushl get_push))) (by simp at hn ⊢; omega)) (all_c odd_non (all_c (odd_dct (get_pushl (get_pushl get_push)) (by simp at hn ⊢; omega)) (all_c odd_str (all_c odd_nil (all_c (odd_8 hb) (all_1 odd_int)))))))))
  have h5 := h4.fr (B := []) ((((DI.Fr.push (c := Cell.lst (rowF a q))).pushr (c := Cell.dk [])).pushr (c := Cell.lst [D.tup ([.str "both"] ++ cutL (rowF a q) (some 1) none), .tup ([.non] ++ cutL (rowF a q) (some 1) none), .loc S4.length, .non, .loc (S4 ++ [Cell.lst (rowF a q)]).length, .str "left", .tup [], .tup (rowF a q ++ [.int 0]), .int 5])).pushr (c := Cell.lst (X ++ [D.tup ([.str "both"] ++ cutL (rowF a q) (some 1) none), .tup ([.non] ++ cutL (rowF a q) (some 1) none), .loc S4.length, .non, .loc (S4 ++ [Cell.lst (rowF a q)]).length, .str "left", .tup [], .tup (rowF a q ++ [.int 0]), .int 5]))) (by simp)
  have g5 := g4.trans f5
  have ln5 : (X ++ [D.tup ([.str "both"] ++ cutL (rowF a q) (some 1) none), .tup ([.non] ++ cutL (rowF a q) (some 1) none), .loc S4.length, .non, .loc (S4 ++ [Cell.lst (rowF a q)]).length, .str "left", .tup [], .tup (rowF a q ++ [.int 0]), .int 5]).length = 14 := by rw [List.length_append, ln4]; rfl
  have hn5 : (S4 ++ [Cell.lst (rowF a q)] ++ [Cell.dk []] ++ [Cell.lst [D.tup ([.str "both"] ++ cutL (rowF a q) (some 1) none), .tup ([.non] ++ cutL (rowF a q) (some 1) none), .loc S4.length, .non, .loc (S4 ++ [Cell.lst (rowF a q)]).length, .str "left", .tup [], .tup (rowF a q ++ [.int 0]), .int 5]]).length ≠ i := by simp; omega
  try simp only [List.set_cons_succ, List.set_cons_zero]
  generalize X ++ [D.tup ([.str "both"] ++ cutL (rowF a q) (some 1) none), .tup ([.non] ++ cutL (rowF a q) (some 1) none), .loc S4.length, .non, .loc (S4 ++ [Cell.lst (rowF a q)]).length, .str "left", .tup [], .tup (rowF a q ++ [.int 0]), .int 5] = X5 at L5 H5 h5 g5 ln5
  have hn5l := lt_of L5
  have hn5m : (S4 ++ [Cell.lst (rowF a q)] ++ [Cell.dk []]).length ≤ (S4 ++ [Cell.lst (rowF a q)] ++ [Cell.dk []] ++ [Cell.lst [D.tup ([.str "both"] ++ cutL (rowF a q) (some 1) none), .tup ([.non] ++ cutL (rowF a q) (some 1) none), .loc S4.length, .non, .loc (S4 ++ [Cell.lst (rowF a q)]).length, .str "left", .tup [], .tup (rowF a q ++ [.int 0]), .int 5]]).length := by simp
  generalize (S4 ++ [Cell.lst (rowF a q)] ++ [Cell.dk []]).length = m5 at hn5m H5
  generalize (S4 ++ [Cell.lst (rowF a q)] ++ [Cell.dk []] ++ [Cell.lst [D.tup ([.str "both"] ++ cutL (rowF a q) (some 1) none), .tup ([.non] ++ cutL (rowF a q) (some 1) none), .loc S4.length, .non, .loc (S4 ++ [Cell.lst (rowF a q)]).length, .str "left", .tup [], .tup (rowF a q ++ [.int 0]), .int 5]]).length = n5 at L5 hn5 hn5l hn5m
  generalize S4 ++ [Cell.lst (rowF a q)] ++ [Cell.dk []] ++ [Cell.lst [D.tup ([.str "both"] ++ cutL (rowF a q) (some 1) none), .tup ([.non] ++ cutL (rowF a q) (some 1) none), .loc S4.length, .non, .loc (S4 ++ [Cell.lst (rowF a q)]).length, .str "left", .tup [], .tup (rowF a q ++ [.int 0]), .int 5]] ++ [Cell.lst X5] = S5 at L5 H5 h5 g5 hn5l
  clear L4 H4 h4 g4 ln4 hil4
  have hil5 := h5.lt
  refine z_set (w_bin (w_var ⟨_, rfl, w_lst ?_⟩))
  refine w_cons (V_use (V_tt (V_tt (V_hi (V_var rfl) V_int rfl) (V_u V_bl) (by show 2 ≤ 1000; omega)) (V_lo (V_var rfl) V_int rfl) (by show 7 ≤ 1000; omega)) (w_cons ?_))
  refine V_use (V_tt (V_tt (V_hi (V_var rfl) V_int rfl) (V_u V_str) (by show 4 ≤ 1000; omega)) (V_lo (V_var rfl) V_int rfl) (by show 7 ≤ 1000; omega)) (w_cons ?_)
  refine V_use (V_tt (V_tt (V_hi (V_var rfl) V_int rfl) (V_u V_non) (by show 6 ≤ 1000; omega)) (V_lo (V_var rfl) V_int rfl) (by show 7 ≤ 1000; omega)) (w_nil ⟨sz (by simp), ?_⟩)
  refine w_addL (xs := X5) (ys := [D.tup (cutL (rowF a q) none (some 1) ++ [.bl true] ++ cutL (rowF a q) (some 2) none), .tup (cutL (rowF a q) none (some 3) ++ [.str "5"] ++ cutL (rowF a q) (some 4) none), .tup (cutL (rowF a q) none (some 5) ++ [.non] ++ cutL (rowF a q) (some 6) none)]) (get_pushl L5) get_push (sz (by rw [ln5]; show 17 ≤ 1000000; omega)) ?_
  have L6 := get_push (S := S5 ++ [Cell.lst [D.tup (cutL (rowF a q) none (some 1) ++ [.bl true] ++ cutL (rowF a q) (some 2) none), .tup (cutL (rowF a q) none (some 3) ++ [.str "5"] ++ cutL (rowF a q) (some 4) none), .tup (cutL (rowF a q) none (some 5) ++ [.non] ++ cutL (rowF a q) (some 6) none)]]) (c := Cell.lst (X5 ++ [D.tup (cutL (rowF a q) none (some 1) ++ [.bl true] ++ cutL (rowF a q) (some 2) none), .tup (cutL (rowF a q) none (some 3) ++ [.str "5"] ++ cutL (rowF a q) (some 4) none), .tup (cutL (rowF a q) none (some 5) ++ [.non] ++ cutL (rowF a q) (some 6) none)]))
  have f6 : DI.Fr [i] S5 (S5 ++ [Cell.lst [D.tup (cutL (rowF a q) none (some 1) ++ [.bl true] ++ cutL (rowF a q) (some 2) none), .tup (cutL (rowF a q) none (some 3) ++ [.str "5"] ++ cutL (rowF a q) (some 4) none), .tup (cutL (rowF a q) none (some 5) ++ [.non] ++ cutL (rowF a q) (some 6) none)]] ++ [Cell.lst (X5 ++ [D.tup (cutL (rowF a q) none (some 1) ++ [.bl true] ++ cutL (rowF a q) (some 2) none), .tup (cutL (rowF a q) none (some 3) ++ [.str "5"] ++ cutL (rowF a q) (some 4) none), .tup (cutL (rowF a q) none (some 5) ++ [.non] ++ cutL (rowF a q) (some 6) none)])]) := DI.Fr.push.pushr
  have H6 : ∀ o ∈ X5 ++ [D.tup (cutL (rowF a q) none (some 1) ++ [.bl true] ++ cutL (rowF a q) (some 2) none), .tup (cutL (rowF a q) none (some 3) ++ [.str "5"] ++ cutL (rowF a q) (some 4) none), .tup (cutL (rowF a q) none (some 5) ++ [.non] ++ cutL (rowF a q) (some 6) none)], odd [i, (S5 ++ [Cell.lst [D.tup (cutL (rowF a q) none (some 1) ++ [.bl true] ++ cutL (rowF a q) (some 2) none), .tup (cutL (rowF a q) none (some 3) ++ [.str "5"] ++ cutL (rowF a q) (some 4) none), .tup (cutL (rowF a q) none (some 5) ++ [.non] ++ cutL (rowF a q) (some 6) none)]]).length] (S5 ++ [Cell.lst [D.tup (cutL (rowF a q) none (some 1) ++ [.bl true] ++ cutL (rowF a q) (some 2) none), .tup (cutL (rowF a q) none (some 3) ++ [.str "5"] ++ cutL (rowF a q) (some 4) none), .tup (cutL (rowF a q) none (some 5) ++ [.non] ++ cutL (rowF a q) (some 6) none)]] ++ [Cell.lst (X5 ++ [D.tup (cutL (rowF a q) none (some 1) ++ [.bl true] ++ cutL (rowF a q) (some 2) none), .tup (cutL (rowF a q) none (some 3) ++ [.str "5"] ++ cutL (rowF a q) (some 4) none), .tup (cutL (rowF a q) none (some 5) ++ [.non] ++ cutL (rowF a q) (some 6) none)])]) R a o :=
    all_app (fun o ho => (H5 _ (by simp; omega) o ho).fr (f6.sub (by simp))) (all_c (odd_9 (s := a.s) (s2 := q.s) (v1 := .bl true) (v2 := .int a.en) (v3 := .int a.w) (v4 := .int a.h) (v5 := .int a.t) (w1 := .int q.x) (w2 := .int q.y) (w3 := .int q.r) (w4 := .int q.b) (all_c b54 (all_c (s54 hb.en) (all_c (s54 hb.w) (all_c (s54 hb.h) (all_c (s54 hb.t) (all_c (s54 hb.x) (all_c (s54 hb.y) (all_c (s54 hb.r) (all_1 (s54 hb.b))))))))) ) rfl)
      (all_c (odd_9 (s := a.s) (s2 := q.s) (v1 := .int a.st) (v2 := .int a.en) (v3 := .str "5") (v4 := .int a.h) (v5 := .int a.t) (w1 := .int q.x) (w2 := .int q.y) (w3 := .int q.r) (w4 := .int q.b) (all_c (s54 hb.st) (all_c (s54 hb.en) (all_c t54 (all_c (s54 hb.h) (all_c (s54 hb.t) (all_c (s54 hb.x) (all_c (s54 hb.y) (all_c (s54 hb.r) (all_1 (s54 hb.b))))))))) ) rfl)
      (all_1 (odd_9 (s := a.s) (s2 := q.s) (v1 := .int a.st) (v2 := .int a.en) (v3 := .int a.w) (v4 := .int a.h) (v5 := .non) (w1 := .int q.x) (w2 := .int q.y) (w3 := .int q.r) (w4 := .int q.b) (all_c (s54 hb.st) (all_c (s54 hb.en) (all_c (s54 hb.w) (all_c (s54 hb.h) (all_c n54 (all_c (s54 hb.x) (all_c (s54 hb.y) (all_c (s54 hb.r) (all_1 (s54 hb.b))))))))) ) rfl))))
  have h6 := h5.fr (B := []) ((DI.Fr.push (c := Cell.lst [D.tup (cutL (rowF a q) none (some 1) ++ [.bl true] ++ cutL (rowF a q) (some 2) none), .tup (cutL (rowF a q) none (some 3) ++ [.str "5"] ++ cutL (rowF a q) (some 4) none), .tup (cutL (rowF a q) none (some 5) ++ [.non] ++ cutL (rowF a q) (some 6) none)])).pushr (c := Cell.lst (X5 ++ [D.tup (cutL (rowF a q) none (some 1) ++ [.bl true] ++ cutL (rowF a q) (some 2) none), .tup (cutL (rowF a q) none (some 3) ++ [.str "5"] ++ cutL (rowF a q) (some 4) none), .tup (cutL (rowF a q) none (some 5) ++ [.non] ++ cutL (rowF a q) (some 6) none)]))) (by simp)
  have g6 := g5.trans f6
  have ln6 : (X5 ++ [D.tup (cutL (rowF a q) none (some 1) ++ [.bl true] ++ cutL (rowF a q) (some 2) none), .tup (cutL (rowF a q) none (some 3) ++ [.str "5"] ++ cutL (rowF a q) (some 4) none), .tup (cutL (rowF a q) none (some 5) ++ [.non] ++ cutL (rowF a q) (some 6) none)]).length = 17 := by rw [List.length_append, ln5]; rfl
  have hn6 : (S5 ++ [Cell.lst [D.tup (cutL (rowF a q) none (some 1) ++ [.bl true] ++ cutL (rowF a q) (some 2) none), .tup (cutL (rowF a q) none (some 3) ++ [.str "5"] ++ cutL (rowF a q) (some 4) none), .tup (cutL (rowF a q) none (some 5) ++ [.non] ++ cutL (rowF a q) (some 6) none)]]).length ≠ i := by simp; omega
  have hn6' : S.length ≤ (S5 ++ [Cell.lst [D.tup (cutL (rowF a q) none (some 1) ++ [.bl true] ++ cutL (rowF a q) (some 2) none), .tup (cutL (rowF a q) none (some 3) ++ [.str "5"] ++ cutL (rowF a q) (some 4) none), .tup (cutL (rowF a q) none (some 5) ++ [.non] ++ cutL (rowF a q) (some 6) none)]]).length := by have := g5.1; simp; omega
  try simp only [List.set_cons_succ, List.set_cons_zero]
  generalize X5 ++ [D.tup (cutL (rowF a q) none (some 1) ++ [.bl true] ++ cutL (rowF a q) (some 2) none), .tup (cutL (rowF a q) none (some 3) ++ [.str "5"] ++ cutL (rowF a q) (some 4) none), .tup (cutL (rowF a q) none (some 5) ++ [.non] ++ cutL (rowF a q) (some 6) none)] = X6 at L6 H6 h6 g6 ln6
  generalize (S5 ++ [Cell.lst [D.tup (cutL (rowF a q) none (some 1) ++ [.bl true] ++ cutL (rowF a q) (some 2) none), .tup (cutL (rowF a q) none (some 3) ++ [.str "5"] ++ cutL (rowF a q) (some 4) none), .tup (cutL (rowF a q) none (some 5) ++ [.non] ++ cutL (rowF a q) (some 6) none)]]).length = n6 at L6 H6 hn6 hn6'
  generalize S5 ++ [Cell.lst [D.tup (cutL (rowF a q) none (some 1) ++ [.bl true] ++ cutL (rowF a q) (some 2) none), .tup (cutL (rowF a q) none (some 3) ++ [.str "5"] ++ cutL (rowF a q) (some 4) none), .tup (cutL (rowF a q) none (some 5) ++ [.non] ++ cutL (rowF a q) (some 6) none)]] ++ [Cell.lst X6] = S6 at L6 H6 h6 g6
  clear L5 H5 h5 g5 ln5 hil5
  refine z_set (V_use (V_tt (V_u (V_turn rfl)) (V_lo (P6 rfl) V_int rfl) (by show 5 ≤ 1000; omega)) ?_)
  try simp only [List.set_cons_succ, List.set_cons_zero]
  refine z_par (w_bin (w_int (w_cal (w_cons (w_var ⟨_, rfl, w_cons (w_int (w_nil (digit h6 (by omega) (by omega) fun z S7 hz hz2 h7 f7 => w_add ?_)))⟩)))))
  have L7 := f7.get L6 (by simpa using hn6)
  have H7 := fun o ho => (H6 o ho).fr (f7.sub (by simp))
  have g7 := g6.trans f7
  refine w_cal (w_cons (w_var ⟨_, rfl, w_cons ?_⟩))
  refine w_lst (w_cons (w_blc (w_cons (w_blc (w_nil ⟨sz (by simp), w_nil ?_⟩)))))
  have hil7 := h7.lt
  refine one (h7.fr (B := []) DI.Fr.push (by simp)) get_push (by omega) (by simp) (by simp) fun y8 S8 hy8 h8 f8 => ?_
  obtain ⟨t, rfl⟩ : ∃ t : Bool, y8 = .bl t := by
    simp only [List.mem_cons, List.not_mem_nil, or_false] at hy8
    rcases hy8 with rfl | rfl
    · exact ⟨_, rfl⟩
    · exact ⟨_, rfl⟩
  have f8' : DI.Fr [i] S7 S8 := DI.Fr.push.trans f8
  have L8 := f8'.get L7 (by simpa using hn6)
  have H8 := fun o ho => (H7 o ho).fr (f8'.sub (by simp))
  have g8 := g7.trans f8'
  try simp only [List.set_cons_succ, List.set_cons_zero]
  obtain ⟨o1, o2, o3, o4⟩ := odd_t (B := [i, n6]) (S := S8) (R := R) hb (t := t) hz hz2
  refine z_exp (w_bm (w_var ⟨_, rfl, _, _, rfl, L8, w_cons (V_use (V_tt (V_tt (V_hi (V_var rfl) (V_var rfl) rfl) (V_u (V_var rfl)) (by simp only [List.length_singleton]; omega)) (V_lo (V_var rfl) (V_bin (V_var rfl) V_int rfl) rfl) (by rw [← List.length_append]; omega)) (w_nil ⟨_, _, bm_app L8 (by omega), ?_⟩))⟩))
  have f9 : DI.Fr [i, n6] S8 (S8.set n6 (.lst (X6 ++ [.tup (cutL (rowF a q) none (some (1 + z)) ++ [.bl t] ++ cutL (rowF a q) (some (1 + z + 1)) none)]))) := DI.Fr.set (.inl (by simp))
  have L9 : (S8.set n6 (.lst (X6 ++ [.tup (cutL (rowF a q) none (some (1 + z)) ++ [.bl t] ++ cutL (rowF a q) (some (1 + z + 1)) none)])))[n6]? = some (.lst (X6 ++ [.tup (cutL (rowF a q) none (some (1 + z)) ++ [.bl t] ++ cutL (rowF a q) (some (1 + z + 1)) none)])) := get_set (lt_of L8)
  have H9 := fun o ho => (all_app H8 (all_1 o4) o ho).fr f9
  have h9 : St (S8.set n6 (.lst (X6 ++ [.tup (cutL (rowF a q) none (some (1 + z)) ++ [.bl t] ++ cutL (rowF a q) (some (1 + z + 1)) none)]))) i := h8.fr (B := [n6]) (DI.Fr.set (.inl (by simp))) (by simpa using Ne.symm hn6)
  have g9 := g8.setr (c := Cell.lst (X6 ++ [.tup (cutL (rowF a q) none (some (1 + z)) ++ [.bl t] ++ cutL (rowF a q) (some (1 + z + 1)) none)])) (.inr hn6')
  have ln9 : (X6 ++ [D.tup (cutL (rowF a q) none (some (1 + z)) ++ [.bl t] ++ cutL (rowF a q) (some (1 + z + 1)) none)]).length = 18 := by rw [List.length_append, ln6]; rfl
  generalize X6 ++ [D.tup (cutL (rowF a q) none (some (1 + z)) ++ [.bl t] ++ cutL (rowF a q) (some (1 + z + 1)) none)] = X9 at L9 H9 h9 g9 ln9
  generalize S8.set n6 (.lst X9) = S9 at L9 H9 h9 g9
  refine z_set (w_bin (w_int (w_cal (w_cons (w_var ⟨_, rfl, w_cons (w_int (w_nil (digit h9 (by omega) (by omega) fun u S10 hu hu2 h10 f10 => w_add ?_)))⟩)))))
  have L10 := f10.get L9 (by simpa using hn6)
  have H10 := fun o ho => (H9 o ho).fr (f10.sub (by simp))
  have g10 := g9.trans f10
  try simp only [List.set_cons_succ, List.set_cons_zero]
  obtain ⟨r1, r2, r3, r4⟩ := odd_tp (B := [i, n6]) (S := S10) (R := R) hb (t := t) hu hu2
  refine z_exp (w_bm (w_var ⟨_, rfl, _, _, rfl, L10, w_cons (V_use (V_tt (R6 rfl) (V_u (V_tt (V_tt (V_hi (P6 rfl) (V_var rfl) rfl) (V_u (V_var rfl)) (by simp only [List.length_singleton]; omega)) (V_lo (P6 rfl) (V_bin (V_var rfl) V_int rfl) rfl) (by rw [← List.length_append]; omega))) (by show 7 ≤ 1000; omega)) (w_nil ⟨_, _, bm_app L10 (by omega), ?_⟩))⟩))
  have f11 : DI.Fr [i, n6] S10 (S10.set n6 (.lst (X9 ++ [.tup (askL a ++ [.tup (cutL (placeL q) none (some (1 + u)) ++ [.bl t] ++ cutL (placeL q) (some (1 + u + 1)) none)])]))) := DI.Fr.set (.inl (by simp))
  have L11 : (S10.set n6 (.lst (X9 ++ [.tup (askL a ++ [.tup (cutL (placeL q) none (some (1 + u)) ++ [.bl t] ++ cutL (placeL q) (some (1 + u + 1)) none)])])))[n6]? = some (.lst (X9 ++ [.tup (askL a ++ [.tup (cutL (placeL q) none (some (1 + u)) ++ [.bl t] ++ cutL (placeL q) (some (1 + u + 1)) none)])])) := get_set (lt_of L10)
  have H11 := fun o ho => (all_app H10 (all_1 r4) o ho).fr f11
  have h11 : St (S10.set n6 (.lst (X9 ++ [.tup (askL a ++ [.tup (cutL (placeL q) none (some (1 + u)) ++ [.bl t] ++ cutL (placeL q) (some (1 + u + 1)) none)])]))) i := h10.fr (B := [n6]) (DI.Fr.set (.inl (by simp))) (by simpa using Ne.symm hn6)
  have g11 := g10.setr (c := Cell.lst (X9 ++ [.tup (askL a ++ [.tup (cutL (placeL q) none (some (1 + u)) ++ [.bl t] ++ cutL (placeL q) (some (1 + u + 1)) none)])])) (.inr hn6')
  have ln11 : (X9 ++ [D.tup (askL a ++ [.tup (cutL (placeL q) none (some (1 + u)) ++ [.bl t] ++ cutL (placeL q) (some (1 + u + 1)) none)])]).length = 19 := by rw [List.length_append, ln9]; rfl
  generalize X9 ++ [D.tup (askL a ++ [.tup (cutL (placeL q) none (some (1 + u)) ++ [.bl t] ++ cutL (placeL q) (some (1 + u + 1)) none)])] = X at L11 H11 h11 g11 ln11
  generalize S10.set n6 (.lst X) = T at L11 H11 h11 g11
  have hcl : (cutL X (some (-2)) none).length ≤ 19 := by rw [← ln11]; exact cut_le
  have hil := h11.lt
  refine z_ret (w_cal (w_cons (w_var ⟨_, rfl, w_cons (w_bin (w_bin (w_var ⟨_, rfl, ?_⟩)))⟩)))
  refine w_sl (w_var ⟨_, rfl, w_so (V_use (V_neg V_int) ⟨_, rfl, w_no ⟨.loc T.length, T ++ [.lst (cutL X (some (-2)) none)], by simp only [sliceSem, L11], ?_⟩⟩)⟩)
  refine w_addL (get_pushl L11) get_push (sz (by omega)) ?_
  refine w_lst (w_cons (V_use (V_tt (R6 rfl) (V_u (V_var rfl)) (by show 7 ≤ 1000; omega)) (w_nil ⟨sz (by simp), ?_⟩)))
  refine w_addL (get_pushl get_push) get_push (sz (by simp only [List.length_append, List.length_singleton]; omega)) (w_nil ?_)
  have f12 := ((((DI.Fr.push (B := []) (S := T) (c := Cell.lst (cutL X (some (-2)) none))).pushr (c := Cell.lst (X ++ cutL X (some (-2)) none))).pushr (c := Cell.lst [.tup (askL a ++ [.tup ([.str (sd (!q.s))] ++ cutL (placeL q) (some 1) none)])])).pushr (c := Cell.lst (X ++ cutL X (some (-2)) none ++ [.tup (askL a ++ [.tup ([.str (sd (!q.s))] ++ cutL (placeL q) (some 1) none)])])))
  refine one (h11.fr (B := []) f12 (by simp)) get_push (by simp; omega) (by simp only [List.length_append, List.length_singleton]; omega) (by simp only [List.length_append, List.length_singleton]; omega) fun o T' ho hT fT => ?_
  refine hQ o T' ?_ hT (g11.trans ((f12.sub (by simp)).trans fT))
  have f13 : DI.Fr [i] T T' := (f12.sub (by simp)).trans fT
  rcases List.mem_append.mp ho with ho | ho
  · rcases List.mem_append.mp ho with ho | ho
    · exact ((H11 o ho).sub (B' := [i]) (by simp)).fr f13
    · exact ((H11 o (mem_cut ho)).sub (B' := [i]) (by simp)).fr f13
  · rw [List.mem_singleton.mp ho]
    exact odd_row (q' := ⟨!q.s, q.x, q.y, q.r, q.b⟩) hb (hlq _ not_q) hb.szp
end K29

set_option Elab.async false
set_option linter.all false
set_option maxRecDepth 100000
set_option maxHeartbeats 4000000
namespace K29
open L2 DI PySem PySem.Spec PyProof.Rows
theorem cell_at {d : Nat} {S : Sto} {ns : List Int} {k : Nat} {Q : D → Sto → Prop} (hQ : ∀ z : Int, Q (.int z) S) : W (calls P0 fs (d + 1) 16 [.rl (ns.map D.int), .int k] S) Q := by
  refine W_call (f := d_law_cell_at) rfl rfl ?_
  show WS (dSs P0 _ t_law_cell_at [some (.rl (ns.map D.int)), some (.int k)] S) _
  unfold t_law_cell_at
  refine z_ret (w_iteT (T_cmp (V_var rfl) (V_bi1 (z := .int ns.length) (V_var rfl) (by simp [biSem])) rfl) (fun h => ?_) fun _ => w_int (hQ _))
  have h : (k : Int) < ns.length := of_decide_eq_true h
  have hk : k < ns.length := by omega
  refine V_use (V_ix (z := .int ns[k]) (V_var rfl) (V_var rfl) ?_) (hQ _)
  simp only [itemSem]
  exact DI.atI_nat (by simp [hk])

/-! ### equality of texts and lists, looks that change nothing -/
theorem eq_strs {S : Sto} {a b : Str} : eqSem (.str a) (.str b) S = some (a == b) := by
  unfold eqSem
  simp only [toP]
  split <;> rfl
theorem ne_strs {S : Sto} {a : Str} : cmpSem .NotEq (.str a) (.str a) S = some false := by
  rw [NE_of eq_strs]; simp
theorem cmp_loc {S : Sto} {x : D} {i : Nat} {t : Bool} (h : eqSem x (.loc i) S = some t) : cmpSem .Eq x (.loc i) S = some t := by
  cases x <;> simp only [cmpSem, h]
theorem toRs_mono {S S' : Sto} {n : Nat} (ih : ∀ d p, toR S n d = some p → toR S' n d = some p) : ∀ (xs : List D) (ps : List PyData), xs.mapM (toR S n) = some ps → xs.mapM (toR S' n) = some ps
  | [], ps, h => by simpa using h
  | x :: xs, ps, h => by
    rw [List.mapM_cons] at h ⊢
    cases h1 : toR S n x with
    | none => rw [h1] at h; cases h
    | some q =>
      rw [h1] at h
      rw [ih x q h1]
      cases h2 : xs.mapM (toR S n) with
      | none => rw [h2] at h; cases h
      | some qs =>
        rw [h2] at h
        rw [toRs_mono ih xs qs h2]
        exact h
theorem toR_mono {S S' : Sto} (f : DI.Fr [] S S') : ∀ n d p, toR S n d = some p → toR S' n d = some p
  | 0, _, _, h => by simp [toR] at h
  | n + 1, d, p, h => by
    have ih := toRs_mono (toR_mono f n)
    cases d with
    | tup xs =>
      simp only [toR, Option.map_eq_some_iff] at h ⊢
      obtain ⟨ps, h1, rfl⟩ := h
      exact ⟨ps, ih _ _ h1, rfl⟩
    | rl xs =>
      simp only [toR, Option.map_eq_some_iff] at h ⊢
      obtain ⟨ps, h1, rfl⟩ := h
      exact ⟨ps, ih _ _ h1, rfl⟩
    | loc a =>
      simp only [toR] at h ⊢
      split at h
      · rename_i xs hx
        rw [f.all _ _ hx]
        simp only [Option.map_eq_some_iff] at h ⊢
        obtain ⟨ps, h1, rfl⟩ := h
        exact ⟨ps, ih _ _ h1, rfl⟩
      · rename_i xs hx
        rw [f.all _ _ hx]
        simp only [Option.map_eq_some_iff] at h ⊢
        obtain ⟨ps, h1, rfl⟩ := h
        exact ⟨ps, ih _ _ h1, rfl⟩
      · cases h
    | _ => simpa only [toR] using h

theorem cut_lo {α : Type} {xs : List α} {c : Nat} (h : c ≤ xs.length) : cutL xs (some (c : Int)) none = xs.drop c := by
  have e1 : HT.sIx xs.length 0 (some (c : Int)) = c := by
    rw [HT.sIx_nat]
    omega
  have e2 : HT.sIx xs.length xs.length none = xs.length := rfl
  unfold cutL
  rw [e1, e2]
  exact List.take_of_length_le (by simp)
theorem cut_hi {α : Type} {xs : List α} {c : Nat} (h : c ≤ xs.length) : cutL xs none (some (c : Int)) = xs.take c := by
  have e1 : HT.sIx xs.length xs.length (some (c : Int)) = c := by
    rw [HT.sIx_nat]
    omega
  have e2 : HT.sIx xs.length 0 none = 0 := rfl
  unfold cutL
  rw [e1, e2]
  simp
theorem sl_loc {S : Sto} {a : Nat} {xs : List D} {lo hi : Option Int} (h : S[a]? = some (.lst xs)) : sliceSem (.loc a) lo hi S = some (.loc S.length, S ++ [.lst (cutL xs lo hi)]) := by simp only [sliceSem, h]
theorem fault_ok {d a : Nat} {S : Sto} {as : List Ask} {xs : List D} (h : S[a]? = some (.lst xs)) (hn : xs.length ≤ as.length) (hx : ∀ k, k < xs.length → xs[k]? = (rowsP as)[k]?.map rowD) (hl : xs.length ≤ 1000) {Q : D → Sto → Prop} (hQ : ∀ S', DI.Fr [] S S' → Q .non S') : W (calls P0 fs (d + 4) 13 [.loc a] S) Q := by
  refine fault2 (n := xs.length) (as := as) h (Nat.le_refl _) hn hx (fun o ho => ?_) hl fun S' f => ?_
  · rw [List.getElem?_eq_none (Nat.le_refl _)] at ho; cases ho
  · rw [if_neg (by omega)]; exact hQ S' f
theorem fault_no {d : Nat} {S : Sto} {o : D} (h : biSem .isi [o, .ty "list"] S = some (.bl false, S)) {Q : D → Sto → Prop} (hQ : Q (.int (-1)) S) : W (calls P0 fs (d + 4) 13 [o] S) Q := by
  refine W_call (f := d_strip_fault) rfl rfl ?_
  show WS (dSs P0 _ t_strip_fault [some o, none, none, none] S) _
  unfold t_strip_fault
  refine z_iteT (p := true) (T_cast (T_not (T_tru (p := false) rfl (V_bi2 (z := .bl false) (V_var rfl) V_bty h) rfl)) rfl) (fun _ => ?_) (fun h => by cases h)
  unfold t_strip_fault_1
  exact z_ret (V_use (V_neg V_int) hQ)
theorem row_at {as : List Ask} {k : Nat} : ((rowsP as).map rowD)[k]? = (rowsP as)[k]?.map rowD := by rw [List.getElem?_map]
theorem b10 {i B : Int} (h : -B ≤ i ∧ i ≤ B) (hB : B ≤ 9000000) : i.natAbs < 10 ^ 7 := by
  have e : (10 : Nat) ^ 7 = 10000000 := by decide
  rw [e]
  omega
theorem Rs.b7 {as : List Ask} (h : Rs as) (hl : as.length ≤ 8) {k : Nat} {z : Ask × Rw} (hz : (rowsP as)[k]? = some z) : B7 z.1 z.2 := by
  have hm := List.mem_of_getElem? hz
  obtain ⟨m1, m2⟩ := List.of_mem_zip (l₁ := as) (l₂ := toldP [] as) (a := z.1) (b := z.2) hm
  obtain ⟨s1, s2, s3, s4, s5⟩ := h.sm _ m1
  obtain ⟨x1, x2, x3⟩ := h.bx _ m2
  obtain ⟨d1, d2, d3⟩ := h.bd _ m2
  exact ⟨b10 (B := 1000) (by omega) (by omega), b10 (B := 1000) (by omega) (by omega), b10 (B := 1000) (by omega) (by omega), b10 (B := 1000) (by omega) (by omega), b10 (B := 1000) (by omega) (by omega), b10 (B := 3000) (by omega) (by omega), b10 (B := 3000) (by omega) (by omega), b10 (B := 3000) (by omega) (by omega), b10 (B := 3000) (by omega) (by omega)⟩
theorem B7.row {S : Sto} {a : Ask} {q : Rw} (hb : B7 a q) : RB S (rowD (a, q)) 4 2300 := rb_row (all_c (rb_sd2.up (by omega) (by omega)) hb.tl) (by show 7 ≤ 8; omega)
theorem Rs.rb {S : Sto} {as : List Ask} (h : Rs as) (hl : as.length ≤ 8) : ∀ x ∈ (rowsP as).map rowD, RB S x 5 2300 := by
  intro x hx
  obtain ⟨z, hz, rfl⟩ := List.mem_map.mp hx
  obtain ⟨k, hk⟩ := List.getElem?_of_mem hz
  exact (h.b7 hl hk).row.up (by omega) (Nat.le_refl _)
/-- repr of the same list in a store that has grown -/
theorem repr_at {S S' : Sto} {a b : Nat} {xs : List D} {q : PyData} (h : S[a]? = some (.lst xs)) (hq : toR S 32 (.loc a) = some q) (f : DI.Fr [] S S') (hx : ∀ x ∈ xs, RB S' x 5 b) (hl : xs.length * b ≤ 1000000) : biSem .repr_ [.loc a] S' = some (.str q.shown, S') := by
  obtain ⟨q', q3, q4⟩ := repr_lst (f.get h (by simp)) hx hl
  rw [toR_mono f _ _ _ hq] at q3
  cases q3
  exact q4
theorem all_cut {xs : List D} {lo hi : Option Int} {p : D → Prop} (h : ∀ x ∈ xs, p x) : ∀ x ∈ cutL xs lo hi, p x := fun x hx => h x (mem_cut hx)
abbrev sg (i f : Nat) (v2 v3 v4 v5 : Option D) : Sl := [some (.loc i), some (.loc f), v2, v3, v4, v5]
/-- what holds of the state and of the rows -/
structure Al (S : Sto) (i f : Nat) (as : List Ask) : Prop where
  st : St S i
  ne : f ≠ i
  rs : S[f]? = some (.lst ((rowsP as).map rowD))
theorem Al.fr {S S' : Sto} {i f : Nat} {as : List Ask} (h : Al S i f as) (g : DI.Fr [i] S S') (hs : St S' i) : Al S' i f as := ⟨hs, h.ne, g.get h.rs (by simpa using h.ne)⟩
theorem Al.fr0 {S S' : Sto} {i f : Nat} {as : List Ask} (h : Al S i f as) (g : DI.Fr [] S S') : Al S' i f as := h.fr (g.sub (by simp)) (h.st.fr g (by simp))
theorem cmp_ne_int {S : Sto} {k : Int} : cmpSem .NotEq (.int k) (.int k) S = some false := by
  simp only [cmpSem, eqD_int]
  simp
theorem turn {d i f : Nat} {S : Sto} {as : List Ask} {v2 v3 v4 v5 : Option D} (A : Al S i f as) (R : Rs as) (h1 : 1 ≤ as.length) (h8 : as.length ≤ 8) {Q : Po} (hQ : ∀ v2 v4 v5 S', Al S' i f as → Q.nx (sg i f v2 v3 v4 v5) S') : WS (dSs P0 (calls P0 fs (d + 4)) t_law_right_4 (sg i f v2 v3 v4 v5) S) Q := by
  unfold t_law_right_4
  have hlen : ((rowsP as).map rowD).length = as.length := by rw [List.length_map, rows_len]
  refine z_set (w_cal (w_cons (w_var ⟨_, rfl, w_cons (V_use (V_bi1 (z := .int as.length) (V_var rfl) (by simp only [biSem, A.rs]; rw [hlen])) (w_nil ?_))⟩)))
  refine digit A.st (by omega) (by omega) fun x S1 hx hx2 hs1 f1 => ?_
  have A1 := A.fr f1 hs1
  obtain ⟨k, rfl⟩ := Int.eq_ofNat_of_zero_le hx
  have hk : k < as.length := by omega
  have hik := A1.st.lt
  try simp only [List.set_cons_succ, List.set_cons_zero]
  refine z_set (w_bin (w_bin (w_sl (w_var ⟨_, rfl, w_no (w_so (w_var ⟨_, rfl, _, rfl, _, _, sl_loc A1.rs, ?_⟩))⟩))))
  rw [cut_hi (by rw [hlen]; omega)]
  have A2 := A1.fr0 (DI.Fr.push (c := Cell.lst (((rowsP as).map rowD).take k)))
  have L2 : (S1 ++ [Cell.lst (((rowsP as).map rowD).take k)])[S1.length]? = some (.lst (((rowsP as).map rowD).take k)) := get_push
  generalize S1 ++ [Cell.lst (((rowsP as).map rowD).take k)] = S2 at A2 L2
  have hn2 : S1.length ≠ i := by omega
  generalize S1.length = n2 at L2 hn2
  have hz := rows_at hk
  have hkx : ((rowsP as).map rowD)[k]? = some (rowD (as[k], placeP ((toldP [] as).take k) as[k])) := by rw [row_at, hz]; rfl
  refine w_lst (w_cons (w_cal (w_cons (w_var ⟨_, rfl, w_cons (V_use (V_ix (V_var rfl) (V_var rfl) (by simp only [itemSem, A2.rs]; exact DI.atI_nat hkx)) (w_nil ?_))⟩))))
  refine spoilt A2.st rfl (R.b7 h8 hz) fun o S3 ho hs3 f3 => w_nil ⟨sz (by simp), ?_⟩
  have A3 := A2.fr f3 hs3
  have L3 := f3.get L2 (by simpa using hn2)
  refine w_addL (get_pushl L3) get_push (sz (by simp only [List.length_take, hlen, List.length_singleton]; omega)) ?_
  have A4 := A3.fr0 ((DI.Fr.push (c := Cell.lst [o])).pushr (c := Cell.lst (((rowsP as).map rowD).take k ++ [o])))
  have L4 : (S3 ++ [Cell.lst [o]] ++ [Cell.lst (((rowsP as).map rowD).take k ++ [o])])[(S3 ++ [Cell.lst [o]]).length]? = some (.lst (((rowsP as).map rowD).take k ++ [o])) := get_push
  have o4 : odd [i] (S3 ++ [Cell.lst [o]] ++ [Cell.lst (((rowsP as).map rowD).take k ++ [o])]) ((toldP [] as).take k) as[k] o := ho.fr ((DI.Fr.push (c := Cell.lst [o])).pushr (c := Cell.lst (((rowsP as).map rowD).take k ++ [o])))
  have hn4 : (S3 ++ [Cell.lst [o]]).length ≠ i := by have := A3.st.lt; simp; omega
  generalize S3 ++ [Cell.lst [o]] ++ [Cell.lst (((rowsP as).map rowD).take k ++ [o])] = S4 at A4 L4 o4
  generalize (S3 ++ [Cell.lst [o]]).length = n4 at L4 hn4
  refine w_cal (w_cons (w_var ⟨_, rfl, w_cons ?_⟩))
  refine w_lst (w_cons (w_sl (w_var ⟨_, rfl, w_so (V_use (V_bin (z := .int ((k : Int) + 1)) (V_var rfl) V_int rfl) ⟨_, rfl, w_no ⟨_, _, sl_loc A4.rs, w_cons ?_⟩⟩)⟩)))
  refine w_lst (w_cons (w_non (w_nil ⟨sz (by simp), w_cons (w_lst (w_nil ⟨sz (by simp), w_nil ⟨sz (by simp), w_nil ?_⟩⟩))⟩)))
  have hi4 := A4.st.lt
  have f5 := (((DI.Fr.push (B := []) (S := S4) (c := Cell.lst (cutL ((rowsP as).map rowD) (some ((k : Int) + 1)) none))).pushr (c := Cell.lst [D.non])).pushr (c := Cell.lst [])).pushr (c := Cell.lst [D.loc S4.length, D.loc (S4 ++ [Cell.lst (cutL ((rowsP as).map rowD) (some ((k : Int) + 1)) none)]).length, D.loc (S4 ++ [Cell.lst (cutL ((rowsP as).map rowD) (some ((k : Int) + 1)) none)] ++ [Cell.lst [D.non]]).length])
  refine one (A4.st.fr f5 (by simp)) get_push (by simp; omega) (by simp) (by simp) fun y S5 hy hs5 f6 => ?_
  have f7 : DI.Fr [i] S4 S5 := (f5.sub (by simp)).trans f6
  obtain ⟨m, ys, rfl, hm, hy8, hrb⟩ : ∃ m ys, y = .loc m ∧ S5[m]? = some (.lst ys) ∧ ys.length ≤ 8 ∧ ∀ S', ∀ z ∈ ys, RB S' z 5 2300 := by
    simp only [List.mem_cons, List.not_mem_nil, or_false] at hy
    rcases hy with rfl | rfl | rfl
    · refine ⟨_, _, rfl, f6.get (get_pushl (get_pushl (get_pushl get_push))) (by simp; omega), ?_, fun S' => all_cut (R.rb h8)⟩
      exact Nat.le_trans cut_le (by rw [hlen]; exact h8)
    · exact ⟨_, _, rfl, f6.get (get_pushl (get_pushl get_push)) (by simp; omega), by simp, fun S' => all_1 (rnon.up (by omega) (by omega))⟩
    · exact ⟨_, _, rfl, f6.get (get_pushl get_push) (by simp; omega), by simp, fun S' => all_0⟩
  have A5 := A4.fr f7 hs5
  have L5 := f7.get L4 (by simpa using hn4)
  refine w_addL L5 hm (sz (by simp only [List.length_append, List.length_take, hlen, List.length_singleton]; omega)) ?_
  have A6 := A5.fr0 (DI.Fr.push (c := Cell.lst (((rowsP as).map rowD).take k ++ [o] ++ ys)))
  have L6 : (S5 ++ [Cell.lst (((rowsP as).map rowD).take k ++ [o] ++ ys)])[S5.length]? = some (.lst (((rowsP as).map rowD).take k ++ [o] ++ ys)) := get_push
  have o6 : odd [i] (S5 ++ [Cell.lst (((rowsP as).map rowD).take k ++ [o] ++ ys)]) ((toldP [] as).take k) as[k] o := (o4.fr f7).fr DI.Fr.push
  try simp only [List.set_cons_succ, List.set_cons_zero]
  generalize S5 ++ [Cell.lst (((rowsP as).map rowD).take k ++ [o] ++ ys)] = S6 at A6 L6 o6
  generalize S5.length = n6 at L6
  have htk : (((rowsP as).map rowD).take k).length = k := by rw [List.length_take, hlen]; omega
  have hXl : (((rowsP as).map rowD).take k ++ [o] ++ ys).length ≤ 17 := by simp only [List.length_append, htk, List.length_singleton]; omega
  have hXk : k < (((rowsP as).map rowD).take k ++ [o] ++ ys).length := by simp only [List.length_append, htk, List.length_singleton]; omega
  have hXo : (((rowsP as).map rowD).take k ++ [o] ++ ys)[k]? = some o := by
    rw [List.append_assoc, List.getElem?_append_right (by omega), htk]
    simp
  have hXj : ∀ j, j < k → (((rowsP as).map rowD).take k ++ [o] ++ ys)[j]? = (rowsP as)[j]?.map rowD := by
    intro j hj
    rw [List.append_assoc, List.getElem?_append_left (by omega), List.getElem?_take_of_lt hj, row_at]
  have hrX : ∀ S', DI.Fr [] S6 S' → ∀ x ∈ ((rowsP as).map rowD).take k ++ [o] ++ ys, RB S' x 5 2300 := fun S' g => all_app (all_app (fun x hx => R.rb h8 x (List.mem_of_mem_take hx)) (all_1 ((o6 S' (g.sub (by simp))).1.up (by omega) (by omega)))) (hrb S')
  generalize ((rowsP as).map rowD).take k ++ [o] ++ ys = X at L6 hXl hXk hXo hXj hrX
  have hX1 : X.length * 2300 ≤ 1000000 := by have := Nat.mul_le_mul_right 2300 hXl; omega
  obtain ⟨p, e1, e2⟩ := repr_lst L6 (hrX _ DI.Fr.refl) hX1
  refine z_set (V_use (V_bi1 (V_var rfl) e2) ?_)
  try simp only [List.set_cons_succ, List.set_cons_zero]
  refine z_ite (w_or (w_cmp (w_cal (w_cons (w_var ⟨_, rfl, w_nil (fault2 (n := k) (as := as) L6 (by omega) (by omega) hXj (fun o' ho' => ?_) (by omega) fun S7 f8 => ?_)⟩)))))
  · rw [hXo] at ho'
    cases ho'
    exact ⟨hk, (o6 _ DI.Fr.refl).2⟩
  rw [if_pos hXk]
  refine w_var ⟨_, rfl, false, cmp_ne_int, false, rfl, fun h => (by cases h), fun _ => ?_⟩
  refine w_cmp (V_use (V_bi1 (V_var rfl) (repr_at L6 e1 f8 (hrX _ f8) hX1)) (w_var ⟨_, rfl, false, ne_strs, false, rfl, fun h => (by cases h), fun _ => z_nil ?_⟩))
  dsimp only
  exact z_nil (hQ _ _ _ _ (A6.fr0 f8))
theorem ends {d i f : Nat} {S : Sto} {as : List Ask} {v2 v3 v4 v5 : Option D} (A : Al S i f as) (h8 : as.length ≤ 8) {Q : Po} (hQ : ∀ S', Q.rt (.bl true) S') : WS (dSs P0 (calls P0 fs (d + 4)) t_law_right_8 (sg i f v2 v3 v4 v5) S) Q := by
  unfold t_law_right_8
  refine z_for (w_iex (w_tup (w_cons (w_non (w_cons ?_)))))
  refine V_use (V_bi1 (V_var rfl) (bi_tup A.rs)) (w_cons (w_dct0 (w_cons (w_str (w_cons (w_int (w_cons (w_blc (w_nil ⟨sz (by simp), _, rfl, ?_⟩)))))))))
  have hE : ∀ e ∈ [D.non, .tup ((rowsP as).map rowD), .loc S.length, .str "some_rows", .int 5, .bl true], ∀ S', DI.Fr [] (S ++ [Cell.dk []]) S' → biSem .isi [e, .ty "list"] S' = some (.bl false, S') := by
    refine all_c (fun S' g => rfl) (all_c (fun S' g => rfl) (all_c (fun S' g => ?_) (all_c (fun S' g => rfl) (all_c (fun S' g => rfl) (all_1 fun S' g => rfl)))))
    have := g.get get_push (by simp)
    simp only [biSem, tyName, this]
    rfl
  refine WS_for (n := 6) (fun k σ' S' => (∃ v5, σ' = sg i f v2 v3 v4 v5) ∧ DI.Fr [] (S ++ [Cell.dk []]) S') ⟨⟨_, rfl⟩, DI.Fr.refl⟩ ?_ ?_ ?_
  · rintro σ' S' _
    rfl
  · rintro k σ' S' hk ⟨⟨v5, rfl⟩, g⟩
    obtain ⟨e, he, hm⟩ : ∃ e, [D.non, .tup ((rowsP as).map rowD), .loc S.length, .str "some_rows", .int 5, .bl true][k]? = some e ∧ e ∈ [D.non, .tup ((rowsP as).map rowD), .loc S.length, .str "some_rows", .int 5, .bl true] := by
      have hk2 : k < [D.non, .tup ((rowsP as).map rowD), .loc S.length, .str "some_rows", .int 5, .bl true].length := hk
      exact ⟨_, List.getElem?_eq_getElem hk2, List.getElem_mem hk2⟩
    refine ⟨e, _, by simp only [wgo]; exact congrArg some he, rfl, ?_⟩
    try simp only [List.set_cons_succ, List.set_cons_zero]
    unfold t_law_right_6
    refine z_ite (w_cmp (w_cal (w_cons (w_var ⟨_, rfl, w_nil (fault_no (hE e hm S' g) ?_)⟩))))
    refine V_use (V_neg V_int) ⟨false, cmp_ne_int, false, rfl, (fun h => (by cases h)), fun _ => z_nil ?_⟩
    dsimp only
    exact z_nil ⟨⟨_, rfl⟩, g⟩
  · rintro σ' S' ⟨⟨v5, rfl⟩, g⟩
    dsimp only
    unfold t_law_right_7
    refine z_ret (w_cmp (w_cal (w_cons (w_lst (w_nil ⟨sz (by simp), w_nil (fault_ok (as := []) get_push (by simp) (by simp) (by simp) fun S'' _ => w_non ⟨true, rfl, hQ _⟩)⟩)))))
theorem right {d i : Nat} {S : Sto} (hs : St S i) {Q : D → Sto → Prop} (hQ : ∀ S', Q (.bl true) S') : W (calls P0 fs (d + 5) 15 [.loc i] S) Q := by
  refine W_call (f := d_law_right) rfl rfl ?_
  show WS (dSs P0 _ t_law_right [some (.loc i), none, none, none, none, none] S) _
  unfold t_law_right
  have hil := hs.lt
  refine z_set (w_cal (w_cons (w_var ⟨_, rfl, w_nil (rows hs fun f as S1 h1 h8 hf hr R hs1 f1 => ?_)⟩)))
  have hlen : ((rowsP as).map rowD).length = as.length := by rw [List.length_map, rows_len]
  have hX1 : ((rowsP as).map rowD).length * 2300 ≤ 1000000 := by rw [hlen]; omega
  obtain ⟨p, e1, e2⟩ := repr_lst hr (R.rb h8) hX1
  try simp only [List.set_cons_succ, List.set_cons_zero]
  refine z_set (V_use (V_bi1 (V_var rfl) e2) ?_)
  try simp only [List.set_cons_succ, List.set_cons_zero]
  refine z_ite (w_or (w_cmp (w_cal (w_cons (w_var ⟨_, rfl, w_nil (fault_ok (as := as) hr (by omega) (fun k _ => row_at) (by omega) fun S2 f2 => w_non ⟨false, rfl, false, rfl, (fun h => (by cases h)), fun _ => ?_⟩)⟩)))))
  have hc : cutL ((rowsP as).map rowD) none (some 1) = ((rowsP as).map rowD).take 1 := cut_hi (c := 1) (by omega)
  refine w_cmp (w_calK (w_nil (w_cons (w_sl (w_var ⟨_, rfl, w_no (w_so (w_int ⟨1, rfl, _, _, sl_loc (f2.get hr (by simp)), w_nil ⟨⟨rfl, rfl⟩, ?_⟩⟩))⟩)))))
  rw [hc]
  refine fault_ok (as := as) (xs := ((rowsP as).map rowD).take 1) get_push (by rw [List.length_take]; omega) (fun k hk => ?_) (by rw [List.length_take]; omega) fun S3 f3 => w_non ⟨false, rfl, false, rfl, (fun h => (by cases h)), fun _ => z_nil ?_⟩
  · rw [List.length_take] at hk
    rw [List.getElem?_take_of_lt (by omega), row_at]
  have f4 : DI.Fr [] S1 S3 := f2.trans (DI.Fr.push.trans f3)
  dsimp only
  unfold t_law_right_10
  refine z_ite (w_cmp (V_use (V_bi1 (V_var rfl) (repr_at hr e1 f4 (R.rb h8) hX1)) (w_var ⟨_, rfl, false, ne_strs, false, rfl, (fun h => (by cases h)), fun _ => z_nil ?_⟩)))
  dsimp only
  unfold t_law_right_9
  have A : Al S3 i f as := Al.fr0 ⟨hs1, by omega, hr⟩ f4
  refine z_for (w_rng1 (w_int ⟨6, rfl, by decide, ?_⟩))
  refine WS_for (n := 6) (fun k σ' S' => (∃ v2 v3 v4 v5, σ' = sg i f v2 v3 v4 v5) ∧ Al S' i f as) ⟨⟨_, _, _, _, rfl⟩, A⟩ ?_ ?_ ?_
  · rintro σ' S' _
    rfl
  · rintro k σ' S' hk ⟨⟨v2, v3, v4, v5, rfl⟩, A⟩
    refine ⟨.int (0 + k), _, by simp only [wgo]; rw [if_pos (by omega)], rfl, ?_⟩
    try simp only [List.set_cons_succ, List.set_cons_zero]
    exact turn (d := d) A R h1 h8 fun v2 v4 v5 S' A' => ⟨⟨_, _, _, _, rfl⟩, A'⟩
  · rintro σ' S' ⟨⟨v2, v3, v4, v5, rfl⟩, A⟩
    dsimp only
    exact ends (d := d) A h8 fun S' => hQ S'
theorem lawful : ∀ ns : List Int, ns.length ≤ 63 → ∃ S', calls P0 fs (dep + 1) 17 [.rl (ns.map D.int)] [] = .ok (.bl true) S' := by
  intro ns hn
  have : W (calls P0 fs (dep + 1) 17 [.rl (ns.map D.int)] []) fun v _ => v = .bl true := by
    refine W_call (f := d_law) rfl rfl ?_
    show WS (dSs P0 (calls P0 fs (55 + 5)) t_law [some (.rl (ns.map D.int)), none, none] []) _
    unfold t_law
    refine z_for (w_rng1 (V_use (V_bi2 V_int (V_bi2 V_int (V_bi1 (z := .int ns.length) (V_var rfl) (by simp [biSem])) rfl) rfl) ⟨_, rfl, decide_eq_true (by omega), ?_⟩))
    refine WS_for (n := (max 1 (min 5 (ns.length : Int))).toNat) (fun k σ' S' => ∃ v1 v2, σ' = [some (.rl (ns.map D.int)), v1, v2]) ⟨_, _, rfl⟩ ?_ ?_ ?_
    · rintro σ' S' _
      simp [wgo]
    · rintro k σ' S' hk ⟨v1, v2, rfl⟩
      refine ⟨.int (0 + k), _, by simp only [wgo]; rw [if_pos hk], rfl, ?_⟩
      try simp only [List.set_cons_succ, List.set_cons_zero]
      rw [Int.zero_add]
      unfold t_law_2
      (repeat (first | ((with_reducible refine w_var ?_); refine ⟨_, rfl, ?_⟩) | with_reducible refine z_set ?_ | with_reducible refine z_setT ?_ | with_reducible refine z_par ?_ | with_reducible refine z_fld ?_ | with_reducible refine z_sub ?_ | with_reducible refine z_exp ?_ | with_reducible refine z_ret ?_ | with_reducible refine z_retN ?_ | with_reducible refine z_ite ?_ | with_reducible refine z_whl ?_ | with_reducible refine z_for ?_ | with_reducible refine z_pass ?_ | with_reducible refine z_brk ?_ | with_reducible refine z_cnt ?_ | with_reducible refine z_nil ?_ | with_reducible refine z_par3 ?_ | with_reducible refine z_sub2 ?_ | with_reducible refine z_sub3 ?_ | with_reducible refine z_raiF ?_ | with_reducible refine z_rai ?_ | with_reducible refine z_try1 ?_ | with_reducible refine w_bin ?_ | with_reducible refine w_int ?_ | with_reducible refine w_str ?_ | with_reducible refine w_blc ?_ | with_reducible refine w_non ?_ | with_reducible refine w_bty ?_ | with_reducible refine w_neg ?_ | with_reducible refine w_cmp ?_ | with_reducible refine w_chn ?_ | with_reducible refine w_and ?_ | with_reducible refine w_or ?_ | with_reducible refine w_not ?_ | with_reducible refine w_ite ?_ | with_reducible refine w_fld ?_ | with_reducible refine w_ix ?_ | with_reducible refine w_sl ?_ | with_reducible refine w_no ?_ | with_reducible refine w_so ?_ | with_reducible refine w_nil ?_ | with_reducible refine w_cons ?_ | with_reducible refine w_tup ?_ | with_reducible refine w_lst ?_ | with_reducible refine w_cal ?_ | with_reducible refine w_mk ?_ | with_reducible refine w_mth ?_ | with_reducible refine w_bi ?_ | with_reducible refine w_bm ?_ | with_reducible refine w_lc ?_ | with_reducible refine w_iex ?_ | with_reducible refine w_rng1 ?_ | with_reducible refine w_rng2 ?_ | with_reducible refine w_enum ?_ | with_reducible refine w_T0 ?_ | with_reducible refine w_T1 ?_ | with_reducible refine w_add ?_ | with_reducible refine w_sub ?_ | with_reducible refine w_dctK ?_ | with_reducible refine w_dget1 ?_ | with_reducible refine w_dget2 ?_ | with_reducible refine w_rev ?_ | ((with_reducible refine w_tru ?_ ?_); exact rfl)))
      refine cell_at (d := 59) fun z => ?_
      (repeat (first | ((with_reducible refine w_var ?_); refine ⟨_, rfl, ?_⟩) | with_reducible refine z_set ?_ | with_reducible refine z_setT ?_ | with_reducible refine z_par ?_ | with_reducible refine z_fld ?_ | with_reducible refine z_sub ?_ | with_reducible refine z_exp ?_ | with_reducible refine z_ret ?_ | with_reducible refine z_retN ?_ | with_reducible refine z_ite ?_ | with_reducible refine z_whl ?_ | with_reducible refine z_for ?_ | with_reducible refine z_pass ?_ | with_reducible refine z_brk ?_ | with_reducible refine z_cnt ?_ | with_reducible refine z_nil ?_ | with_reducible refine z_par3 ?_ | with_reducible refine z_sub2 ?_ | with_reducible refine z_sub3 ?_ | with_reducible refine z_raiF ?_ | with_reducible refine z_rai ?_ | with_reducible refine z_try1 ?_ | with_reducible refine w_bin ?_ | with_reducible refine w_int ?_ | with_reducible refine w_str ?_ | with_reducible refine w_blc ?_ | with_reducible refine w_non ?_ | with_reducible refine w_bty ?_ | with_reducible refine w_neg ?_ | with_reducible refine w_cmp ?_ | with_reducible refine w_chn ?_ | with_reducible refine w_and ?_ | with_reducible refine w_or ?_ | with_reducible refine w_not ?_ | with_reducible refine w_ite ?_ | with_reducible refine w_fld ?_ | with_reducible refine w_ix ?_ | with_reducible refine w_sl ?_ | with_reducible refine w_no ?_ | with_reducible refine w_so ?_ | with_reducible refine w_nil ?_ | with_reducible refine w_cons ?_ | with_reducible refine w_tup ?_ | with_reducible refine w_lst ?_ | with_reducible refine w_cal ?_ | with_reducible refine w_mk ?_ | with_reducible refine w_mth ?_ | with_reducible refine w_bi ?_ | with_reducible refine w_bm ?_ | with_reducible refine w_lc ?_ | with_reducible refine w_iex ?_ | with_reducible refine w_rng1 ?_ | with_reducible refine w_rng2 ?_ | with_reducible refine w_enum ?_ | with_reducible refine w_T0 ?_ | with_reducible refine w_T1 ?_ | with_reducible refine w_add ?_ | with_reducible refine w_sub ?_ | with_reducible refine w_dctK ?_ | with_reducible refine w_dget1 ?_ | with_reducible refine w_dget2 ?_ | with_reducible refine w_rev ?_ | ((with_reducible refine w_tru ?_ ?_); exact rfl)))
      refine w_mul (.inl (by omega)) ?_
      (repeat (first | ((with_reducible refine w_var ?_); refine ⟨_, rfl, ?_⟩) | with_reducible refine z_set ?_ | with_reducible refine z_setT ?_ | with_reducible refine z_par ?_ | with_reducible refine z_fld ?_ | with_reducible refine z_sub ?_ | with_reducible refine z_exp ?_ | with_reducible refine z_ret ?_ | with_reducible refine z_retN ?_ | with_reducible refine z_ite ?_ | with_reducible refine z_whl ?_ | with_reducible refine z_for ?_ | with_reducible refine z_pass ?_ | with_reducible refine z_brk ?_ | with_reducible refine z_cnt ?_ | with_reducible refine z_nil ?_ | with_reducible refine z_par3 ?_ | with_reducible refine z_sub2 ?_ | with_reducible refine z_sub3 ?_ | with_reducible refine z_raiF ?_ | with_reducible refine z_rai ?_ | with_reducible refine z_try1 ?_ | with_reducible refine w_bin ?_ | with_reducible refine w_int ?_ | with_reducible refine w_str ?_ | with_reducible refine w_blc ?_ | with_reducible refine w_non ?_ | with_reducible refine w_bty ?_ | with_reducible refine w_neg ?_ | with_reducible refine w_cmp ?_ | with_reducible refine w_chn ?_ | with_reducible refine w_and ?_ | with_reducible refine w_or ?_ | with_reducible refine w_not ?_ | with_reducible refine w_ite ?_ | with_reducible refine w_fld ?_ | with_reducible refine w_ix ?_ | with_reducible refine w_sl ?_ | with_reducible refine w_no ?_ | with_reducible refine w_so ?_ | with_reducible refine w_nil ?_ | with_reducible refine w_cons ?_ | with_reducible refine w_tup ?_ | with_reducible refine w_lst ?_ | with_reducible refine w_cal ?_ | with_reducible refine w_mk ?_ | with_reducible refine w_mth ?_ | with_reducible refine w_bi ?_ | with_reducible refine w_bm ?_ | with_reducible refine w_lc ?_ | with_reducible refine w_iex ?_ | with_reducible refine w_rng1 ?_ | with_reducible refine w_rng2 ?_ | with_reducible refine w_enum ?_ | with_reducible refine w_T0 ?_ | with_reducible refine w_T1 ?_ | with_reducible refine w_add ?_ | with_reducible refine w_sub ?_ | with_reducible refine w_dctK ?_ | with_reducible refine w_dget1 ?_ | with_reducible refine w_dget2 ?_ | with_reducible refine w_rev ?_ | ((with_reducible refine w_tru ?_ ?_); exact rfl)))
      refine ⟨sz (by simp), ?_⟩
      try simp only [List.set_cons_succ, List.set_cons_zero]
      (repeat (first | ((with_reducible refine w_var ?_); refine ⟨_, rfl, ?_⟩) | with_reducible refine z_set ?_ | with_reducible refine z_setT ?_ | with_reducible refine z_par ?_ | with_reducible refine z_fld ?_ | with_reducible refine z_sub ?_ | with_reducible refine z_exp ?_ | with_reducible refine z_ret ?_ | with_reducible refine z_retN ?_ | with_reducible refine z_ite ?_ | with_reducible refine z_whl ?_ | with_reducible refine z_for ?_ | with_reducible refine z_pass ?_ | with_reducible refine z_brk ?_ | with_reducible refine z_cnt ?_ | with_reducible refine z_nil ?_ | with_reducible refine z_par3 ?_ | with_reducible refine z_sub2 ?_ | with_reducible refine z_sub3 ?_ | with_reducible refine z_raiF ?_ | with_reducible refine z_rai ?_ | with_reducible refine z_try1 ?_ | with_reducible refine w_bin ?_ | with_reducible refine w_int ?_ | with_reducible refine w_str ?_ | with_reducible refine w_blc ?_ | with_reducible refine w_non ?_ | with_reducible refine w_bty ?_ | with_reducible refine w_neg ?_ | with_reducible refine w_cmp ?_ | with_reducible refine w_chn ?_ | with_reducible refine w_and ?_ | with_reducible refine w_or ?_ | with_reducible refine w_not ?_ | with_reducible refine w_ite ?_ | with_reducible refine w_fld ?_ | with_reducible refine w_ix ?_ | with_reducible refine w_sl ?_ | with_reducible refine w_no ?_ | with_reducible refine w_so ?_ | with_reducible refine w_nil ?_ | with_reducible refine w_cons ?_ | with_reducible refine w_tup ?_ | with_reducible refine w_lst ?_ | with_reducible refine w_cal ?_ | with_reducible refine w_mk ?_ | with_reducible refine w_mth ?_ | with_reducible refine w_bi ?_ | with_reducible refine w_bm ?_ | with_reducible refine w_lc ?_ | with_reducible refine w_iex ?_ | with_reducible refine w_rng1 ?_ | with_reducible refine w_rng2 ?_ | with_reducible refine w_enum ?_ | with_reducible refine w_T0 ?_ | with_reducible refine w_T1 ?_ | with_reducible refine w_add ?_ | with_reducible refine w_sub ?_ | with_reducible refine w_dctK ?_ | with_reducible refine w_dget1 ?_ | with_reducible refine w_dget2 ?_ | with_reducible refine w_rev ?_ | ((with_reducible refine w_tru ?_ ?_); exact rfl)))
      refine right (d := 55) ⟨_, get_push, .inl ⟨_, rfl⟩⟩ fun S2 => ?_
      refine ⟨true, rfl, true, rfl, false, rfl, ?_⟩
      refine ⟨fun h => (by cases h), fun _ => z_nil ?_⟩
      dsimp only
      exact z_nil ⟨_, _, rfl⟩
    · rintro σ' S' ⟨v1, v2, rfl⟩
      dsimp only
      unfold t_law_3
      exact z_ret (w_blc rfl)
  obtain ⟨a, S', e, rfl⟩ := W_ex this
  exact ⟨S', e⟩
end K29

set_option Elab.async false
set_option linter.all false
set_option maxRecDepth 100000
set_option maxHeartbeats 0
open PySem PySem.W PySem.Calls PyProof.Rows
theorem PySem.Challenge.cw_flowboxes_k29_strips_judged_holds : PySem.Challenge.rw_flowboxes_k29_strips_judged.Holds := by
  w_on; o_law
  refine HandSHeadRun.head_any (r := OpenLaw.row PySem.Challenge.rw_flowboxes_k29_strips_judged) (q := view (OpenLaw.row PySem.Challenge.rw_flowboxes_k29_strips_judged).prog [19]) (H := K29.hk) (ob := K29.ob) (M := 30000) (loose := K29.loose) (d := HandSHeadRun.topDef (OpenLaw.row PySem.Challenge.rw_flowboxes_k29_strips_judged).prog 19) (kwd := []) K29.ob_eq
    (by kernel_rfl) (fun s => by kernel_rfl) K29.run (by kernel_rfl) (by kernel_rfl) (by kernel_rfl) (by rfl) (by first | assumption | decide +kernel) (by decide +kernel) ⟨rfl, rfl, rfl, rfl, rfl, by decide +kernel⟩ ?hw ?hc
  case hw => w_witness2
  case hc =>
    refine DI.walk_ofEw (l := PySem.Challenge.rw_flowboxes_k29_strips_judged) (n := 63) (k := 3 * K29.dep + 3) (x := "script") (CX := fun w => L2.CX (PySem.Challenge.rw_flowboxes_k29_strips_judged).prog w) rfl (by decide) (by kernel_rfl) ⟨rfl, by decide, by decide⟩ ?F (fun w H s e s' z => ?_)
    · intro w mg fa h Y G hmg0
      have hmg : mg ("law" : PySem.Str) = some (.ref fa) := by
        have e : (HandSHeadRun.topDef (OpenLaw.row PySem.Challenge.rw_flowboxes_k29_strips_judged).prog 19).name = ("law" : PySem.Str) := by kernel_rfl
        rw [← e]
        exact hmg0
      exact DI.law_F (P := K29.P0) (pn := K29.pn) (fs := K29.fs) (d := K29.dep) (j := 17) (f := K29.d_law) (gs := K29.gs) (xs := K29.xs) Y G hmg (by decide +kernel) rfl K29.o_all K29.x_all K29.kbs_ok rfl (by decide +kernel) rfl rfl K29.lawful
    · obtain ⟨_, _, _, _, _, _, _, _, _, _, _, _, e⟩ := z
      exact e
