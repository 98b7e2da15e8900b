import PyProof.Rows.All
import Wide.All
import OpenK.AllK
import Wide.FinOn
import PySem.Challenge.RW_xw0170_01
open PySem PySem.W PyProof.Rows
set_option Elab.async false
set_option bootstrap.genMatcherCode false
set_option tactic.hygienic false
set_option maxRecDepth 100000
set_option linter.unusedVariables false
set_option linter.unusedSimpArgs false
namespace Lend
set_option genSizeOf false
inductive CV where
  | none | bool (b : Bool) | int (i : Int) | str (s : Str)
  | tup (xs : List CV) | flist (xs : List CV) | fdict (kvs : List (Int × CV)) | loc (a : Addr) | raw (v : Value) | rng (a b : Int)
noncomputable abbrev Fz := Addr → Option Obj
noncomputable def Fz.le (f g : Fz) : Prop := ∀ a o, f a = some o → g a = some o
theorem Fz.le.refl (f : Fz) : Fz.le f f := fun _ _ h => h
theorem Fz.le.trans {f g k : Fz} (x : Fz.le f g) (y : Fz.le g k) : Fz.le f k := fun a o h => y a o (x a o h)
noncomputable def Fz.put (f : Fz) (a : Addr) (o : Obj) : Fz := fun b => if b = a then some o else f b
theorem Fz.put_self (f : Fz) (a : Addr) (o : Obj) : f.put a o a = some o := if_pos rfl
theorem Fz.put_ne (f : Fz) {a b : Addr} (o : Obj) (h : b ≠ a) : f.put a o b = f b := if_neg h
set_option tactic.hygienic true in
theorem Fz.le_put (f : Fz) (a : Addr) (o : Obj) (h : f a = none) : Fz.le f (f.put a o) := fun b o' e => by
  unfold Fz.put
  split
  · rename_i hb; subst hb; rw [h] at e; cases e
  · exact e
set_option genInjectivity false in
structure Bs where
  prog : Program
  w : World
  K : Frag
  h₀ : Heap
  mg : Str → Option Value
  mb : Str → Option Value
  os : OsState
structure Bs.Ok (B : Bs) : Prop where
  kin : B.K.In B.h₀
  g : B.h₀.Ns mainGlobals B.mg
  b : B.h₀.Ns builtinsNs B.mb
  lim : B.h₀.NoLimit
noncomputable abbrev lobj (vs : Array Value) (n : Nat) : Obj := { cls := .type "list", data := .seq vs n }
mutual
inductive VIs (B : Bs) (f : Fz) : Value → CV → Prop
  | none : VIs B f .none .none
  | bool (b) : VIs B f (.bool b) (.bool b)
  | int (i t) : VIs B f (.int i t) (.int i)
  | str (x t) : VIs B f (.str x t) (.str x)
  | tup {a o vs n xs} : f a = some o → o.cls = .type "tuple" → o.data = .seq vs n → VsIs B f vs.toList xs → VIs B f (.ref a) (.tup xs)
  | flist {a vs n xs} : f a = some (lobj vs n) → VsIs B f vs.toList xs → VIs B f (.ref a) (.flist xs)
  | fdict {a o vkvs kvs} : f a = some o → (a == sysModules) = false → o.IsDictOf (intKind B.prog B.w) vkvs → KIs B f vkvs kvs → VIs B f (.ref a) (.fdict kvs)
  | loc (a) : VIs B f (.ref a) (.loc a)
  | raw (v) : VIs B f v (.raw v)
  | rng {r a b o} : f r = some o → (∀ h : Heap, h.get? r = some o → ∃ t u v, IsRange h r a b 1 t u v) → VIs B f (.ref r) (.rng a b)
inductive VsIs (B : Bs) (f : Fz) : List Value → List CV → Prop
  | nil : VsIs B f [] []
  | cons {v x vs xs} : VIs B f v x → VsIs B f vs xs → VsIs B f (v :: vs) (x :: xs)
inductive KIs (B : Bs) (f : Fz) : List (Int × Value) → List (Int × CV) → Prop
  | nil : KIs B f [] []
  | cons {k v x r r'} : VIs B f v x → KIs B f r r' → KIs B f ((k, v) :: r) ((k, x) :: r')
end
theorem none_some {α : Type} {q : α} {P : Prop} (h : (none : Option α) = some q) : P := by cases h
theorem some_none {α : Type} {q : α} {P : Prop} (h : some q = none) : P := by cases h
theorem ne_fg {α β : Type} {g : α → β} {a b : α} {x y : β} (h : g a = x) (k : g b = y) (n : x = y → False) : a ≠ b := fun e => n (h.symm.trans ((congrArg g e).trans k))
theorem ne_sn {α β : Type} {g : α → Option β} {a b : α} {x : β} (h : g a = some x) (k : g b = none) : a ≠ b := by rintro rfl; rw [h] at k; cases k
inductive TupV (B : Bs) (f : Fz) (xs : List CV) (v : Value) : Prop
  | mk (a : Addr) (o : Obj) (vs : Array Value) (n : Nat) (e : v = .ref a) (g : f a = some o) (c : o.cls = .type "tuple") (d : o.data = .seq vs n) (q : VsIs B f vs.toList xs) : TupV B f xs v
inductive FlV (B : Bs) (f : Fz) (xs : List CV) (v : Value) : Prop
  | mk (a : Addr) (vs : Array Value) (n : Nat) (e : v = .ref a) (g : f a = some (lobj vs n)) (q : VsIs B f vs.toList xs) : FlV B f xs v
inductive FdV (B : Bs) (f : Fz) (kvs : List (Int × CV)) (v : Value) : Prop
  | mk (a : Addr) (o : Obj) (vkvs : List (Int × Value)) (e : v = .ref a) (g : f a = some o) (c : (a == sysModules) = false) (d : o.IsDictOf (intKind B.prog B.w) vkvs) (q : KIs B f vkvs kvs) : FdV B f kvs v
inductive RngV (f : Fz) (a b : Int) (v : Value) : Prop
  | mk (r : Addr) (o : Obj) (e : v = .ref r) (g : f r = some o) (q : ∀ h : Heap, h.get? r = some o → ∃ t u v, IsRange h r a b 1 t u v) : RngV f a b v
inductive VsC (B : Bs) (f : Fz) (x : CV) (xs : List CV) (vs : List Value) : Prop
  | mk (v : Value) (r : List Value) (e : vs = v :: r) (a : VIs B f v x) (b : VsIs B f r xs) : VsC B f x xs vs
inductive KC (B : Bs) (f : Fz) (p : Int × CV) (xs : List (Int × CV)) (vs : List (Int × Value)) : Prop
  | mk (v : Value) (r : List (Int × Value)) (e : vs = (p.1, v) :: r) (a : VIs B f v p.2) (b : KIs B f r xs) : KC B f p xs vs
noncomputable def VInv (B : Bs) (f : Fz) (v : Value) : CV → Prop
  | .none => v = .none
  | .bool b => v = .bool b
  | .int i => ∃ t, v = .int i t
  | .str x => ∃ t, v = .str x t
  | .tup xs => TupV B f xs v
  | .flist xs => FlV B f xs v
  | .fdict kvs => FdV B f kvs v
  | .loc a => v = .ref a
  | .raw w => v = w
  | .rng a b => RngV f a b v
set_option tactic.hygienic true in
theorem VIs.inv {B : Bs} {f : Fz} {v : Value} {x : CV} (h : VIs B f v x) : VInv B f v x := by
  cases h
  · rfl
  · rfl
  · exact ⟨_, rfl⟩
  · exact ⟨_, rfl⟩
  · exact ⟨_, _, _, _, rfl, ‹_›, ‹_›, ‹_›, ‹_›⟩
  · exact ⟨_, _, _, rfl, ‹_›, ‹_›⟩
  · exact ⟨_, _, _, rfl, ‹_›, ‹_›, ‹_›, ‹_›⟩
  · rfl
  · rfl
  · exact ⟨_, _, rfl, ‹_›, ‹_›⟩
noncomputable def VsInv (B : Bs) (f : Fz) (vs : List Value) : List CV → Prop
  | [] => vs = []
  | x :: xs => VsC B f x xs vs
set_option tactic.hygienic true in
theorem VsIs.inv {B : Bs} {f : Fz} {vs : List Value} {xs : List CV} (h : VsIs B f vs xs) : VsInv B f vs xs := by
  cases h
  · rfl
  · exact ⟨_, _, rfl, ‹_›, ‹_›⟩
noncomputable def KInv (B : Bs) (f : Fz) (vs : List (Int × Value)) : List (Int × CV) → Prop
  | [] => vs = []
  | p :: xs => KC B f p xs vs
set_option tactic.hygienic true in
theorem KIs.inv {B : Bs} {f : Fz} {vs : List (Int × Value)} {xs : List (Int × CV)} (h : KIs B f vs xs) : KInv B f vs xs := by
  cases h
  · rfl
  · exact ⟨_, _, rfl, ‹_›, ‹_›⟩
theorem VIs.mono {B : Bs} {f g : Fz} (l : Fz.le f g) {v : Value} {x : CV} (h : VIs B f v x) : VIs B g v x :=
  VIs.rec (motive_1 := fun v x _ => VIs B g v x) (motive_2 := fun vs xs _ => VsIs B g vs xs) (motive_3 := fun vs xs _ => KIs B g vs xs) .none .bool .int .str (fun h1 h2 h3 _ ih => .tup (l _ _ h1) h2 h3 ih) (fun h1 _ ih => .flist (l _ _ h1) ih) (fun h1 h2 h3 _ ih => .fdict (l _ _ h1) h2 h3 ih) .loc .raw (fun h1 h2 => .rng (l _ _ h1) h2) .nil (fun _ _ a b => .cons a b) .nil (fun _ _ a b => .cons a b) h
theorem VsIs.mono {B : Bs} {f g : Fz} (l : Fz.le f g) {vs : List Value} {xs : List CV} (h : VsIs B f vs xs) : VsIs B g vs xs := by
  induction xs generalizing vs with
  | nil => obtain rfl := h.inv; exact .nil
  | cons x xs ih => obtain ⟨_, _, rfl, a, r⟩ := h.inv; exact .cons (a.mono l) (ih r)
theorem KIs.mono {B : Bs} {f g : Fz} (l : Fz.le f g) {vs : List (Int × Value)} {xs : List (Int × CV)} (h : KIs B f vs xs) : KIs B g vs xs := by
  induction xs generalizing vs with
  | nil => obtain rfl := h.inv; exact .nil
  | cons x xs ih => obtain ⟨_, _, rfl, a, r⟩ := h.inv; exact .cons (a.mono l) (ih r)
theorem VsIs.length {B : Bs} {f : Fz} {vs xs} (h : VsIs B f vs xs) : vs.length = xs.length := by
  induction xs generalizing vs with
  | nil => obtain rfl := h.inv; rfl
  | cons x xs ih => obtain ⟨_, _, rfl, _, r⟩ := h.inv; exact congrArg (· + 1) (ih r)
theorem KIs.length {B : Bs} {f : Fz} {vs xs} (h : KIs B f vs xs) : vs.length = xs.length := by
  induction xs generalizing vs with
  | nil => obtain rfl := h.inv; rfl
  | cons x xs ih => obtain ⟨_, _, rfl, _, r⟩ := h.inv; exact congrArg (· + 1) (ih r)
theorem VsIs.append {B : Bs} {f : Fz} {vs xs ws ys} (h : VsIs B f vs xs) (k : VsIs B f ws ys) : VsIs B f (vs ++ ws) (xs ++ ys) := by
  induction xs generalizing vs with
  | nil => obtain rfl := h.inv; exact k
  | cons x xs ih => obtain ⟨_, _, rfl, a, r⟩ := h.inv; exact .cons a (ih r)
theorem VsIs.get {B : Bs} {f : Fz} {vs xs} (h : VsIs B f vs xs) {i : Nat} {x : CV} (e : xs[i]? = some x) : ∃ v, vs[i]? = some v ∧ VIs B f v x := by
  induction xs generalizing vs i with
  | nil => exact none_some e
  | cons y ys ih =>
    obtain ⟨_, _, rfl, a, r⟩ := h.inv
    rcases i with _ | i
    · cases e; exact ⟨_, rfl, a⟩
    · exact ih r e
inductive CO where
  | list (xs : List CV)
  | dict (kvs : List (Int × CV))
  | inst (C : Addr) (d : Addr) (attrs : List (Str × CV))
  | ns (g : Str → Option CV)
  | cell (v : Option CV)
  | obj (o : Obj)
noncomputable abbrev Store := List (Addr × CO)
noncomputable abbrev cobj (v : Option Value) : Obj := { cls := .type "cell", data := .cell v }
inductive AIs (B : Bs) (f : Fz) : List DictEntry → List (Str × CV) → Prop
  | nil : AIs B f [] []
  | cons {e : DictEntry} {x : Str} {V : CV} {es r} (h : ∃ t, e.key = .str x t) (v : VIs B f e.val V) (rest : AIs B f es r) : AIs B f (e :: es) ((x, V) :: r)
theorem AIs.mono {B : Bs} {f g : Fz} (l : Fz.le f g) {es r} (h : AIs B f es r) : AIs B g es r := by
  induction h with
  | nil => exact .nil
  | cons a b _ ih => exact .cons a (b.mono l) ih
inductive SeqAtH (B : Bs) (f : Fz) (h : Heap) (a : Addr) (xs : List CV) : Prop
  | mk (vs : Array Value) (n : Nat) (g : h.get? a = some (lobj vs n)) (q : VsIs B f vs.toList xs) : SeqAtH B f h a xs
inductive DictAtH (B : Bs) (f : Fz) (h : Heap) (a : Addr) (kvs : List (Int × CV)) : Prop
  | mk (lo : (a == sysModules) = false) (vkvs : List (Int × Value)) (d : h.DictOf (intKind B.prog B.w) a vkvs) (q : KIs B f vkvs kvs) : DictAtH B f h a kvs
inductive InstAtH (B : Bs) (f : Fz) (h : Heap) (a C d : Addr) (attrs : List (Str × CV)) : Prop
  | mk (g : h.get? a = some (instObj C d)) (es : List DictEntry) (n : Nat) (gd : h.get? d = some (dictOf es n)) (q : AIs B f es attrs) : InstAtH B f h a C d attrs
inductive NsAtH (B : Bs) (f : Fz) (h : Heap) (a : Addr) (g : Str → Option CV) : Prop
  | mk (m : Str → Option Value) (n : h.Ns a m) (q : ∀ x V, g x = some V → ∃ v, m x = some v ∧ VIs B f v V) : NsAtH B f h a g
inductive CellAtH (B : Bs) (f : Fz) (h : Heap) (a : Addr) (v : Option CV) : Prop
  | mk (ov : Option Value) (g : h.get? a = some (cobj ov)) (q : ∀ V, v = some V → ∃ u, ov = some u ∧ VIs B f u V) : CellAtH B f h a v
noncomputable def CIs (B : Bs) (f : Fz) (h : Heap) (a : Addr) : CO → Prop
  | .list xs => SeqAtH B f h a xs
  | .dict kvs => DictAtH B f h a kvs
  | .inst C d attrs => InstAtH B f h a C d attrs
  | .ns g => NsAtH B f h a g
  | .cell v => CellAtH B f h a v
  | .obj o => h.get? a = some o
noncomputable def foot (a : Addr) : CO → List Addr
  | .inst _ d _ => [a, d]
  | _ => [a]
theorem foot_self (a : Addr) (c : CO) : a ∈ foot a c := by cases c <;> simp [foot]
theorem CIs.lt {B : Bs} {f : Fz} {h : Heap} {a : Addr} {c : CO} (x : CIs B f h a c) : ∀ b ∈ foot a c, ∃ o, h.get? b = some o := by
  intro b hb
  cases c with
  | list xs => simp [foot] at hb; subst hb; obtain ⟨vs, n, e, _⟩ := x; exact ⟨_, e⟩
  | dict kvs => simp [foot] at hb; subst hb; obtain ⟨_, vkvs, ⟨o, _, _, e, _⟩, _⟩ := x; exact ⟨_, e⟩
  | inst C d attrs =>
    simp [foot] at hb
    obtain ⟨e, es, n, e', _⟩ := x
    rcases hb with rfl | rfl
    · exact ⟨_, e⟩
    · exact ⟨_, e'⟩
  | ns g => simp [foot] at hb; subst hb; obtain ⟨m, ⟨o, _, _, e, _⟩, _⟩ := x; exact ⟨_, e⟩
  | cell v => simp [foot] at hb; subst hb; obtain ⟨ov, e, _⟩ := x; exact ⟨_, e⟩
  | obj o => simp [foot] at hb; subst hb; exact ⟨_, x⟩
theorem CIs.keep {B : Bs} {f g : Fz} {h h' : Heap} {a : Addr} {c : CO} (l : Fz.le f g) (x : CIs B f h a c) (k : ∀ b ∈ foot a c, h'.get? b = h.get? b) : CIs B g h' a c := by
  cases c with
  | list xs => obtain ⟨vs, n, e, v⟩ := x; exact ⟨vs, n, (k a (by simp [foot])).trans e, v.mono l⟩
  | dict kvs =>
    obtain ⟨lo, vkvs, ⟨o, es, ep, e, r⟩, v⟩ := x
    exact ⟨lo, vkvs, ⟨o, es, ep, (k a (by simp [foot])).trans e, r⟩, v.mono l⟩
  | inst C d attrs =>
    obtain ⟨e, es, n, e', v⟩ := x
    exact ⟨(k a (by simp [foot])).trans e, es, n, (k d (by simp [foot])).trans e', v.mono l⟩
  | ns g =>
    obtain ⟨m, ⟨o, es, ep, e, r⟩, v⟩ := x
    exact ⟨m, ⟨o, es, ep, (k a (by simp [foot])).trans e, r⟩, fun y V hy => let ⟨u, h1, h2⟩ := v y V hy; ⟨u, h1, h2.mono l⟩⟩
  | cell v =>
    obtain ⟨ov, e, r⟩ := x
    exact ⟨ov, (k a (by simp [foot])).trans e, fun V hV => let ⟨u, h1, h2⟩ := r V hV; ⟨u, h1, h2.mono l⟩⟩
  | obj o => exact (k a (by simp [foot])).trans x
noncomputable def feet (S : Store) : List Addr := S.flatMap fun p => foot p.1 p.2
theorem feet_cons (p : Addr × CO) (S : Store) : feet (p :: S) = foot p.1 p.2 ++ feet S := rfl
theorem feet_append (S T : Store) : feet (S ++ T) = feet S ++ feet T := by simp [feet]
theorem mem_feet {S : Store} {b : Addr} : b ∈ feet S ↔ ∃ p ∈ S, b ∈ foot p.1 p.2 := by simp [feet]
theorem feet_sub {S S' : Store} (p : S'.Sublist S) : (feet S').Sublist (feet S) := by
  induction p with
  | slnil => exact .slnil
  | cons a _ ih => rw [feet_cons]; exact ih.trans (List.sublist_append_right ..)
  | cons_cons a _ ih => rw [feet_cons, feet_cons]; exact (List.Sublist.refl _).append ih
structure St (B : Bs) (f T : Fz) (S : Store) (s : Shared) : Prop where
  gens : s.gens = #[]
  os : s.os = B.os
  base : ∀ a o, B.h₀.get? a = some o → f a = some o
  fin : ∀ a o, f a = some o → s.heap.get? a = some o
  tin : ∀ a o, T a = some o → s.heap.get? a = some o ∧ f a = none
  cell : ∀ p ∈ S, CIs B f s.heap p.1 p.2
  dis : ∀ b ∈ feet S, f b = none ∧ T b = none
  sep : (feet S).Nodup
section
variable {B : Bs} {f T : Fz} {S S' : Store} {s : Shared}
theorem St.keep (x : St B f T S s) : ∀ a o, B.h₀.get? a = some o → s.heap.get? a = some o := fun a o e => x.fin a o (x.base a o e)
theorem St.toks (x : St B f T S s) (t : Nat) : St B f T S { s with toks := t } := ⟨x.gens, x.os, x.base, x.fin, x.tin, x.cell, x.dis, x.sep⟩
theorem St.perm (x : St B f T S s) (p : S.Perm S') : St B f T S' s :=
  have pf : (feet S).Perm (feet S') := p.flatMap_right _
  ⟨x.gens, x.os, x.base, x.fin, x.tin, fun q hq => x.cell q (p.mem_iff.mpr hq), fun b hb => x.dis b (pf.mem_iff.mpr hb), pf.nodup_iff.mp x.sep⟩
theorem St.sub (x : St B f T S s) (p : S'.Sublist S) : St B f T S' s :=
  have pf : (feet S').Sublist (feet S) := feet_sub p
  ⟨x.gens, x.os, x.base, x.fin, x.tin, fun q hq => x.cell q (p.subset hq), fun b hb => x.dis b (pf.subset hb), x.sep.sublist pf⟩
end
end Lend
namespace Lend
noncomputable def lk : Store → Addr → Option CO
  | [], _ => none
  | (b, c) :: r, a => if a = b then some c else lk r a
noncomputable def up : Store → Addr → CO → Store
  | [], _, _ => []
  | (b, c') :: r, a, c => if a = b then (b, c) :: r else (b, c') :: up r a c
noncomputable def rm : Store → Addr → Store
  | [], _ => []
  | (b, c') :: r, a => if a = b then r else (b, c') :: rm r a
set_option tactic.hygienic true in
theorem lk_perm : ∀ {S : Store} {a : Addr} {c : CO}, lk S a = some c → S.Perm ((a, c) :: rm S a)
  | [], _, _, h => by cases h
  | (b, c') :: r, a, c, h => by
    unfold lk at h; unfold rm
    split at h
    · rename_i e; subst e; cases h; simp
    · rename_i e
      simp only [if_neg e]
      exact ((lk_perm h).cons _).trans (List.Perm.swap ..)
set_option tactic.hygienic true in
theorem up_perm : ∀ {S : Store} {a : Addr} {c c' : CO}, lk S a = some c → (up S a c').Perm ((a, c') :: rm S a)
  | [], _, _, _, h => by cases h
  | (b, d) :: r, a, c, c', h => by
    unfold lk at h; unfold up rm
    split at h
    · rename_i e; subst e; cases h; simp
    · rename_i e
      simp only [if_neg e]
      exact ((up_perm h).cons _).trans (List.Perm.swap ..)
theorem lk_mem {S : Store} {a : Addr} {c : CO} (h : lk S a = some c) : (a, c) ∈ S := (lk_perm h).mem_iff.mpr (.head _)
set_option tactic.hygienic true in
theorem lk_up_self : ∀ {S : Store} {a : Addr} {c c' : CO}, lk S a = some c → lk (up S a c') a = some c'
  | [], _, _, _, h => by cases h
  | (b, d) :: r, a, c, c', h => by
    unfold lk at h; unfold up
    split at h
    · rename_i e; subst e; simp [lk]
    · rename_i e; simp [lk, e]; exact lk_up_self h
set_option tactic.hygienic true in
theorem lk_up_ne : ∀ {S : Store} {a b : Addr} {c' : CO}, b ≠ a → lk (up S a c') b = lk S b
  | [], _, _, _, _ => rfl
  | (x, d) :: r, a, b, c', h => by
    unfold up
    split
    · rename_i e; subst e; simp [lk, h]
    · simp only [lk]; split
      · rfl
      · exact lk_up_ne h
set_option tactic.hygienic true in
theorem up_up : ∀ {S : Store} {a : Addr} {c c' : CO}, up (up S a c) a c' = up S a c'
  | [], _, _, _ => rfl
  | (x, d) :: r, a, c, c' => by
    simp only [up]
    split
    · rename_i e; subst e; simp [up]
    · rename_i e; simp [up, e]; exact up_up
section
variable {B : Bs} {f T : Fz} {S S' F : Store} {s : Shared}
theorem St.front (x : St B f T (F ++ S) s) {a : Addr} {c : CO} (h : lk S a = some c) : St B f T ((a, c) :: (F ++ rm S a)) s :=
  x.perm (((lk_perm h).append_left F).trans List.perm_middle)
theorem St.get (x : St B f T (F ++ S) s) {a : Addr} {c : CO} (h : lk S a = some c) : CIs B f s.heap a c :=
  (x.front h).cell (a, c) (.head _)
theorem St.change {a b : Addr} {c c' : CO} {h' : Heap} {t : Nat} (x : St B f T ((a, c) :: S) s) (hs : Heap.SameBut b s.heap h') (hb : b ∈ foot a c) (hf : foot a c' = foot a c) (hc : CIs B f h' a c') :
    St B f T ((a, c') :: S) { s with heap := h', toks := t } := by
  have hbf := x.dis b (by rw [feet_cons]; exact List.mem_append_left _ hb)
  have sep := x.sep
  rw [feet_cons] at sep
  have hbS : ∀ b' ∈ feet S, b' ≠ b := fun b' hb' e => by
    subst e
    exact (List.nodup_append.mp sep).2.2 b' hb b' hb' rfl
  refine ⟨x.gens, x.os, x.base, fun a' o e => ?_, fun a' o e => ?_, fun p hp => ?_, fun b' hb' => ?_, ?_⟩
  · refine (hs.2 a' ?_).trans (x.fin a' o e)
    exact ne_sn e hbf.1
  · refine ⟨(hs.2 a' ?_).trans (x.tin a' o e).1, (x.tin a' o e).2⟩
    exact ne_sn e hbf.2
  · rcases List.mem_cons.mp hp with rfl | hp
    · exact hc
    · refine (x.cell p (.tail _ hp)).keep (Fz.le.refl f) fun b' hb' => hs.2 b' (hbS b' (mem_feet.mpr ⟨p, hp, hb'⟩))
  · rw [feet_cons, hf, ← feet_cons (a, c)] at hb'; exact x.dis b' hb'
  · show (foot a c' ++ feet S).Nodup
    rw [hf]; exact sep
theorem St.upd {a b : Addr} {c c' : CO} {h' : Heap} {t : Nat} (x : St B f T (F ++ S) s) (hl : lk S a = some c) (hs : Heap.SameBut b s.heap h') (hb : b ∈ foot a c) (hf : foot a c' = foot a c) (hc : CIs B f h' a c') :
    St B f T (F ++ up S a c') { s with heap := h', toks := t } :=
  ((x.front hl).change hs hb hf hc).perm ((List.perm_middle.symm).trans ((up_perm hl).symm.append_left F))
theorem St.fresh (x : St B f T S s) : f s.heap.objs.size = none ∧ T s.heap.objs.size = none ∧ s.heap.objs.size ∉ feet S := by
  refine ⟨?_, ?_, fun h => ?_⟩
  · rcases e : f s.heap.objs.size with _ | o
    · rfl
    · exact absurd (Heap.lt_size (x.fin _ _ e)) (Nat.lt_irrefl _)
  · rcases e : T s.heap.objs.size with _ | o
    · rfl
    · exact absurd (Heap.lt_size (x.tin _ _ e).1) (Nat.lt_irrefl _)
  · obtain ⟨p, hp, hb⟩ := mem_feet.mp h
    obtain ⟨o, ho⟩ := (x.cell p hp).lt _ hb
    exact absurd (Heap.lt_size ho) (Nat.lt_irrefl _)
theorem get?_push_lt (h : Heap) (o : Obj) {a : Addr} (e : a ≠ h.objs.size) : (h.push o).get? a = h.get? a := by
  unfold Heap.get? Heap.push
  cases h
  simp only [Array.getElem?_push]
  rw [if_neg e]
set_option tactic.hygienic true in
theorem St.pushF {o : Obj} {t : Nat} (x : St B f T S s) (ho : o.isFreed = false) : St B (f.put s.heap.objs.size o) T S { s with heap := s.heap.push o, toks := t } ∧ Fz.le f (f.put s.heap.objs.size o) := by
  obtain ⟨h1, h2, h3⟩ := x.fresh
  have l := Fz.le_put f s.heap.objs.size o h1
  refine ⟨⟨x.gens, x.os, fun a o' e => l _ _ (x.base a o' e), fun a o' e => ?_, fun a o' e => ⟨Heap.get?_push_of_some _ (x.tin a o' e).1, ?_⟩, fun p hp => ?_, fun b hb => ⟨?_, (x.dis b hb).2⟩, x.sep⟩, l⟩
  · unfold Fz.put at e
    split at e
    · rename_i q; subst q; cases e; exact Heap.get?_push_size _ ho
    · exact Heap.get?_push_of_some _ (x.fin a o' e)
  · rw [Fz.put_ne]; exact (x.tin a o' e).2
    exact ne_sn e h2
  · refine (x.cell p hp).keep l fun b hb => get?_push_lt _ _ ?_
    rintro rfl; exact h3 (mem_feet.mpr ⟨p, hp, hb⟩)
  · rw [Fz.put_ne]; exact (x.dis b hb).1
    rintro rfl; exact h3 hb
theorem St.pushC {o : Obj} {c : CO} {t : Nat} (x : St B f T S s) (ho : o.isFreed = false) (hf : foot s.heap.objs.size c = [s.heap.objs.size]) (hc : CIs B f (s.heap.push o) s.heap.objs.size c) :
    St B f T ((s.heap.objs.size, c) :: S) { s with heap := s.heap.push o, toks := t } := by
  obtain ⟨h1, h2, h3⟩ := x.fresh
  refine ⟨x.gens, x.os, x.base, fun a o' e => Heap.get?_push_of_some _ (x.fin a o' e), fun a o' e => ⟨Heap.get?_push_of_some _ (x.tin a o' e).1, (x.tin a o' e).2⟩, fun p hp => ?_, fun b hb => ?_, ?_⟩
  · rcases List.mem_cons.mp hp with rfl | hp
    · exact hc
    · refine (x.cell p hp).keep (Fz.le.refl f) fun b hb => get?_push_lt _ _ ?_
      rintro rfl; exact h3 (mem_feet.mpr ⟨p, hp, hb⟩)
  · rw [feet_cons, hf] at hb
    rcases List.mem_append.mp hb with hb | hb
    · simp at hb; subst hb; exact ⟨h1, h2⟩
    · exact x.dis b hb
  · rw [feet_cons, hf]
    exact List.nodup_cons.mpr ⟨h3, x.sep⟩
set_option tactic.hygienic true in
theorem St.freeze {a : Addr} {c : CO} {o : Obj} (x : St B f T ((a, c) :: S) s) (ho : s.heap.get? a = some o) : St B (f.put a o) T S s ∧ Fz.le f (f.put a o) := by
  have hd := x.dis a (by rw [feet_cons]; exact List.mem_append_left _ (foot_self a c))
  have l := Fz.le_put f a o hd.1
  have sep := x.sep
  rw [feet_cons] at sep
  have hS : a ∉ feet S := fun hb' => (List.nodup_append.mp sep).2.2 a (foot_self a c) a hb' rfl
  have y := x.sub (S' := S) (List.sublist_cons_self ..)
  refine ⟨⟨y.gens, y.os, fun a o' e => l _ _ (y.base a o' e), fun b o' e => ?_, fun b o' e => ⟨(y.tin b o' e).1, ?_⟩, fun p hp => (y.cell p hp).keep l fun _ _ => rfl, fun b hb => ⟨?_, (y.dis b hb).2⟩, y.sep⟩, l⟩
  · unfold Fz.put at e
    split at e
    · rename_i q; subst q; cases e; exact ho
    · exact y.fin b o' e
  · rw [Fz.put_ne]; exact (y.tin b o' e).2
    exact ne_sn e hd.2
  · rw [Fz.put_ne]; exact (y.dis b hb).1
    rintro rfl; exact hS hb
set_option tactic.hygienic true in
theorem St.park {a : Addr} {c : CO} {o : Obj} (x : St B f T ((a, c) :: S) s) (ho : s.heap.get? a = some o) : St B f (T.put a o) S s := by
  have hd := x.dis a (by rw [feet_cons]; exact List.mem_append_left _ (foot_self a c))
  have sep := x.sep
  rw [feet_cons] at sep
  have hS : a ∉ feet S := fun hb' => (List.nodup_append.mp sep).2.2 a (foot_self a c) a hb' rfl
  have y := x.sub (S' := S) (List.sublist_cons_self ..)
  refine ⟨y.gens, y.os, y.base, y.fin, fun b o' e => ?_, y.cell, fun b hb => ⟨(y.dis b hb).1, ?_⟩, y.sep⟩
  · unfold Fz.put at e
    split at e
    · rename_i q; subst q; cases e; exact ⟨ho, hd.1⟩
    · exact y.tin b o' e
  · rw [Fz.put_ne]; exact (y.dis b hb).2
    rintro rfl; exact hS hb
theorem St.unpark {a : Addr} {c : CO} {o : Obj} {f' : Fz} {s' : Shared} (hT : T a = none) (x : CIs B f s.heap a c) (ho : s.heap.get? a = some o) (hf : foot a c = [a]) (l : Fz.le f f') (y : St B f' (T.put a o) S' s') :
    St B f' T ((a, c) :: S') s' := by
  have ha := y.tin a o (Fz.put_self ..)
  refine ⟨y.gens, y.os, y.base, y.fin, fun b o' e => y.tin b o' ?_, fun p hp => ?_, fun b hb => ?_, ?_⟩
  · rw [Fz.put_ne]; exact e
    exact ne_sn e hT
  · rcases List.mem_cons.mp hp with rfl | hp
    · exact x.keep l fun b hb => by rw [hf] at hb; simp at hb; subst hb; rw [ha.1, ho]
    · exact y.cell p hp
  · rw [feet_cons, hf] at hb
    rcases List.mem_append.mp hb with hb | hb
    · simp at hb; subst hb; exact ⟨ha.2, hT⟩
    · have q := y.dis b hb
      refine ⟨q.1, ?_⟩
      have q2 := q.2
      unfold Fz.put at q2
      split at q2
      · cases q2
      · exact q2
  · rw [feet_cons, hf]
    refine List.nodup_cons.mpr ⟨fun hb => ?_, y.sep⟩
    have q := (y.dis a hb).2
    rw [Fz.put_self] at q; cases q
end
end Lend
namespace Lend
set_option genCtorIdx false
set_option genSizeOf false
set_option genInjectivity false
mutual
inductive RE where
  | const (v : CV) | loc (i : Nat) | glob (x : Str)
  | and (es : List RE) | or (es : List RE)
  | bin (op : Operator) (a b : RE) | cat (a b : RE) | neg (a : RE) | not (a : RE) | ite (c a b : RE)
  | list (own : Bool) (es : List RE) | tup (es : List RE) | dict (own : Bool) (ks : List Int) (vs : List RE)
  | cmp (op : CmpOp) (a b : RE) | cmp2 (op op' : CmpOp) (a b c : RE)
  | call (own : Bool) (f : RE) (args : List RE) | meth (own : Bool) (o : RE) (name : Str) (args : List RE)
  | attr (o : RE) (name : Str) | sub (o i : RE) | cut (o hi : RE)
  | lcomp (k : Nat) (elt : RE) (it : RE) (t : RT) (ifs : List RE) (gs : List RG)
  | dcomp (k : Nat) (key val : RE) (it : RE) (t : RT) (ifs : List RE)
  | stuck
inductive RT where
  | name (i : Nat) | tup (is : List Nat) | swap (is : List Nat) | attr (o : RE) (name : Str) | sub (o i : RE) | stuck
inductive RG where
  | mk (it : RE) (t : RT) (ifs : List RE)
end
inductive RS where
  | expr (e : RE) | asg (t : RT) (e : RE) | ret (e : Option RE) | ite (c : RE) (a b : List RS) | while (c : RE) (b : List RS) | for (t : RT) (it : RE) (b : List RS) | freeze (i : Nat) | stuck
mutual
noncomputable def toPy : CV → Option PyData
  | .none => some .none
  | .bool b => some (.bool b)
  | .int i => some (.int i)
  | .str s => if PyData.strOk s = true then some (.str s) else Option.none
  | .tup xs => (toPys xs).map .tuple
  | .flist xs => (toPys xs).map .list
  | _ => Option.none
noncomputable def toPys : List CV → Option (List PyData)
  | [] => some []
  | x :: xs => match toPy x, toPys xs with
    | some d, some ds => some (d :: ds)
    | _, _ => Option.none
end
noncomputable def atK {α : Type} : List (Int × α) → Int → Option α
  | [], _ => none
  | (j, x) :: r, k => if k = j then some x else atK r k
noncomputable def putK {α : Type} : List (Int × α) → Int → α → List (Int × α)
  | [], k, v => [(k, v)]
  | (j, x) :: r, k, v => if k = j then (j, v) :: r else (j, x) :: putK r k v
noncomputable def delK {α : Type} : List (Int × α) → Int → List (Int × α)
  | [], _ => []
  | (j, x) :: r, k => if k = j then r else (j, x) :: delK r k
noncomputable def eqP (a b : CV) : Option Bool := match toPy a, toPy b with
  | some d, some e => if min d.depth e.depth ≤ 100 then some (PyData.eqv d e) else none
  | _, _ => none
noncomputable def hits (veq : CV → CV → Option Bool) (kb : List (Int × CV)) : List (Int × CV) → Option Bool
  | [] => some true
  | (k, v) :: r => match atK kb k with
    | none => some false
    | some y => match veq v y, hits veq kb r with
      | some e, some b => some (e && b)
      | _, _ => none
noncomputable def dictEq (veq : CV → CV → Option Bool) (ka kb : List (Int × CV)) : Option Bool := if ka.length = kb.length then hits veq kb ka else some false
noncomputable def eq2 (a b : CV) : Option Bool := match a, b with
  | .fdict x, .fdict y => dictEq eqP x y
  | a, b => eqP a b
noncomputable def view (S : Store) : CV → CV
  | .loc a => (match lk S a with
    | some (.list xs) => .flist xs
    | some (.dict kvs) => .fdict kvs
    | _ => .loc a)
  | x => x
noncomputable def eqW (S : Store) (a b : CV) : Option Bool := match view S a, view S b with
  | .fdict x, .fdict y => dictEq eq2 x y
  | .flist x, .flist y => if x.length = y.length then eqP (.flist x) (.flist y) else some false
  | x, y => eqP x y
noncomputable def isNone : CV → Option Bool
  | .none => some true
  | .raw _ => none
  | _ => some false
noncomputable def inW (S : Store) (x c : CV) : Option Bool := match view S c, x with
  | .fdict kvs, .int k => some (atK kvs k).isSome
  | .tup ys, x => (match toPy x, toPys ys with
    | some d, some ds => if min (PyData.depthAll ds) d.depth ≤ 100 then some (ds.any fun y => PyData.eqv y d) else none
    | _, _ => none)
  | .flist ys, x => (match toPy x, toPys ys with
    | some d, some ds => if min (PyData.depthAll ds) d.depth ≤ 100 then some (ds.any fun y => PyData.eqv y d) else none
    | _, _ => none)
  | _, _ => none
noncomputable def cmpV (op : CmpOp) (S : Store) (x y : CV) : Option Bool := match op with
  | .Eq => eqW S x y
  | .NotEq => (eqW S x y).map (!·)
  | .Lt => (match x, y with | .int a, .int b => some (decide (a < b)) | _, _ => none)
  | .LtE => (match x, y with | .int a, .int b => some (decide (a ≤ b)) | _, _ => none)
  | .Gt => (match x, y with | .int a, .int b => some (decide (a > b)) | _, _ => none)
  | .GtE => (match x, y with | .int a, .int b => some (decide (a ≥ b)) | _, _ => none)
  | .Is => (match y with | .none => isNone x | _ => none)
  | .IsNot => (match y with | .none => (isNone x).map (!·) | _ => none)
  | .In => inW S x y
  | .NotIn => (inW S x y).map (!·)
noncomputable def small : Nat := 100000
noncomputable def binI (op : Operator) (a b : Int) (S : Store) (Q : CV → Store → Prop) : Prop := match op with
  | .Add => Q (.int (a + b)) S
  | .Sub => Q (.int (a - b)) S
  | .Mult => IntMulOk a b ∧ Q (.int (a * b)) S
  | .FloorDiv => b ≠ 0 ∧ Builtin.divisionGoesByPylong a b = false ∧ Q (.int (a.fdiv b)) S
  | .Mod => b ≠ 0 ∧ Q (.int (a.fmod b)) S
  | .Pow => 0 ≤ b ∧ (Builtin.Int.intBits a : Int) * b ≤ 2 ^ 27 ∧ Q (.int (a ^ b.toNat)) S
  | _ => False
noncomputable def binL (op : Operator) (xs ys : List CV) (S : Store) (Q : CV → Store → Prop) : Prop := match op with
  | .Add => xs.length + ys.length ≤ small ∧ Q (.flist (xs ++ ys)) S
  | _ => False
noncomputable def binR (op : Operator) (xs : List CV) (k : Int) (S : Store) (Q : CV → Store → Prop) : Prop := match op with
  | .Mult => 0 ≤ k ∧ k < 100 ∧ xs.length ≤ 100 ∧ Q (.flist ((List.replicate k.toNat xs).flatten)) S
  | _ => False
noncomputable def binW (op : Operator) (x y : CV) (S : Store) (Q : CV → Store → Prop) : Prop := match x with
  | .int a => (match y with | .int b => binI op a b S Q | _ => False)
  | .flist xs => (match y with | .flist ys => binL op xs ys S Q | .int k => binR op xs k S Q | _ => False)
  | _ => False
noncomputable def truth : CV → Option Bool
  | .bool b => some b
  | _ => none
noncomputable def getI (o : CV) (k : Int) : Option CV := match o with
  | .fdict kvs => atK kvs k
  | .flist xs => if 0 ≤ k ∧ k ≤ 100000 then xs[k.toNat]? else none
  | .tup xs => if 0 ≤ k ∧ k ≤ 100000 then xs[k.toNat]? else none
  | .str s => if k = 0 then (match s.cps.toList with | c :: _ => some (.str ⟨#[c]⟩) | [] => none) else none
  | _ => none
noncomputable def refOf : Value → Option Addr
  | .ref a => some a
  | _ => none
noncomputable def getS (gd : Addr → Str → Option CV) (o : CV) (s : Str) : Option CV := match o with
  | .raw w => (refOf w).bind fun a => gd a s
  | _ => none
noncomputable def getItemV (gd : Addr → Str → Option CV) (S : Store) (o i : CV) : Option CV := match i with
  | .int k => getI (view S o) k
  | .str s => getS gd (view S o) s
  | _ => none
noncomputable def setItemW (o i v : CV) (S : Store) (Q : Store → Prop) : Prop := match o, i with
  | .loc a, .int k => (match lk S a with
    | some (.dict kvs) => kvs.length ≤ small ∧ Q (up S a (.dict (putK kvs k v)))
    | some (.list xs) => 0 ≤ k ∧ k.toNat < xs.length ∧ xs.length ≤ small ∧ Q (up S a (.list (xs.set k.toNat v)))
    | _ => False)
  | _, _ => False
noncomputable def lookN (attrs : List (Str × CV)) (x : Str) : Option CV := match attrs with
  | [] => none
  | (y, v) :: r => if x = y then some v else lookN r x
noncomputable def putN (attrs : List (Str × CV)) (x : Str) (v : CV) : List (Str × CV) := match attrs with
  | [] => [(x, v)]
  | (y, u) :: r => if x = y then (y, v) :: r else (y, u) :: putN r x v
noncomputable def isClean : CV → Bool
  | .raw _ => false
  | _ => true
structure Gl where
  fn : Addr → List CV → Store → (CV → Store → Prop) → Prop
  gl : Str → Option CV
  mt : Addr → Str → Option Addr
  atr : Addr → Str → Bool
  gd : Addr → Str → Option CV
noncomputable def getAttrV (G : Gl) (S : Store) (o : CV) (name : Str) : Option CV := match o with
  | .loc a => (match lk S a with
    | some (.inst C _ attrs) => if G.atr C name = true then (match lookN attrs name with | some v => if isClean v = true then some v else none | none => none) else none
    | _ => none)
  | _ => none
noncomputable def setAttrW (G : Gl) (o : CV) (name : Str) (v : CV) (S : Store) (Q : Store → Prop) : Prop := match o with
  | .loc a => (match lk S a with
    | some (.inst C d attrs) => G.atr C name = true ∧ attrs.length ≤ 100 ∧ Q (up S a (.inst C d (putN attrs name v)))
    | _ => False)
  | _ => False
noncomputable def newDictW (own : Bool) (kvs : List (Int × CV)) (S : Store) (Q : CV → Store → Prop) : Prop :=
  if own = true then ∀ b, lk S b = none → (∀ p ∈ S, p.1 ≠ b) → Q (.loc b) ((b, .dict kvs) :: S) else Q (.fdict kvs) S
noncomputable def newListW (own : Bool) (xs : List CV) (S : Store) (Q : CV → Store → Prop) : Prop :=
  if own = true then ∀ b, lk S b = none → (∀ p ∈ S, p.1 ≠ b) → Q (.loc b) ((b, .list xs) :: S) else Q (.flist xs) S
noncomputable def pairsOf : List CV → Option (List (Int × CV))
  | [] => some []
  | .tup [.int k, v] :: r => (pairsOf r).map ((k, v) :: ·)
  | _ :: _ => none
noncomputable def mergeK (acc : List (Int × CV)) : List (Int × CV) → List (Int × CV)
  | [] => acc
  | (k, v) :: r => mergeK (putK acc k v) r
noncomputable def insI (x : Int) : List Int → List Int
  | [] => [x]
  | y :: r => if x ≤ y then x :: y :: r else y :: insI x r
noncomputable def sortI : List Int → List Int
  | [] => []
  | x :: r => insI x (sortI r)
noncomputable def rangeL (a : Int) : Nat → List CV
  | 0 => []
  | n + 1 => .int a :: rangeL (a + 1) n
noncomputable def typeCallW (own : Bool) (t : String) (args : List CV) (S : Store) (Q : CV → Store → Prop) : Prop :=
  if t = "int" then (match args with
    | [.int a] => Q (.int a) S
    | [.bool b] => Q (.int (if b = true then 1 else 0)) S
    | _ => False)
  else if t = "range" then (match args with
    | [.int b] => -(10 ^ 6) ≤ b ∧ b ≤ 10 ^ 6 ∧ Q (.rng 0 b) S
    | [.int a, .int b] => -(10 ^ 6) ≤ a ∧ a ≤ 10 ^ 6 ∧ -(10 ^ 6) ≤ b ∧ b ≤ 10 ^ 6 ∧ Q (.rng a b) S
    | _ => False)
  else if t = "dict" then (match args with
    | [x] => (match view S x with
      | .fdict kvs => kvs.length ≤ small ∧ newDictW own kvs S Q
      | .flist xs => xs.length ≤ small ∧ (match pairsOf xs with | some kvs => newDictW own (mergeK [] kvs) S Q | none => False)
      | _ => False)
    | _ => False)
  else if t = "list" then (match args with
    | [x] => (match view S x with
      | .flist xs => xs.length ≤ small ∧ newListW own xs S Q
      | _ => False)
    | _ => False)
  else if t = "tuple" then (match args with
    | [x] => (match view S x with
      | .flist xs => xs.length ≤ small ∧ Q (.tup xs) S
      | _ => False)
    | _ => False)
  else False
noncomputable def lenV (S : Store) (x : CV) : Option Nat := match view S x with
  | .flist xs => some xs.length
  | .tup xs => some xs.length
  | .fdict kvs => some kvs.length
  | _ => none
noncomputable def fnCallW (id : String) (args : List CV) (S : Store) (Q : CV → Store → Prop) : Prop :=
  if id = "len" then (match args with
    | [x] => (match lenV S x with | some n => n ≤ small ∧ Q (.int n) S | none => False)
    | _ => False)
  else if id = "max" then (match args with
    | [.int a, .int b] => Q (.int (if b > a then b else a)) S
    | _ => False)
  else if id = "sorted" then (match args with
    | [x] => (match view S x with
      | .fdict kvs => kvs.length < 64 ∧ Q (.flist ((sortI (kvs.map (·.1))).map .int)) S
      | _ => False)
    | _ => False)
  else False
noncomputable def callW (G : Gl) (own : Bool) (f : CV) (args : List CV) (S : Store) (Q : CV → Store → Prop) : Prop := match f with
  | .raw (.ref a) => G.fn a args S Q
  | .raw (.type t) => typeCallW own t args S Q
  | .raw (.builtin id) => fnCallW id args S Q
  | _ => False
noncomputable def dictMethW (own : Bool) (name : Str) (args : List CV) (a : Addr) (kvs : List (Int × CV)) (S : Store) (Q : CV → Store → Prop) : Prop :=
  if name = Str.ofString "get" then (match args with
    | [.int k] => Q ((atK kvs k).getD .none) S
    | [.int k, d] => Q ((atK kvs k).getD d) S
    | [.none] => Q .none S
    | _ => False)
  else if name = Str.ofString "pop" then (match args with
    | [.int k, d] => (match atK kvs k with
      | some v => kvs.length ≤ small ∧ Q v (up S a (.dict (delK kvs k)))
      | none => Q d S)
    | [.none, d] => Q d S
    | _ => False)
  else if name = Str.ofString "setdefault" then (match args with
    | [.int k, d] => kvs.length ≤ small ∧ (match atK kvs k with
      | some v => Q v S
      | none => Q d (up S a (.dict (putK kvs k d))))
    | _ => False)
  else False
noncomputable def listMethW (name : Str) (args : List CV) (a : Addr) (xs : List CV) (S : Store) (Q : CV → Store → Prop) : Prop :=
  if name = Str.ofString "append" then (match args with
    | [x] => xs.length ≤ small ∧ Q .none (up S a (.list (xs ++ [x])))
    | _ => False)
  else if name = Str.ofString "pop" then (match args with
    | [] => (match xs.getLast? with
      | some x => xs.length ≤ small ∧ Q x (up S a (.list xs.dropLast))
      | none => False)
    | _ => False)
  else if name = Str.ofString "extend" then (match args with
    | [.flist ys] => xs.length + ys.length ≤ small ∧ Q .none (up S a (.list (xs ++ ys)))
    | _ => False)
  else False
noncomputable def methW (G : Gl) (own : Bool) (o : CV) (name : Str) (args : List CV) (S : Store) (Q : CV → Store → Prop) : Prop := match o with
  | .loc a => (match lk S a with
    | some (.list xs) => listMethW name args a xs S Q
    | some (.dict kvs) => dictMethW own name args a kvs S Q
    | some (.inst C _ _) => (match G.mt C name with
      | some fa => G.fn fa (.loc a :: args) S Q
      | none => False)
    | _ => False)
  | .fdict kvs => if name = Str.ofString "get" then (match args with
    | [.int k] => Q ((atK kvs k).getD .none) S
    | [.int k, d] => Q ((atK kvs k).getD d) S
    | [.none] => Q .none S
    | _ => False) else False
  | _ => False
noncomputable def stays (S : Store) (x : CV) (S' : Store) : Prop := match x with
  | .loc a => lk S' a = lk S a
  | _ => True
noncomputable abbrev Rho := List (Option CV)
noncomputable def setAll : Rho → List Nat → List CV → Rho
  | ρ, i :: is, x :: xs => setAll (ρ.set i (some x)) is xs
  | ρ, _, _ => ρ
noncomputable def unpackV (S : Store) (x : CV) (n : Nat) : Option (List CV) := match view S x with
  | .flist xs => if xs.length = n then some xs else none
  | .tup xs => if xs.length = n then some xs else none
  | _ => none
inductive Fl where
  | next | ret (v : CV)
noncomputable def forW (g : Store → Prop) (body : CV → Rho → Store → (Fl → Rho → Store → Prop) → Prop) : List CV → Rho → Store → (Fl → Rho → Store → Prop) → Prop
  | [], ρ, S, Q => Q .next ρ S
  | x :: xs, ρ, S, Q => body x ρ S fun fl ρ' S' => match fl with
    | .next => g S' ∧ forW g body xs ρ' S' Q
    | .ret v => Q (.ret v) ρ' S'
noncomputable def compW {α : Type} (g : Store → Prop) (body : CV → Rho → Store → α → (Rho → Store → α → Prop) → Prop) : List CV → Rho → Store → α → (Rho → Store → α → Prop) → Prop
  | [], ρ, S, acc, Q => Q ρ S acc
  | x :: xs, ρ, S, acc, Q => body x ρ S acc fun ρ' S' acc' => g S' ∧ compW g body xs ρ' S' acc' Q
noncomputable def whileW (test : Rho → Store → (Bool → Store → Prop) → Prop) (body : Rho → Store → (Fl → Rho → Store → Prop) → Prop) (Q : Fl → Rho → Store → Prop) : Nat → Rho → Store → Prop
  | 0, _, _ => False
  | n + 1, ρ, S => test ρ S fun b S1 => if b = true then body ρ S1 (fun fl ρ' S' => match fl with
      | .next => whileW test body Q n ρ' S'
      | .ret v => Q (.ret v) ρ' S') else Q .next ρ S1
noncomputable def nth : Rho → Nat → Option CV
  | [], _ => none
  | v :: _, 0 => v
  | _ :: l, n + 1 => nth l n
theorem nth_get {ρ : Rho} {i : Nat} {v : CV} (h : nth ρ i = some v) : ρ[i]? = some (some v) := by
  induction ρ generalizing i with
  | nil => cases i <;> cases h
  | cons x l ih =>
    cases i with
    | zero => simp only [nth] at h; rw [h]; rfl
    | succ n => exact ih h
noncomputable def freezeW (ρ : Rho) (i : Nat) (S : Store) (Q : Rho → Store → Prop) : Prop := match nth ρ i with
  | some (.loc a) => (match lk S a with
    | some (.list xs) => Q (ρ.set i (some (.flist xs))) (rm S a)
    | some (.dict kvs) => Q (ρ.set i (some (.fdict kvs))) (rm S a)
    | _ => False)
  | _ => False
end Lend
namespace Lend
structure Room (n : Nat) (A : Around) : Prop where
  h : A.handled = none
  d : A.depth + n < recursionLimit
  u : A.units + 12 * n + 300 < cLine
theorem Room.le {n m : Nat} {A : Around} (R : Room n A) (h : m ≤ n) : Room m A := ⟨R.h, by have := R.d; omega, by have := R.u; omega⟩
theorem Room.in1 {n : Nat} {A : Around} (R : Room (n + 1) A) : Room n A.in1 := ⟨R.h, by have := R.d; show A.depth + n < _; omega, by have := R.u; show A.units + 1 + 12 * n + 300 < _; omega⟩
theorem Room.units {n : Nat} {A : Around} (R : Room n A) : A.units < cLine := by have := R.u; omega
noncomputable abbrev noE : Value → Shared → Prop := fun _ _ => False
inductive Pst (B : Bs) (f T : Fz) (F : Store) (Q : CV → Store → Prop) (v : Value) (s' : Shared) : Prop
  | mk (f' : Fz) (x : CV) (S' : Store) (l : Fz.le f f') (X : St B f' T (F ++ S') s') (va : VIs B f' v x) (q : Q x S') : Pst B f T F Q v s'
theorem Pst.elim {B : Bs} {f T : Fz} {F : Store} {Q : CV → Store → Prop} {v : Value} {s : Shared} {P : Prop} (p : Pst B f T F Q v s) (k : ∀ f' x S', Fz.le f f' → St B f' T (F ++ S') s → VIs B f' v x → Q x S' → P) : P := by
  obtain ⟨f', x, S', a, b, c, d⟩ := p; exact k f' x S' a b c d
theorem Pst.mono {B : Bs} {f g T : Fz} {F : Store} {Q Q' : CV → Store → Prop} (l : Fz.le f g) (h : ∀ x S, Q x S → Q' x S) {v s} (p : Pst B g T F Q v s) : Pst B f T F Q' v s := by
  obtain ⟨f', x, S', l', X, v, q⟩ := p; exact ⟨f', x, S', l.trans l', X, v, h _ _ q⟩
noncomputable def EOk (B : Bs) (n : Nat) (F S : Store) (t : Sem Value) (Q : CV → Store → Prop) : Prop :=
  ∀ A f T s, Room n A → St B f T (F ++ S) s → wpAny (model B.prog B.w) A t (Pst B f T F Q) noE s
section
variable {B : Bs} {n : Nat} {F S : Store} {Q Q' : CV → Store → Prop} {A : Around} {f T : Fz} {s : Shared}
theorem EOk.mono {t : Sem Value} (h : EOk B n F S t Q) (k : ∀ x S, Q x S → Q' x S) : EOk B n F S t Q' := fun A f T s R X =>
  wpAny_mono (h A f T s R X) (fun _ _ p => p.mono (Fz.le.refl f) k) fun _ _ e => e
theorem pst_int {i : Int} {t : Tok} {k : Nat} (X : St B f T (F ++ S) s) (h : Q (.int i) S) : Pst B f T F Q (.int i t) { s with toks := k } := ⟨f, _, S, Fz.le.refl f, X.toks k, .int i t, h⟩
theorem pst_of {v : Value} {x : CV} {k : Nat} (X : St B f T (F ++ S) s) (hv : VIs B f v x) (h : Q x S) : Pst B f T F Q v { s with toks := k } := ⟨f, _, S, Fz.le.refl f, X.toks k, hv, h⟩
theorem pst_flist {vs : List Value} {xs : List CV} {k : Nat} (X : St B f T (F ++ S) s) (hv : VsIs B f vs xs) (h : Q (.flist xs) S) :
    Pst B f T F Q (.ref s.heap.objs.size) { s with heap := s.heap.push (lobj vs.toArray 0), toks := k } := by
  obtain ⟨Y, l⟩ := X.pushF (o := lobj vs.toArray 0) (t := k) rfl
  exact ⟨_, _, S, l, Y, .flist (Fz.put_self ..) (by simpa using hv.mono l), h⟩
theorem pst_tup {vs : List Value} {xs : List CV} {k : Nat} (X : St B f T (F ++ S) s) (hv : VsIs B f vs xs) (h : Q (.tup xs) S) :
    Pst B f T F Q (.ref s.heap.objs.size) { s with heap := s.heap.push { cls := .type "tuple", data := .seq vs.toArray }, toks := k } := by
  obtain ⟨Y, l⟩ := X.pushF (o := { cls := .type "tuple", data := .seq vs.toArray }) (t := k) rfl
  exact ⟨_, _, S, l, Y, .tup (Fz.put_self ..) rfl rfl (by simpa using hv.mono l), h⟩
theorem lk_fresh {a : Addr} (h : a ∉ feet (F ++ S)) : lk S a = none ∧ ∀ p ∈ S, p.1 ≠ a := by
  have h2 : ∀ p ∈ S, p.1 ≠ a := fun p hp e => h (by rw [feet_append]; exact List.mem_append_right _ (mem_feet.mpr ⟨p, hp, e ▸ foot_self ..⟩))
  refine ⟨?_, h2⟩
  rcases e : lk S a with _ | c
  · rfl
  · exact absurd rfl (h2 _ (lk_mem e))
theorem pst_nlist {own : Bool} {vs : List Value} {xs : List CV} {k : Nat} (X : St B f T (F ++ S) s) (hv : VsIs B f vs xs) (h : newListW own xs S Q) :
    Pst B f T F Q (.ref s.heap.objs.size) { s with heap := s.heap.push (lobj vs.toArray 0), toks := k } := by
  unfold newListW at h
  split at h
  · have fr := X.fresh
    have Y := X.pushC (o := lobj vs.toArray 0) (c := .list xs) (t := k) rfl rfl ⟨vs.toArray, 0, Heap.get?_push_size _ rfl, by simpa using hv⟩
    obtain ⟨h1, h2⟩ := lk_fresh fr.2.2
    exact ⟨f, _, _, Fz.le.refl f, Y.perm List.perm_middle.symm, .loc _, h _ h1 h2⟩
  · exact pst_flist X hv h
theorem VsIs.replicate {vs : List Value} {xs : List CV} (h : VsIs B f vs xs) : ∀ k : Nat, VsIs B f (List.replicate k vs).flatten (List.replicate k xs).flatten
  | 0 => .nil
  | k + 1 => by rw [List.replicate_succ, List.replicate_succ, List.flatten_cons, List.flatten_cons]; exact h.append (VsIs.replicate h k)
theorem foldl_app (vs : Array Value) : ∀ (k : Nat) (acc : Array Value), (List.foldl (fun x1 x2 => x1 ++ x2) acc (List.replicate k vs)) = acc ++ ((List.replicate k vs.toList).flatten).toArray
  | 0, acc => by simp
  | k + 1, acc => by
    rw [List.replicate_succ, List.foldl_cons, foldl_app vs k, List.replicate_succ, List.flatten_cons]
    apply Array.toList_inj.mp
    simp
theorem sizeL : sizeLine = 16777216 := rfl
theorem add_ll {l b : Addr} {vs ws : Array Value} {n n2 : Nat} {R : Value → Shared → Prop} (ho : s.heap.get? l = some (lobj vs n)) (ho2 : s.heap.get? b = some (lobj ws n2)) (hsz : vs.size + ws.size ≤ sizeLine)
    (h : R (.ref s.heap.objs.size) { s with heap := s.heap.push (lobj (vs ++ ws) 0) }) : wpAny (model B.prog B.w) A (binaryOp .Add (.ref l) (.ref b)) R noE s := by
  refine concat_meets ⟨_, ho, rfl⟩ ⟨_, ho2, rfl⟩ noFill_list_add seq_list_add PySem.F.slot_list_add PySem.F.entry_list_add (PySem.F.args_list_add_2 _ _) (list_addW l b vs ws n n2 none none #[] #[] hsz) ⟨ho, ho2, ?_⟩
  exact h
theorem mul_li {l : Addr} {vs : Array Value} {n : Nat} {x : Int} {u : Tok} {R : Value → Shared → Prop} (hl : s.heap.get? l = some (lobj vs n)) (hlo : -(2 ^ 63 : Int) ≤ x) (hhi : x < 2 ^ 63) (hsz : vs.size * x.toNat ≤ 2 ^ 24)
    (h : R (.ref s.heap.objs.size) { s with heap := s.heap.push (lobj (List.foldl (fun x1 x2 => x1 ++ x2) #[] (List.replicate (if vs.isEmpty = true then 0 else x.toNat) vs)) 0) }) :
    wpAny (model B.prog B.w) A (binaryOp .Mult (.ref l) (.int x u)) R noE s :=
  wpAny_binaryOp_repeat_ref (T := "list") (U := "int") (by decide) ⟨_, hl, rfl⟩ (fun s' => typeIs_int s' x u) noFill_list_mul F.fills_int_mul F.slot_int_rmul repeat_list F.slot_int_index.lookup
    (call_meets F.slot_int_rmul (typeIs_int s x u) F.entry_int_rmul (F.args_int_rmul_2 _ _) (int___rmul___int_list x u l vs n)
      ⟨hl, rfl, ⟨_, hl, rfl⟩, call_meets F.slot_list_mul ⟨_, hl, rfl⟩ F.entry_list_mul (F.args_list_mul_2 _ _)
        (AutoListH.list___mul___list_int_3 l vs n x u (by simp [Builtin.List.listFitsIndex]; omega) (by omega) (by simp [Builtin.List.listTooLong, sizeLine]; omega))
        ⟨hl, h⟩⟩)
theorem bin_int {op : Operator} {a b : Int} {t u : Tok} (h : binI op a b S Q) (X : St B f T (F ++ S) s) : wpAny (model B.prog B.w) A (binaryOp op (.int a t) (.int b u)) (Pst B f T F Q) noE s := by
  rcases op <;> first | exact False.elim h | skip
  · exact P.add_int (pst_int X h)
  · exact P.sub_int (pst_int X h)
  · exact P.mul_int (pst_int X h.2) h.1
  · exact mod_int' h.1 (pst_int X h.2)
  · exact pow_int h.1 h.2.1 (pst_int X h.2.2)
  · exact floordiv_int h.1 (pst_int X h.2.2) (.inl h.2.1)
theorem bin_list {op : Operator} {a b : Value} {xs ys : List CV} (h : binL op xs ys S Q) (X : St B f T (F ++ S) s) (ha : VIs B f a (.flist xs)) (hb : VIs B f b (.flist ys)) : wpAny (model B.prog B.w) A (binaryOp op a b) (Pst B f T F Q) noE s := by
  rcases op <;> first | exact False.elim h | skip
  obtain ⟨_, vs1, _, rfl, e1, v1⟩ := ha.inv
  obtain ⟨_, vs2, _, rfl, e2, v2⟩ := hb.inv
  have l1 := v1.length
  have l2 := v2.length
  refine add_ll (X.fin _ _ e1) (X.fin _ _ e2) ?_ ?_
  · rw [Array.length_toList] at l1 l2
    rw [l1, l2, sizeL]; exact Nat.le_trans h.1 (by decide)
  · have := pst_flist (k := s.toks) X (v1.append v2) h.2
    have e : vs1 ++ vs2 = (vs1.toList ++ vs2.toList).toArray := by apply Array.toList_inj.mp; simp
    rw [e]; exact this
theorem bin_rep {op : Operator} {a b : Value} {xs : List CV} {k : Int} (h : binR op xs k S Q) (X : St B f T (F ++ S) s) (ha : VIs B f a (.flist xs)) (hb : VIs B f b (.int k)) : wpAny (model B.prog B.w) A (binaryOp op a b) (Pst B f T F Q) noE s := by
  rcases op <;> first | exact False.elim h | skip
  obtain ⟨_, vs, _, rfl, e1, v1⟩ := ha.inv
  obtain ⟨_, rfl⟩ := hb.inv
  have l1 := v1.length
  obtain ⟨h1, h2, h3, h4⟩ := h
  rw [Array.length_toList] at l1
  refine mul_li (X.fin _ _ e1) (Int.le_trans (by decide) h1) (Int.lt_trans h2 (by decide)) ?_ ?_
  · rw [l1]
    have : xs.length * k.toNat ≤ 100 * 100 := Nat.mul_le_mul h3 (by omega)
    exact Nat.le_trans this (by decide)
  · rw [foldl_app]
    have := pst_flist (k := s.toks) X (v1.replicate k.toNat) h4
    by_cases he : vs.isEmpty = true
    · have hv : vs = #[] := by simpa using he
      subst hv
      simp at v1
      cases v1
      have e : (List.replicate k.toNat ([] : List Value)).flatten = [] := by simp
      rw [e] at this
      simpa using this
    · rw [if_neg he]
      simpa using this
theorem bin_rule {op : Operator} {a b : Value} {x y : CV} (h : binW op x y S Q) (X : St B f T (F ++ S) s) (ha : VIs B f a x) (hb : VIs B f b y) :
    wpAny (model B.prog B.w) A (binaryOp op a b) (Pst B f T F Q) noE s := by
  rcases x <;> first | exact False.elim h | skip
  · rcases y <;> first | exact False.elim h | skip
    obtain ⟨_, rfl⟩ := ha.inv; obtain ⟨_, rfl⟩ := hb.inv
    exact bin_int h X
  · rcases y <;> first | exact False.elim h | skip
    · exact bin_rep h X ha hb
    · exact bin_list h X ha hb
end
end Lend
namespace Lend
section
variable {B : Bs} {f : Fz} {h : Heap}
set_option tactic.hygienic true in
mutual
theorem reads_of (hf : ∀ a o, f a = some o → h.get? a = some o) : ∀ (x : CV) {v : Value} {d : PyData}, VIs B f v x → toPy x = some d → d.canLay0 = true ∧ ∃ as, Reads h v d as
  | .none, _, _, hv, e => by cases hv.inv; cases e; exact ⟨rfl, _, .none⟩
  | .bool b, _, _, hv, e => by cases hv.inv; cases e; exact ⟨rfl, _, .bool b⟩
  | .int i, _, _, hv, e => by obtain ⟨t, rfl⟩ := hv.inv; cases e; exact ⟨rfl, _, .int i t⟩
  | .str s, _, _, hv, e => by
    obtain ⟨t, rfl⟩ := hv.inv
    unfold toPy at e
    split at e
    · rename_i hs; cases e; exact ⟨hs, _, .str s t⟩
    · exact none_some e
  | .tup xs, _, _, hv, e => by
    obtain ⟨_, _, _, _, rfl, h1, h2, h3, h4⟩ := hv.inv
    unfold toPy at e
    obtain ⟨ds, hd, rfl⟩ := Option.map_eq_some_iff.mp e
    obtain ⟨hc, as, r⟩ := readss_of hf xs h4 hd
    exact ⟨hc, _, .tuple (hf _ _ h1) h2 h3 r⟩
  | .flist xs, _, _, hv, e => by
    obtain ⟨_, _, _, rfl, h1, h4⟩ := hv.inv
    unfold toPy at e
    obtain ⟨ds, hd, rfl⟩ := Option.map_eq_some_iff.mp e
    obtain ⟨hc, as, r⟩ := readss_of hf xs h4 hd
    exact ⟨hc, _, .list (hf _ _ h1) rfl rfl r⟩
  | .fdict _, _, _, _, e => none_some e
  | .loc _, _, _, _, e => none_some e
  | .raw _, _, _, _, e => none_some e
  | .rng _ _, _, _, _, e => none_some e
theorem readss_of (hf : ∀ a o, f a = some o → h.get? a = some o) : ∀ (xs : List CV) {vs : List Value} {ds : List PyData}, VsIs B f vs xs → toPys xs = some ds → PyData.canLayAll0 ds = true ∧ ∃ as, ReadsAll h vs ds as
  | [], _, _, hv, e => by cases hv.inv; cases e; exact ⟨rfl, _, .nil⟩
  | x :: xs, _, _, hv, e => by
    obtain ⟨_, _, rfl, a, r⟩ := hv.inv
    unfold toPys at e
    rcases hd : toPy x with _ | d
    · rw [hd] at e; exact none_some e
    · rcases hds : toPys xs with _ | ds
      · rw [hd, hds] at e; exact none_some e
      · rw [hd, hds] at e
        cases e
        obtain ⟨c1, as, r1⟩ := reads_of hf x a hd
        obtain ⟨c2, bs, r2⟩ := readss_of hf xs r hds
        exact ⟨by unfold PyData.canLayAll0; rw [c1, c2]; rfl, _, .cons r1 r2⟩
end
end
inductive TupAtH (B : Bs) (f : Fz) (h : Heap) (a : Addr) (xs : List CV) : Prop
  | mk (vs : Array Value) (t : h.IsTuple a vs) (q : VsIs B f vs.toList xs) : TupAtH B f h a xs
inductive RefTo (P : Addr → Prop) (v : Value) : Prop
  | mk (a : Addr) (e : v = .ref a) (h : P a) : RefTo P v
section
variable {B : Bs} {n : Nat} {F S : Store} {Q Q' : CV → Store → Prop} {A : Around} {f T : Fz} {s : Shared}
set_option tactic.hygienic true in
theorem view_flist {v : Value} {x : CV} {xs : List CV} (X : St B f T (F ++ S) s) (hv : VIs B f v x) (e : view S x = .flist xs) : RefTo (fun a => SeqAtH B f s.heap a xs) v := by
  unfold view at e
  split at e
  · obtain ⟨_, rfl⟩ := hv.inv
    split at e
    · rename_i a ys hl
      injection e with e; subst e
      obtain ⟨vs, n, h1, h2⟩ := X.get hl
      exact ⟨_, rfl, vs, n, h1, h2⟩
    · cases e
    · cases e
  · subst e
    obtain ⟨_, _, _, rfl, h1, h2⟩ := hv.inv
    exact ⟨_, rfl, _, _, X.fin _ _ h1, h2⟩
set_option tactic.hygienic true in
theorem view_fdict {v : Value} {x : CV} {kvs : List (Int × CV)} (X : St B f T (F ++ S) s) (hv : VIs B f v x) (e : view S x = .fdict kvs) : RefTo (fun a => DictAtH B f s.heap a kvs) v := by
  unfold view at e
  split at e
  · obtain ⟨_, rfl⟩ := hv.inv
    split at e
    · cases e
    · rename_i a ys hl
      injection e with e; subst e
      exact ⟨_, rfl, X.get hl⟩
    · cases e
  · subst e
    obtain ⟨_, _, _, rfl, h1, h2, h3, h4⟩ := hv.inv
    exact ⟨_, rfl, h2, _, Heap.dictOf_iff.mpr ⟨_, X.fin _ _ h1, h3⟩, h4⟩
theorem view_other {v : Value} {x y : CV} (hv : VIs B f v x) (e : view S x = y) (h1 : ∀ xs, y ≠ .flist xs) (h2 : ∀ kvs, y ≠ .fdict kvs) : VIs B f v y := by
  unfold view at e
  split at e
  · split at e
    · exact absurd e.symm (h1 _)
    · exact absurd e.symm (h2 _)
    · rw [← e]; exact hv
  · rw [← e]; exact hv
theorem view_tup {v : Value} {x : CV} {xs : List CV} (X : St B f T (F ++ S) s) (hv : VIs B f v x) (e : view S x = .tup xs) : RefTo (fun a => TupAtH B f s.heap a xs) v := by
  have := view_other hv e (fun _ h => by cases h) (fun _ h => by cases h)
  obtain ⟨_, _, _, _, rfl, h1, h2, h3, h4⟩ := this.inv
  exact ⟨_, rfl, _, ⟨_, X.fin _ _ h1, h2, _, h3⟩, h4⟩
theorem view_reads {v : Value} {x : CV} {d : PyData} (X : St B f T (F ++ S) s) (hv : VIs B f v x) (e : toPy (view S x) = some d) : d.canLay0 = true ∧ ∃ as, Reads s.heap v d as := by
  cases hx : view S x with
  | flist xs =>
    obtain ⟨a, rfl, vs, n, h1, h2⟩ := view_flist X hv hx
    rw [hx] at e
    unfold toPy at e
    obtain ⟨ds, hd, rfl⟩ := Option.map_eq_some_iff.mp e
    obtain ⟨hc, as, r⟩ := readss_of X.fin _ h2 hd
    exact ⟨hc, _, .list h1 rfl rfl r⟩
  | fdict kvs => rw [hx] at e; cases e
  | none => exact reads_of X.fin _ (view_other hv hx (fun _ h => by cases h) (fun _ h => by cases h)) (hx ▸ e)
  | bool b => exact reads_of X.fin _ (view_other hv hx (fun _ h => by cases h) (fun _ h => by cases h)) (hx ▸ e)
  | int i => exact reads_of X.fin _ (view_other hv hx (fun _ h => by cases h) (fun _ h => by cases h)) (hx ▸ e)
  | str i => exact reads_of X.fin _ (view_other hv hx (fun _ h => by cases h) (fun _ h => by cases h)) (hx ▸ e)
  | tup i => exact reads_of X.fin _ (view_other hv hx (fun _ h => by cases h) (fun _ h => by cases h)) (hx ▸ e)
  | loc i => rw [hx] at e; cases e
  | raw i => rw [hx] at e; cases e
  | rng a b => rw [hx] at e; cases e
theorem Room.deep {n m : Nat} {A : Around} (R : Room n A) (h : m ≤ 150) : A.units + m < cLine := by have := R.u; omega
theorem Room.deep1 {n m : Nat} {A : Around} (R : Room n A) (h : m ≤ 150) : A.in1.units + m < cLine := by have := R.u; show A.units + 1 + m < _; omega
theorem pairs_any {p p' : Program} {w w' : World} {es : List DictEntry} {kvs : List (Int × Value)} (h : Pairs (intKind p w) es kvs) : Pairs (intKind p' w') es kvs := by
  induction h with
  | nil => exact .nil
  | cons a b _ ih => exact .cons a b ih
theorem pairs_unique {p : Program} {w : World} {es : List DictEntry} {va vb : List (Int × Value)} (h : Pairs (intKind p w) es va) (k : Pairs (intKind p w) es vb) : va = vb := by
  induction h generalizing vb with
  | nil => cases k; rfl
  | @cons en kv es' kvs' x1 x2 _ ih =>
    cases k with
    | @cons _ kv2 _ kvs2 y1 y2 y3 =>
      have : kv = kv2 := by
        obtain ⟨a1, a2⟩ := kv
        obtain ⟨b1, b2⟩ := kv2
        have := (intKind p w).inj _ _ _ x1 y1
        simp only at x2 y2 this ⊢
        rw [← x2, ← y2, this]
      rw [this, ih y3]
theorem dictOf_any {p p' : Program} {w w' : World} {h : Heap} {a : Addr} {kvs : List (Int × Value)} (x : h.DictOf (intKind p w) a kvs) : h.DictOf (intKind p' w') a kvs := by
  obtain ⟨o, es, ep, h1, h2, h3, h4, h5, h6⟩ := x
  exact ⟨o, es, ep, h1, h2, h3, h4, pairs_any h5, h6⟩
inductive KAt (B : Bs) (f : Fz) (o : Option Value) (p : Option CV) : Prop
  | no (q1 : o = none) (q2 : p = none) : KAt B f o p
  | here (v : Value) (x : CV) (q1 : o = some v) (q2 : p = some x) (q3 : VIs B f v x) : KAt B f o p
theorem kis_at {vkvs : List (Int × Value)} {kvs : List (Int × CV)} (h : KIs B f vkvs kvs) (k : Int) :
    KAt B f (valueAt vkvs k) (atK kvs k) := by
  induction kvs generalizing vkvs with
  | nil => obtain rfl := h.inv; exact .no rfl rfl
  | cons p r ih =>
    obtain ⟨j, x⟩ := p
    obtain ⟨v, r', rfl, a, b⟩ := h.inv
    have ih := ih b
    unfold atK
    unfold valueAt at ih ⊢
    by_cases e : k = j
    · subst e
      exact .here v x (by simp) (by simp) a
    · have e' : ¬ j = k := fun h => e h.symm
      simp only [List.find?_cons, e', decide_false, if_neg e]
      exact ih
set_option tactic.hygienic true in
theorem eqP_at {v y : Value} {a b : CV} {r : Bool} (hf : ∀ a o, f a = some o → s.heap.get? a = some o) (R : Room n A) (hv : VIs B f v a) (hy : VIs B f y b) (e : eqP a b = some r) : SeqAt.EqAt A s v y r := by
  unfold eqP at e
  split at e
  · rename_i d d' h1 h2
    split at e
    · rename_i hd
      cases e
      obtain ⟨c1, as, r1⟩ := reads_of hf _ hv h1
      obtain ⟨c2, bs, r2⟩ := reads_of hf _ hy h2
      exact SeqAt.eqAt_reads d d' A s v y as bs r1 r2 c1 c2 (R.deep (Nat.le_trans hd (by decide)))
    · cases e
  · cases e
set_option tactic.hygienic true in
theorem hits_at {veq : CV → CV → Option Bool} (hveq : ∀ {v y : Value} {a b : CV} {r : Bool}, VIs B f v a → VIs B f y b → veq a b = some r → SeqAt.EqAt A s v y r)
    {vb : List (Int × Value)} {kb : List (Int × CV)} (hb : KIs B f vb kb) : ∀ {ka : List (Int × CV)} {va : List (Int × Value)} {r : Bool}, KIs B f va ka → hits veq kb ka = some r → KeqHits A s vb va r
  | [], _, _, h, e => by obtain ⟨_, rfl⟩ := h.inv; cases e; exact .nil
  | (k, x) :: ka, _, r, h, e => by
    obtain ⟨_, _, rfl, a, rest⟩ := h.inv
    unfold hits at e
    rcases kis_at hb k with ⟨h1, h2⟩ | ⟨u, z, h1, h2, h3⟩
    · rw [h2] at e; cases e; exact .miss h1
    · rw [h2] at e
      dsimp only at e
      split at e
      · rename_i e1 b1 q1 q2
        cases e
        exact .hit h1 (hveq a h3 q1) (hits_at hveq hb rest q2)
      · cases e
set_option tactic.hygienic true in
theorem kis_unique {va : List (Int × Value)} {ka : List (Int × CV)} (hveq : ∀ {v : Value} {a b : CV} {r : Bool}, VIs B f v a → VIs B f v b → eqP a b = some r → r = true) (h1 : KIs B f va ka) (hn : (va.map (·.1)).Nodup)
    {kall : List (Int × CV)} {vall : List (Int × Value)} (hall : KIs B f vall kall) (hsub : ∀ p ∈ va, valueAt vall p.1 = some p.2) : ∀ {r : Bool}, hits eqP kall ka = some r → r = true := by
  induction ka generalizing va with
  | nil => intro r e; cases e; rfl
  | cons p ka ih =>
    intro r e
    cases h1 with
    | @cons k v x _ _ a rest =>
      unfold hits at e
      have hk := hsub (k, v) (.head _)
      rcases kis_at hall k with ⟨q1, q2⟩ | ⟨u, z, q1, q2, q3⟩
      · rw [hk] at q1; cases q1
      · rw [hk] at q1; cases q1
        rw [q2] at e
        dsimp only at e
        split at e
        · rename_i e1 b1 w1 w2
          cases e
          rw [hveq a q3 w1, ih rest (by simp at hn; simpa using hn.2) (fun p hp => hsub p (.tail _ hp)) w2]; rfl
        · cases e
set_option tactic.hygienic true in
theorem eqP_same {v : Value} {a b : CV} {r : Bool} (hf : ∀ a o, f a = some o → s.heap.get? a = some o) (hv : VIs B f v a) (hy : VIs B f v b) (e : eqP a b = some r) : r = true := by
  unfold eqP at e
  split at e
  · rename_i d d' h1 h2
    split at e
    · cases e
      obtain ⟨c1, as, r1⟩ := reads_of hf _ hv h1
      obtain ⟨c2, bs, r2⟩ := reads_of hf _ hy h2
      rw [SeqAt.Reads.unique d d' v as bs c1 r1 r2]
      exact SeqAt.eqv_refl d' c2
    · cases e
  · cases e
set_option tactic.hygienic true in
theorem eq2_at {v y : Value} {a b : CV} {r : Bool} (hf : ∀ a o, f a = some o → s.heap.get? a = some o) (R : Room (n + 1) A) (hv : VIs B f v a) (hy : VIs B f y b) (e : eq2 a b = some r) : SeqAt.EqAt A s v y r := by
  unfold eq2 at e
  split at e
  · rename_i ka kb
    obtain ⟨a1, o1, va, rfl, h1, h2, h3, h4⟩ := hv.inv
    obtain ⟨a2, o2, vb, rfl, k1, k2, k3, k4⟩ := hy.inv
    have d1 : s.heap.DictOf (intKind B.prog B.w) a1 va := Heap.dictOf_iff.mpr ⟨_, hf _ _ h1, h3⟩
    have d2 : s.heap.DictOf (intKind B.prog B.w) a2 vb := Heap.dictOf_iff.mpr ⟨_, hf _ _ k1, k3⟩
    unfold dictEq at e
    by_cases hne : a1 = a2
    · subst hne
      have : r = true := by
        rw [h1] at k1; cases k1
        have e12 : va = vb := by
          obtain ⟨es, ep, _, q2, q3⟩ := h3
          obtain ⟨es', ep', _, p2, p3⟩ := k3
          rw [q2] at p2; cases p2
          exact pairs_unique q3.2.1 p3.2.1
        subst e12
        rw [if_pos (by rw [← h4.length, ← k4.length])] at e
        obtain ⟨_, _, _, _, _, _, hn⟩ := h3
        refine kis_unique (fun p q e => eqP_same hf p q e) h4 hn k4 (fun p hp => ?_) e
        obtain ⟨i, hi⟩ := List.getElem?_of_mem hp
        exact valueAt_of_get hn (k := p.1) (v := p.2) hi
      subst this
      exact SeqAt.EqAt.same _
    · refine SeqAt.EqAt.of_refs hne fun prog w E Q hq => ?_
      have L1 := h4.length
      have L2 := k4.length
      split at e
      · rename_i hl
        have H := fun (A : Around) (R : Room n A) => hits_at (s := s) (A := A) (fun {v y a b r} => eqP_at hf R) k4 h4 e
        refine keq_eq (knd := intKind prog w) h2 k2 (dictOf_any d1) (dictOf_any d2) R.units (fun _ => H _ R.in1) ?_
        rw [show (va.length == vb.length) = true from by rw [L1, L2, hl]; simp]
        simpa using hq
      · rename_i hl
        cases e
        refine keq_eq (knd := intKind prog w) (r := false) h2 k2 (dictOf_any d1) (dictOf_any d2) R.units (fun q => absurd (by rw [← L1, ← L2]; exact q) hl) ?_
        simpa using hq
  · exact eqP_at hf (R.le (Nat.le_succ _)) hv hy e
theorem ne_of_sp {a b : Addr} {ka kb : List (Int × Value)} {r : Bool} {R : Value → Shared → Prop} (ha : (a == sysModules) = false) (hb : (b == sysModules) = false)
    (da : s.heap.DictOf (intKind B.prog B.w) a ka) (db : s.heap.DictOf (intKind B.prog B.w) b kb) (hu : A.units < cLine) (hits : ka.length = kb.length → KeqHits A.in1 s kb ka r) (e : Bool) (he : e = (ka.length == kb.length && r)) :
    (R (.bool e) s → wpAny (model B.prog B.w) A (compareOp .Eq (.ref a) (.ref b)) R noE s) ∧ (R (.bool (!e)) s → wpAny (model B.prog B.w) A (compareOp .NotEq (.ref a) (.ref b)) R noE s) := by
  subst he
  exact ⟨fun h => keq_eq ha hb da db hu hits h, fun h => keq_ne ha hb da db hu hits h⟩
set_option tactic.hygienic true in
theorem eqW_plain {a b : Value} {x y : CV} {r : Bool} {R : Value → Shared → Prop} (Rm : Room (n + 2) A) (X : St B f T (F ++ S) s) (ha : VIs B f a x) (hb : VIs B f b y) (h : eqP (view S x) (view S y) = some r) :
    (R (.bool r) s → wpAny (model B.prog B.w) A (compareOp .Eq a b) R noE s) ∧ (R (.bool (!r)) s → wpAny (model B.prog B.w) A (compareOp .NotEq a b) R noE s) := by
  unfold eqP at h
  split at h
  · rename_i d d' h1 h2
    split at h
    · rename_i hd
      cases h
      obtain ⟨c1, as, r1⟩ := view_reads X ha h1
      obtain ⟨c2, bs, r2⟩ := view_reads X hb h2
      have hu := Rm.deep (m := min d.depth d'.depth) (Nat.le_trans hd (by decide))
      exact ⟨fun h => SeqAt.compareEq_reads r1 r2 c1 c2 hu h, fun h => SeqAt.compareNe_reads r1 r2 c1 c2 hu h⟩
    · cases h
  · cases h
set_option tactic.hygienic true in
theorem eqW_rule {a b : Value} {x y : CV} {r : Bool} {R : Value → Shared → Prop} (h : eqW S x y = some r) (Rm : Room (n + 2) A) (X : St B f T (F ++ S) s) (ha : VIs B f a x) (hb : VIs B f b y) :
    (R (.bool r) s → wpAny (model B.prog B.w) A (compareOp .Eq a b) R noE s) ∧ (R (.bool (!r)) s → wpAny (model B.prog B.w) A (compareOp .NotEq a b) R noE s) := by
  unfold eqW at h
  split at h
  · rename_i ka kb h1 h2
    obtain ⟨a', rfl, lo1, va, d1, v1⟩ := view_fdict X ha h1
    obtain ⟨b', rfl, lo2, vb, d2, v2⟩ := view_fdict X hb h2
    have L1 := v1.length
    have L2 := v2.length
    unfold dictEq at h
    split at h
    · rename_i hl
      refine ne_of_sp lo1 lo2 d1 d2 Rm.units (fun _ => hits_at (s := s) (A := A.in1) (fun {v y a b r} p q e => eq2_at X.fin (n := n) Rm.in1 p q e) v2 v1 h) r ?_
      rw [show (va.length == vb.length) = true from by rw [L1, L2, hl]; simp]; rfl
    · rename_i hl
      cases h
      refine ne_of_sp (r := false) lo1 lo2 d1 d2 Rm.units (fun q => absurd (by rw [← L1, ← L2]; exact q) hl) false (by simp)
  · rename_i xs ys h1 h2
    have plain : eqP (view S x) (view S y) = some r → (R (.bool r) s → wpAny (model B.prog B.w) A (compareOp .Eq a b) R noE s) ∧ (R (.bool (!r)) s → wpAny (model B.prog B.w) A (compareOp .NotEq a b) R noE s) := eqW_plain Rm X ha hb
    split at h
    · rw [← h1, ← h2] at h
      exact plain h
    · rename_i hne
      cases h
      obtain ⟨a', rfl, us, n1, g1, v1⟩ := view_flist X ha h1
      obtain ⟨b', rfl, ws, n2, g2, v2⟩ := view_flist X hb h2
      have L1 := v1.length
      have L2 := v2.length
      rw [Array.length_toList] at L1 L2
      have hsz : (us.size != ws.size) = true := by rw [L1, L2]; simpa using hne
      exact ⟨fun h => SeqAt.eq_list_lengthsAt ⟨_, g1, rfl, _, rfl⟩ ⟨_, g2, rfl, _, rfl⟩ hsz Rm.units h, fun h => SeqAt.RcNeAt.lists_lengths ⟨_, g1, rfl, _, rfl⟩ ⟨_, g2, rfl, _, rfl⟩ hsz Rm.units B.prog B.w noE R h⟩
  · exact eqW_plain Rm X ha hb h
end
end Lend
namespace Lend
section
variable {B : Bs} {n : Nat} {F S : Store} {Q Q' : CV → Store → Prop} {A : Around} {f T : Fz} {s : Shared}
theorem mapOf_at {a : Addr} {vkvs : List (Int × Value)} {kvs : List (Int × CV)} (h : KIs B f vkvs kvs) (k : Int) : (valueAt vkvs k).isSome = (atK kvs k).isSome := by
  rcases kis_at h k with ⟨h1, h2⟩ | ⟨v, x, h1, h2, _⟩
  · rw [h1, h2]; rfl
  · rw [h1, h2]; rfl
set_option tactic.hygienic true in
theorem inW_rule {a b : Value} {x y : CV} {r : Bool} (h : inW S x y = some r) (Rm : Room (n + 2) A) (X : St B f T (F ++ S) s) (ha : VIs B f a x) (hb : VIs B f b y) :
    (∀ R : Value → Shared → Prop, (∀ k, R (.bool r) { s with toks := k }) → wpAny (model B.prog B.w) A (compareOp .In a b) R noE s) ∧ (∀ R : Value → Shared → Prop, (∀ k, R (.bool (!r)) { s with toks := k }) → wpAny (model B.prog B.w) A (compareOp .NotIn a b) R noE s) := by
  unfold inW at h
  split at h
  · rename_i kvs k h1
    cases h
    obtain ⟨t, rfl⟩ := ha.inv
    obtain ⟨b', rfl, lo1, va, d1, v1⟩ := view_fdict X hb h1
    have e := mapOf_at (a := b') v1 k
    exact ⟨fun R h => wpAny_in_of (intKind_is _ _ k t) lo1 d1.mapOf (by rw [e]; exact h _), fun R h => wpAny_notIn_of (intKind_is _ _ k t) lo1 d1.mapOf (by rw [e]; exact h _)⟩
  · rename_i ys x' h1
    split at h
    · rename_i d ds q1 q2
      split at h
      · rename_i hd
        cases h
        obtain ⟨b', rfl, vs, ⟨o, g1, g2, nn, g3⟩, v1⟩ := view_tup X hb h1
        obtain ⟨c1, as, r1⟩ := reads_of X.fin _ ha q1
        obtain ⟨c2, bs, r2⟩ := readss_of X.fin _ v1 q2
        have hu := Rm.deep1 (m := min (PyData.depthAll ds) d.depth) (Nat.le_trans hd (by decide))
        have rc : Reads s.heap (.ref b') (.tuple ds) bs := .tuple g1 g2 g3 r2
        exact ⟨fun R h => SeqAt.in_tuple_reads rc r1 c2 c1 hu (h s.toks), fun R h => SeqAt.notIn_tuple_reads rc r1 c2 c1 hu (h s.toks)⟩
      · cases h
    · cases h
  · rename_i ys x' h1
    split at h
    · rename_i d ds q1 q2
      split at h
      · rename_i hd
        cases h
        obtain ⟨b', rfl, vs, nn, g1, v1⟩ := view_flist X hb h1
        obtain ⟨c1, as, r1⟩ := reads_of X.fin _ ha q1
        obtain ⟨c2, bs, r2⟩ := readss_of X.fin _ v1 q2
        have hu := Rm.deep1 (m := min (PyData.depthAll ds) d.depth) (Nat.le_trans hd (by decide))
        have rc : Reads s.heap (.ref b') (.list ds) (b' :: bs) := .list g1 rfl rfl r2
        exact ⟨fun R h => SeqAt.in_list_reads rc r1 c2 c1 hu (h s.toks), fun R h => SeqAt.notIn_list_reads rc r1 c2 c1 hu (h s.toks)⟩
      · cases h
    · cases h
  · cases h
theorem isNone_rule {a : Value} {x : CV} {r : Bool} (h : isNone x = some r) (ha : VIs B f a x) : plainIs a .none = true ∧ (a == Value.none) = r := by
  cases ha <;> simp [isNone] at h <;> subst h <;> exact ⟨rfl, rfl⟩
theorem cmp_rule {op : CmpOp} {a b : Value} {x y : CV} {r : Bool} {R : Value → Shared → Prop} (h : cmpV op S x y = some r) (Rm : Room (n + 2) A) (X : St B f T (F ++ S) s) (ha : VIs B f a x) (hb : VIs B f b y)
    (hR : ∀ k, R (.bool r) { s with toks := k }) : wpAny (model B.prog B.w) A (compareOp op a b) R noE s := by
  unfold cmpV at h
  split at h
  · exact (eqW_rule h Rm X ha hb).1 (hR s.toks)
  · obtain ⟨r', h', rfl⟩ := Option.map_eq_some_iff.mp h
    exact (eqW_rule h' Rm X ha hb).2 (hR s.toks)
  · split at h
    · cases h; obtain ⟨_, rfl⟩ := ha.inv; obtain ⟨_, rfl⟩ := hb.inv; exact P.lt_int (hR s.toks)
    · cases h
  · split at h
    · cases h; obtain ⟨_, rfl⟩ := ha.inv; obtain ⟨_, rfl⟩ := hb.inv; exact P.le_int (hR s.toks)
    · cases h
  · split at h
    · cases h; obtain ⟨_, rfl⟩ := ha.inv; obtain ⟨_, rfl⟩ := hb.inv; exact P.gt_int (hR s.toks)
    · cases h
  · split at h
    · cases h; obtain ⟨_, rfl⟩ := ha.inv; obtain ⟨_, rfl⟩ := hb.inv; exact P.ge_int (hR s.toks)
    · cases h
  · split at h
    · obtain ⟨_, rfl⟩ := hb.inv
      obtain ⟨h1, h2⟩ := isNone_rule h ha
      exact wpAny_is_plain h1 (by rw [h2]; exact hR s.toks)
    · cases h
  · split at h
    · obtain ⟨_, rfl⟩ := hb.inv
      obtain ⟨r', h', rfl⟩ := Option.map_eq_some_iff.mp h
      obtain ⟨h1, h2⟩ := isNone_rule h' ha
      exact wpAny_isNot_plain h1 (by rw [h2]; exact hR s.toks)
    · cases h
  · exact (inW_rule h Rm X ha hb).1 R hR
  · obtain ⟨r', h', rfl⟩ := Option.map_eq_some_iff.mp h
    exact (inW_rule h' Rm X ha hb).2 R hR
theorem truthy_rule {a : Value} {x : CV} {b : Bool} {R : Bool → Shared → Prop} (h : truth x = some b) (ha : VIs B f a x) (hR : R b s) : wpAny (model B.prog B.w) A (truthy a) R noE s := by
  unfold truth at h
  split at h
  · cases h; obtain ⟨_, rfl⟩ := ha.inv; exact wpAny_truthy_bool hR
  · cases h
end
end Lend
namespace Lend
structure ClsOk (K : Frag) (C : Addr) : Prop where
  ga : findIn K (.ref C) "__getattribute__" = some (some (.builtin "object.__getattribute__"))
  gt : findIn K (.ref C) "__getattr__" = some none
  sa : findIn K (.ref C) "__setattr__" = some (some (.builtin "object.__setattr__"))
  po : plainOver K C = true
  hd : ∃ cd, clsIn K C = some cd ∧ cd.hasDict = true
structure GlOk (B : Bs) (G : Gl) : Prop where
  gl : ∀ x V, G.gl x = some V → ∃ v, (B.mg x = some v ∨ (B.mg x = none ∧ B.mb x = some v)) ∧ ∀ f : Fz, (∀ a o, B.h₀.get? a = some o → f a = some o) → VIs B f v V
  atr : ∀ C x, G.atr C x = true → ClsOk B.K C ∧ findIn B.K (.ref C) x = some none
  gd : ∀ a x V, G.gd a x = some V → ∃ es n v, B.K.lookup a = some ⟨.type "dict", none, .dict es n, #[]⟩ ∧ KeysLit B.w.params es.toList ∧ nsIn B.K a x = some (some v) ∧ ∃ i t, v = .int i t ∧ V = .int i
theorem isClean_handed {B : Bs} {f : Fz} {v : Value} {x : CV} (h : VIs B f v x) (c : isClean x = true) : handedIn v = true := by
  cases h <;> first | rfl | cases c
section
variable {B : Bs} {G : Gl} {n : Nat} {F S : Store} {Q Q' : CV → Store → Prop} {A : Around} {f T : Fz} {s : Shared}
theorem St.kin (BO : B.Ok) (X : St B f T S s) : B.K.In s.heap := BO.kin.keeps X.keep
set_option tactic.hygienic true in
theorem getItem_rule (BO : B.Ok) (GO : GlOk B G) {o i : Value} {x y z : CV} (h : getItemV G.gd S x y = some z) (X : St B f T (F ++ S) s) (ho : VIs B f o x) (hi : VIs B f i y) {R : Value → Shared → Prop}
    (hR : ∀ v k, VIs B f v z → R v { s with toks := k }) :
    (∃ Tn id, s.TypeIs o Tn ∧ typeLookup (.type Tn) "__getitem__" = pure (some (.builtin id))) ∧ wpAny (model B.prog B.w) A (getItem o i) R noE s := by
  cases y <;> first | exact none_some h | skip
  · rename_i k
    obtain ⟨t, rfl⟩ := hi.inv
    replace h : getI (view S x) k = some z := h
    unfold getI at h
    split at h
    · rename_i kvs h1
      obtain ⟨a, rfl, lo, va, d1, v1⟩ := view_fdict X ho h1
      refine ⟨⟨_, _, d1.typeIs, slot_dict_getitem.lookup⟩, ?_⟩
      rcases kis_at v1 k with ⟨q1, q2⟩ | ⟨v, x', q1, q2, q3⟩
      · rw [q2] at h; cases h
      · rw [q2] at h; cases h
        exact wpAny_getItem_of (intKind_is _ _ k t) d1.mapOf q1 (hR _ _ q3)
    · rename_i xs h1
      split at h
      · rename_i hk
        obtain ⟨a, rfl, vs, nn, g1, v1⟩ := view_flist X ho h1
        obtain ⟨v, e, hv⟩ := v1.get h
        have hl : s.heap.IsList a vs := ⟨_, g1, rfl, _, rfl⟩
        exact ⟨⟨_, _, hl.typeIs, slot_list_getitem.lookup⟩, wpAny_getItem_list hl hk.1 (by omega) (by simpa using e) (hR v s.toks hv)⟩
      · cases h
    · rename_i xs h1
      split at h
      · rename_i hk
        obtain ⟨a, rfl, vs, hl, v1⟩ := view_tup X ho h1
        obtain ⟨v, e, hv⟩ := v1.get h
        have e' : vs[k.toNat]? = some v := by simpa using e
        have hlt : k.toNat < vs.size := (Array.getElem?_eq_some_iff.mp e').1
        have hj : seqIndex? k vs.size = some k.toNat := by
          have e3 : (vs.size : Int) > k := by omega
          simp [seqIndex?]
          omega
        exact ⟨⟨_, _, IsTup.typeIs hl, slot_tuple_getitem.lookup⟩, getItem_tuple hl (by omega) (by omega) hj e' (hR v s.toks hv)⟩
      · cases h
    · rename_i st h1
      split at h
      · rename_i hk
        subst hk
        have hv := view_other ho h1 (fun _ h => by cases h) (fun _ h => by cases h)
        obtain ⟨t, rfl⟩ := hv.inv
        refine ⟨⟨_, _, typeIs_str s st t, PySem.F.slot_str_getitem.lookup⟩, ?_⟩
        split at h
        · rename_i c r hc
          cases h
          have hcs : st.cps[0]? = some c := by
            rw [← Array.getElem?_toList, hc]; rfl
          refine P.getItem_str (c := c) (by decide) ?_ (hR _ _ (.str _ _))
          have hlen : 0 < st.length := by
            show 0 < st.cps.size
            exact (Array.getElem?_eq_some_iff.mp hcs).1
          have hj : seqIndex? 0 st.length = some 0 := by
            simp [seqIndex?]
            omega
          rw [hj]
          exact hcs
        · cases h
      · cases h
    · cases h
  · rename_i st
    obtain ⟨t, rfl⟩ := hi.inv
    replace h : getS G.gd (view S x) st = some z := h
    unfold getS at h
    split at h
    · rename_i w h1
      have hv := view_other ho h1 (fun _ h => by cases h) (fun _ h => by cases h)
      obtain rfl := hv.inv
      cases o <;> first | exact none_some h | skip
      replace h : G.gd _ st = some z := h
      obtain ⟨es, nn, v, g1, g2, g3, i, t', rfl, rfl⟩ := GO.gd _ _ _ h
      have hm := mapOf_K (prog := B.prog) (w := B.w) (X.kin BO) g1 g2
      exact ⟨⟨_, _, hm.typeIs, slot_dict_getitem.lookup⟩, wpAny_getItem_of (strKind_is B.prog B.w st t) hm (find_K g1 g3) (hR _ _ (.int _ _))⟩
    · cases h
noncomputable def isSlice : Expr → Bool
  | .Slice .. => true
  | _ => false
set_option tactic.hygienic true in
theorem subscripted_of {slice : Expr} (h : isSlice slice = false) (o i : Value) : subscripted slice false o i = operate [o, i] (getItem o i) := by
  unfold subscripted
  split
  · cases h
  · rename_i e; cases e
  · rfl
theorem sub_rule (BO : B.Ok) (GO : GlOk B G) {value slice : Expr} (hs : isSlice slice = false) {o i : Value} {x y z : CV} (h : getItemV G.gd S x y = some z) (X : St B f T (F ++ S) s) (ho : VIs B f o x) (hi : VIs B f i y) (hQ : Q z S) :
    wpAny (model B.prog B.w) A (subscriptTail value slice o i) (Pst B f T F Q) noE s := by
  obtain ⟨⟨Tn, id, h1, h2⟩, h3⟩ := getItem_rule (A := A) BO GO h X ho hi (R := Pst B f T F Q) (fun v k hv => pst_of X hv hQ)
  exact tail_any h1 h2 h3 (subscripted_of hs o i)
set_option tactic.hygienic true in
theorem stored_put {va : List (Int × Value)} {kvs : List (Int × CV)} (h : KIs B f va kvs) (hn : (va.map (·.1)).Nodup) {k : Int} {v : Value} {x : CV} (hv : VIs B f v x) : KIs B f (stored va k v) (putK kvs k x) := by
  have key : ∀ {va : List (Int × Value)} {kvs : List (Int × CV)}, KIs B f va kvs → (va.map (·.1)).Nodup → KIs B f (if va.any (fun kv => kv.1 = k) then va.map (fun kv => if kv.1 = k then (kv.1, v) else kv) else va ++ [(k, v)]) (putK kvs k x) := by
    intro va kvs
    induction kvs generalizing va with
    | nil => intro h _; obtain ⟨_, rfl⟩ := h.inv; exact .cons hv .nil
    | cons p r ih =>
      intro h hn
      cases h with
      | @cons j u y r' _ a b =>
        simp only [List.map_cons, List.nodup_cons] at hn
        have ih := ih b hn.2
        unfold putK
        by_cases e : k = j
        · subst e
          simp only [List.any_cons, decide_true, Bool.true_or, if_true, List.map_cons]
          refine .cons hv ?_
          rw [map_store_of_not_mem _ _ _ hn.1]
          exact b
        · have e' : ¬ j = k := fun h => e h.symm
          simp only [List.any_cons, e', decide_false, Bool.false_or, if_neg e, List.map_cons, if_false]
          split
          · rename_i hany
            rw [if_pos hany] at ih
            exact .cons a ih
          · rename_i hany
            rw [if_neg hany] at ih
            exact .cons a ih
  exact key h hn
theorem dictOf_nodup {h : Heap} {a : Addr} {va : List (Int × Value)} (d : h.DictOf (intKind B.prog B.w) a va) : (va.map (·.1)).Nodup := by obtain ⟨_, _, _, _, _, _, _, _, hn⟩ := d; exact hn
theorem setItem_at {prog : Program} {w : World} {E : Value → Shared → Prop} {l : Addr} {items : Array Value} {nn : Nat} {k : Int} {t : Tok} {v : Value} {P : Unit → Shared → Prop} (hl : s.heap.get? l = some (lobj items nn))
    (h0 : 0 ≤ k) (hfit : k < 2 ^ 63) (hn : k < items.size) (hP : P () { s with heap := s.heap.update l (Obj.mapSeq (·.setIfInBounds k.toNat v)) }) : wpAny (model prog w) A (setItem (.ref l) (.int k t) v) P E s := by
  have hT : s.TypeIs (.ref l) "list" := ⟨_, hl, rfl⟩
  unfold setItem
  try with_reducible refine wpAny_holding ?_
  first | refine wpAny_bind (wpAny_pure ?_) | skip
  refine wpAny_bind (wpAny_sequenceKey hT (by decide) ?_)
  refine wpAny_bind (wpAny_callSpecial?_slot (name := Str.ofString "__setitem__") hT slot_list_setitem
    (wpAny_call_entry slot_list_setitem hT entry_list_setitem ?_ (args_list_setitem _ _ _)))
  show wpAny _ _ (Builtin.List.listSubscript? (.int k t) >>= _) _ _ s
  refine wpAny_bind (wpAny_listSubscript_int (fitsIndex_of h0 hfit) ?_)
  clear hfit
  obtain ⟨j, rfl⟩ := Int.eq_ofNat_of_zero_le h0
  have hj : j < items.size := by omega
  have hx' : items[j]? = some items[j] := Array.getElem?_eq_getElem hj
  show wpAny _ _ ((seqItemAt l j >>= fun r => pure (r.map (j, ·))) >>= _) _ _ s
  refine wpAny_bind (wpAny_bind (wpAny_seqItemAt hl rfl (wpAny_pure ?_)))
  rw [hx']
  show wpAny _ _ (setSeqItemAt l j v >>= _) _ _ s
  refine wpAny_bind (wpAny_setSeqItemAt hl rfl ?_)
  first
    | exact wpAny_bind (wpAny_pure (wpAny_pure ⟨.none, rfl, wpAny_pure hP⟩))
    | exact wpAny_pure ⟨.none, rfl, wpAny_pure hP⟩
theorem VsIs.setV {vs : List Value} {xs : List CV} {v : Value} {x : CV} (j : Nat) (h : VsIs B f vs xs) (hv : VIs B f v x) : VsIs B f (vs.set j v) (xs.set j x) := by
  induction xs generalizing vs j with
  | nil => obtain rfl := h.inv; exact .nil
  | cons y ys ih =>
    obtain ⟨_, _, rfl, a, r⟩ := h.inv
    rcases j with _ | j
    · exact .cons hv r
    · exact .cons a (ih j r)
set_option tactic.hygienic true in
theorem setItem_rule {o i v : Value} {x y z : CV} {R : Store → Prop} (h : setItemW x y z S R) (X : St B f T (F ++ S) s) (ho : VIs B f o x) (hi : VIs B f i y) (hv : VIs B f v z) {P : Unit → Shared → Prop}
    (hP : ∀ S' s', St B f T (F ++ S') s' → R S' → P () s') : wpAny (model B.prog B.w) A (setItem o i v) P noE s := by
  unfold setItemW at h
  split at h
  · rename_i a k
    split at h
    · rename_i kvs hl
      obtain ⟨_, rfl⟩ := ho.inv
      obtain ⟨t, rfl⟩ := hi.inv
      obtain ⟨lo, va, d, kv⟩ := X.get hl
      have L := kv.length
      refine wpAny_setItem_pairs (knd := intKind B.prog B.w) (intKind_is _ _ k t) d (fun h' d' hs => ?_) (by rw [L, sizeL]; have := h.1; unfold small at this; omega)
      exact hP _ _ (X.upd (c' := .dict (putK kvs k z)) hl hs (foot_self _ _) rfl ⟨lo, _, d', stored_put kv (dictOf_nodup d) hv⟩) h.2
    · rename_i xs hl
      obtain ⟨_, rfl⟩ := ho.inv
      obtain ⟨t, rfl⟩ := hi.inv
      obtain ⟨us, nn, g, uv⟩ := X.get hl
      obtain ⟨k0, k1, k2, q⟩ := h
      have L := uv.length
      rw [Array.length_toList] at L
      have hsm : xs.length ≤ 100000 := k2
      refine setItem_at g k0 (by omega) (by omega) ?_
      have hu := Heap.get?_update_self (Obj.mapSeq fun xs => xs.setIfInBounds k.toNat v) g rfl
      refine hP _ _ (X.upd (c' := .list (xs.set k.toNat z)) hl (Heap.SameBut.update ..) (foot_self _ _) rfl ⟨_, _, hu, ?_⟩) q
      rw [Array.toList_setIfInBounds]
      exact uv.setV _ hv
    · exact h.elim
  · exact h.elim
set_option tactic.hygienic true in
theorem AIs.find {es : List DictEntry} {r : List (Str × CV)} (h : AIs B f es r) {x : Str} {V : CV} (e : lookN r x = some V) : ∃ en, es.find? (·.key.isStr x) = some en ∧ VIs B f en.val V := by
  induction h with
  | nil => cases e
  | @cons en y W es r hk hv _ ih =>
    obtain ⟨t, hk⟩ := hk
    unfold lookN at e
    rw [List.find?_cons]
    split at e
    · rename_i q; subst q; cases e
      rw [hk]
      simp only [Value.isStr, beq_self_eq_true]
      exact ⟨en, rfl, hv⟩
    · rename_i q
      have : en.key.isStr x = false := by rw [hk]; simp only [Value.isStr]; exact beq_eq_false_iff_ne.mpr fun e => q e.symm
      rw [this]
      exact ih e
theorem instAt_of {a C d : Addr} {es : List DictEntry} {nn : Nat} (h1 : s.heap.get? a = some (instObj C d)) (h2 : s.heap.get? d = some (dictOf es nn)) : InstAt s.heap a (instObj C d) C (some (dictOf es nn)) :=
  ⟨h1, rfl, rfl, h2⟩
set_option tactic.hygienic true in
theorem getAttr_rule (BO : B.Ok) (GO : GlOk B G) {o : Value} {x z : CV} {name : Str} (h : getAttrV G S x name = some z) (X : St B f T (F ++ S) s) (ho : VIs B f o x) (hQ : Q z S) :
    wpAny (model B.prog B.w) A (getAttr o name true) (Pst B f T F Q) noE s := by
  unfold getAttrV at h
  split at h
  · rename_i a
    split at h
    · rename_i C d attrs hl
      split at h
      · rename_i hat
        split at h
        · rename_i V hV
          split at h
          · rename_i hc
            cases h
            obtain ⟨_, rfl⟩ := ho.inv
            obtain ⟨h1, es, nn, h2, h3⟩ := X.get hl
            obtain ⟨⟨ga, gt, sa, po, cd, hcd, hd⟩, hno⟩ := GO.atr _ _ hat
            obtain ⟨en, he, hv⟩ := h3.find hV
            refine get_value (X.kin BO) (instAt_of h1 h2) ga ?_ (isClean_handed hv hc) (pst_of X hv hQ)
            unfold findObj
            rw [hcd, Option.bind_some, hno, Option.bind_some]
            simp only [Option.bind_some]
            unfold W.ownOf
            rw [hd, if_pos rfl]
            unfold lookIn
            simp only [List.toList_toArray]
            rw [he]
            rfl
          · cases h
        · cases h
      · cases h
    · cases h
  · cases h
theorem AIs.length {es : List DictEntry} {r : List (Str × CV)} (h : AIs B f es r) : es.length = r.length := by
  induction h with
  | nil => rfl
  | cons _ _ _ ih => simp [ih]
theorem AIs.put {es : List DictEntry} {r : List (Str × CV)} (h : AIs B f es r) (x : Str) {v : Value} {V : CV} (hv : VIs B f v V) (hh : Int) (t : Tok) :
    AIs B f (match es.findIdx? (·.key.isStr x) with
      | some i => es.modify i fun e => { e with val := v }
      | none => es ++ [⟨hh, .str x t, v⟩]) (putN r x V) := by
  induction h with
  | nil => exact .cons ⟨t, rfl⟩ hv .nil
  | @cons en y W es r hk hw rest ih =>
    obtain ⟨t', hk⟩ := hk
    unfold putN
    rw [List.findIdx?_cons]
    by_cases q : x = y
    · subst q
      rw [if_pos rfl]
      have : en.key.isStr x = true := by rw [hk]; simp [Value.isStr]
      rw [this]
      simp only [if_true, List.modify_zero_cons]
      exact .cons ⟨t', hk⟩ hv rest
    · rw [if_neg q]
      have : en.key.isStr x = false := by rw [hk]; simp only [Value.isStr]; exact beq_eq_false_iff_ne.mpr fun e => q e.symm
      rw [this]
      simp only [Bool.false_eq_true, if_false]
      cases hi : es.findIdx? (fun e => e.key.isStr x) with
      | none =>
        rw [hi] at ih
        simp only [Option.map_none, List.cons_append] at ih ⊢
        exact .cons ⟨t', hk⟩ hw ih
      | some i =>
        rw [hi] at ih
        simp only [Option.map_some, List.modify_succ_cons] at ih ⊢
        exact .cons ⟨t', hk⟩ hw ih
theorem putName_list (es : List DictEntry) (nn : Nat) (x : Str) (hh : Int) (key v : Value) : ∃ n', Obj.putName x hh key v (dictOf es nn) = dictOf (match es.findIdx? (·.key.isStr x) with
      | some i => es.modify i fun e => { e with val := v }
      | none => es ++ [⟨hh, key, v⟩]) n' := by
  rw [Obj.putName_eq]
  unfold Obj.putNameByArray
  simp only [List.findIdx?_toArray]
  cases es.findIdx? (fun e => e.key.isStr x) with
  | none => exact ⟨nn + 1, by simp⟩
  | some i => exact ⟨nn, by simp⟩
theorem AIs.noRef {es : List DictEntry} {r : List (Str × CV)} (h : AIs B f es r) : es.any (·.refKey) = false := by
  induction h with
  | nil => rfl
  | @cons en y W es r hk hw rest ih =>
    obtain ⟨t', hk⟩ := hk
    rw [List.any_cons, ih, Bool.or_false]
    simp [DictEntry.refKey, hk]
set_option tactic.hygienic true in
theorem setAttr_rule (BO : B.Ok) (GO : GlOk B G) {o v : Value} {x z : CV} {name : Str} {R : Store → Prop} (h : setAttrW G x name z S R) (X : St B f T (F ++ S) s) (ho : VIs B f o x) (hv : VIs B f v z) {P : Unit → Shared → Prop}
    (hP : ∀ S' s', St B f T (F ++ S') s' → R S' → P () s') : wpAny (model B.prog B.w) A (setAttr o name v) P noE s := by
  unfold setAttrW at h
  split at h
  · rename_i a
    split at h
    · rename_i C d attrs hl
      obtain ⟨hat, hlen, hR⟩ := h
      obtain ⟨_, rfl⟩ := ho.inv
      obtain ⟨h1, es, nn, h2, h3⟩ := X.get hl
      obtain ⟨⟨ga, gt, sa, po, cd, hcd, hd⟩, hno⟩ := GO.atr _ _ hat
      have I := instAt_of h1 h2
      have XK := X.kin BO
      refine set_plain XK I sa ?_
      refine osa_open (s := { s with toks := s.toks + 1 }) (r := none) XK I po (by unfold takerIn; rw [hno]; rfl) fun b => ?_
      refine wpAny_bind (wpAny_pure (wpAny_bind (wpAny_bind (wpAny_loadPart h1 (wpAny_bind ((looks_clsIn XK hcd).at ?_))))))
      rw [hd]
      refine wpAny_pure (a := some d) (wpAny_bind (wpAny_pure (wpAny_bind ?_)))
      unfold nsSet
      refine wpAny_bind (wpAny_bind (wpAny_askSetting (wpAny_pure (wpAny_bind (wpAny_mkText (wpAny_bind (wpAny_loadPart h2 ?_)))))))
      dsimp only
      have c : aRefKeyMayBeTheName name es.toArray = false := by
        rw [aRefKeyMayBeTheName_at]
        have := h3.noRef
        rw [← Array.any_toList, ← Array.any_toList]
        simp only [List.toList_toArray]
        rw [this, Bool.and_false]
      rw [c]
      refine wpAny_updatePart h2 ?_
      obtain ⟨n', hp⟩ := putName_list es nn name (PyData.keyHash B.w.params name) (.str name (s.toks + 1)) v
      have hg : (s.heap.update d (Obj.putName name (PyData.keyHash B.w.params name) (.str name (s.toks + 1)) v)).get? d = some (dictOf (match es.findIdx? (·.key.isStr name) with
          | some i => es.modify i fun e => { e with val := v }
          | none => es ++ [⟨PyData.keyHash B.w.params name, .str name (s.toks + 1), v⟩]) n') := by
        have := Heap.get?_update_self (Obj.putName name (PyData.keyHash B.w.params name) (.str name (s.toks + 1)) v) h2 (by rw [hp]; rfl)
        rw [this, hp]
      have h3' := h3.put name hv (PyData.keyHash B.w.params name) (s.toks + 1)
      have hne : a ≠ d := ne_fg h1 h2 (by intro e; cases e)
      refine wpAny_bind (wpAny_lookBehind hg ?_ ?_)
      · refine pastItsLine_dict ?_
        have := h3'.length
        rw [List.size_toArray, this, sizeLine_eq]
        have q : ∀ (r : List (Str × CV)), (putN r name z).length ≤ r.length + 1 := by
          intro r
          induction r with
          | nil => simp [putN]
          | cons p r ih => obtain ⟨y, u⟩ := p; unfold putN; split <;> simp; exact ih
        have := q attrs
        omega
      · exact wpAny_pure (hP _ _ (X.upd (c' := .inst C d (putN attrs name z)) (t := s.toks + 1 + 1) hl (Heap.SameBut.update ..) (by simp [foot]) rfl ⟨by rw [Heap.get?_update_other _ _ hne.symm]; exact h1, _, _, hg, h3'⟩) hR)
    · exact h.elim
  · exact h.elim
end
end Lend
namespace Lend
section
variable {prog : Program} {w : World} {A : Around} {E : Value → Shared → Prop} {s : Shared}
theorem pyHash_none {Q : Int → Shared → Prop} (h : Q 0xFCA86420 { s with toks := s.toks + 1 }) : wpAny (model prog w) A (pyHash .none) Q E s := by
  unfold pyHash
  have hv : [Value.none].any Value.onHeap = false := rfl
  refine wpAny_bind ?_
  rw [cRoomFor, if_neg (by rw [hv]; exact Bool.false_ne_true)]; refine wpAny_pure ?_
  have hT : s.TypeIs .none "NoneType" := rfl
  refine wpAny_bind (wpAny_specialOf hT PySem.F.slot_NoneType_hash.lookup ?_)
  rw [if_neg (by rw [beq_builtin_none]; exact Bool.false_ne_true)]
  refine wpAny_bind (wpAny_specialOf hT PySem.F.slot_NoneType_hash.lookup ?_)
  refine wpAny_bind (wpAny_callSpecialIfBoundUnlessNone?_slot hT PySem.F.slot_NoneType_hash
    (wpAny_call_entry PySem.F.slot_NoneType_hash hT PySem.F.entry_NoneType_hash
      (show wpAny _ _ (do ret (← mkInt 0xFCA86420)) _ _ s from wpAny_ret_mkInt ?_) (PySem.F.args_NoneType_hash_1 _)))
  exact wpAny_pure h
end
noncomputable def isO : Option Int → Value → Bool
  | some k, v => Value.isInt k v
  | none, .none => true
  | none, _ => false
theorem isO_none {v : Value} (h : isO none v = true) : v = .none := by cases v <;> first | rfl | cases h
noncomputable def oKind (prog : Program) (w : World) : KeyKind prog w (Option Int) where
  is := isO
  hash := fun k => match k with | some k => hashInt k | none => 0xFCA86420
  inj := fun v a b h k => by
    rcases a with _ | a
    · have := isO_none h; subst this; cases b with
      | none => rfl
      | some b => cases k
    · rcases b with _ | b
      · have := isO_none k; subst this; cases h
      · rw [Value.isInt_inj v a b h k]
  byValue := fun k v h => by
    rcases k with _ | k
    · rw [isO_none h]; rfl
    · obtain ⟨t, rfl⟩ := Value.isInt_shape h; rfl
  pyHash := fun {A E s k v Q} hv h => by
    rcases k with _ | k
    · rw [isO_none hv]; exact pyHash_none h
    · obtain ⟨t, rfl⟩ := Value.isInt_shape hv; exact wpAny_pyHash_int h
  eqBool := fun {A E s a b u v Q} hu hv h => by
    rcases a with _ | a
    · rw [isO_none hu]
      rcases b with _ | b
      · rw [isO_none hv]; exact SeqAt.EqAt.same (A := A) (s := s) Value.none prog w E Q (by simpa using h)
      · obtain ⟨t, rfl⟩ := Value.isInt_shape hv; exact SeqAt.EqAt.none_int b t prog w E Q (by simpa using h)
    · obtain ⟨t, rfl⟩ := Value.isInt_shape hu
      rcases b with _ | b
      · rw [isO_none hv]; exact SeqAt.EqAt.int_none a t prog w E Q (by simpa using h)
      · obtain ⟨u, rfl⟩ := Value.isInt_shape hv
        refine wpAny_eqBool_int ?_
        have : (a == b) = decide (some a = some b) := by
          by_cases e : a = b
          · subst e; simp
          · have e' : ¬ some a = some b := fun h => e (by injection h)
            rw [decide_eq_false e']; exact beq_eq_false_iff_ne.mpr e
        rw [this]; exact h
  «strs» := fun k x t v h => by
    rcases k with _ | k
    · cases h
    · simp [isO, Value.isInt] at h
noncomputable def oPairs (kvs : List (Int × Value)) : List (Option Int × Value) := kvs.map fun p => (some p.1, p.2)
theorem pairs_o {p : Program} {w : World} {es : List DictEntry} {kvs : List (Int × Value)} (h : Pairs (intKind p w) es kvs) : Pairs (oKind p w) es (oPairs kvs) := by
  induction h with
  | nil => exact .nil
  | cons a b _ ih => exact .cons a b ih
theorem dictOf_o {p : Program} {w : World} {h : Heap} {a : Addr} {kvs : List (Int × Value)} (x : h.DictOf (intKind p w) a kvs) : h.DictOf (oKind p w) a (oPairs kvs) := by
  obtain ⟨o, es, ep, h1, h2, h3, h4, h5, h6⟩ := x
  refine ⟨o, es, ep, h1, h2, h3, fun e he => ?_, pairs_o h5, ?_⟩
  · obtain ⟨k, q1, q2⟩ := h4 e he
    exact ⟨some k, q1, q2⟩
  · have : (oPairs kvs).map (·.1) = (kvs.map (·.1)).map some := by simp [oPairs]
    rw [this]
    exact h6.map _ (fun a b hab e => hab (by injection e))
theorem valueAt_none (kvs : List (Int × Value)) : valueAt (oPairs kvs) none = none := by
  induction kvs with
  | nil => rfl
  | cons p r ih =>
    unfold valueAt at ih ⊢
    simp only [oPairs, List.map_cons, List.find?_cons]
    simpa [oPairs] using ih
section
variable {B : Bs} {G : Gl} {n : Nat} {F S : Store} {Q Q' : CV → Store → Prop} {A : Around} {f T : Fz} {s : Shared}
theorem St.ext {h' : Heap} {t : Nat} (x : St B f T S s) (k : ∀ b o, s.heap.get? b = some o → h'.get? b = some o) : St B f T S { s with heap := h', toks := t } :=
  ⟨x.gens, x.os, x.base, fun a o e => k _ _ (x.fin a o e), fun a o e => ⟨k _ _ (x.tin a o e).1, (x.tin a o e).2⟩,
    fun p hp => (x.cell p hp).keep (Fz.le.refl f) fun b hb => by obtain ⟨o, ho⟩ := (x.cell p hp).lt b hb; rw [ho, k _ _ ho], x.dis, x.sep⟩
theorem St.freshAt (x : St B f T S s) {a : Addr} (ha : s.heap.get? a = none) : f a = none ∧ T a = none ∧ a ∉ feet S := by
  refine ⟨?_, ?_, fun h => ?_⟩
  · rcases e : f a with _ | o
    · rfl
    · rw [x.fin _ _ e] at ha; cases ha
  · rcases e : T a with _ | o
    · rfl
    · rw [(x.tin _ _ e).1] at ha; cases ha
  · obtain ⟨p, hp, hb⟩ := mem_feet.mp h
    obtain ⟨o, ho⟩ := (x.cell p hp).lt _ hb
    rw [ho] at ha; cases ha
set_option tactic.hygienic true in
theorem St.extF {a : Addr} {o : Obj} {h' : Heap} {t : Nat} (x : St B f T S s) (k : ∀ b o, s.heap.get? b = some o → h'.get? b = some o) (ha : s.heap.get? a = none) (ho : h'.get? a = some o) :
    St B (f.put a o) T S { s with heap := h', toks := t } ∧ Fz.le f (f.put a o) := by
  obtain ⟨h1, h2, h3⟩ := x.freshAt ha
  have y := x.ext (t := t) k
  have l := Fz.le_put f a o h1
  refine ⟨⟨y.gens, y.os, fun a o' e => l _ _ (y.base a o' e), fun b o' e => ?_, fun b o' e => ⟨(y.tin b o' e).1, ?_⟩, fun p hp => (y.cell p hp).keep l fun _ _ => rfl, fun b hb => ⟨?_, (y.dis b hb).2⟩, y.sep⟩, l⟩
  · unfold Fz.put at e
    split at e
    · rename_i q; subst q; cases e; exact ho
    · exact y.fin b o' e
  · rw [Fz.put_ne]; exact (y.tin b o' e).2
    exact ne_sn e h2
  · rw [Fz.put_ne]; exact (y.dis b hb).1
    rintro rfl; exact h3 hb
theorem St.extC {a : Addr} {c : CO} {h' : Heap} {t : Nat} (x : St B f T S s) (k : ∀ b o, s.heap.get? b = some o → h'.get? b = some o) (ha : s.heap.get? a = none) (hf : foot a c = [a]) (hc : CIs B f h' a c) :
    St B f T ((a, c) :: S) { s with heap := h', toks := t } := by
  obtain ⟨h1, h2, h3⟩ := x.freshAt ha
  have y := x.ext (t := t) k
  refine ⟨y.gens, y.os, y.base, y.fin, y.tin, fun p hp => ?_, fun b hb => ?_, ?_⟩
  · rcases List.mem_cons.mp hp with rfl | hp
    · exact hc
    · exact y.cell p hp
  · rw [feet_cons, hf] at hb
    rcases List.mem_append.mp hb with hb | hb
    · simp at hb; subst hb; exact ⟨h1, h2⟩
    · exact y.dis b hb
  · rw [feet_cons, hf]
    exact List.nodup_cons.mpr ⟨h3, x.sep⟩
theorem size_none (h : Heap) : h.get? h.objs.size = none := by
  rcases e : h.get? h.objs.size with _ | o
  · rfl
  · exact absurd (Heap.lt_size e) (Nat.lt_irrefl _)
theorem ge_none {h : Heap} {a : Addr} (ha : h.objs.size ≤ a) : h.get? a = none := by
  rcases e : h.get? a with _ | o
  · rfl
  · exact absurd (Heap.lt_size e) (Nat.not_lt.mpr ha)
theorem St.notMod (BO : B.Ok) (x : St B f T S s) {a : Addr} (ha : s.heap.objs.size ≤ a) : (a == sysModules) = false := by
  refine beq_eq_false_iff_ne.mpr fun e => ?_
  subst e
  obtain ⟨mc, hn, _⟩ := BO.lim
  have hn' := hn.keeps x.keep
  exact absurd (Nat.lt_of_lt_of_le hn'.lt ha) (by decide)
end
end Lend
namespace Lend
section
variable {B : Bs} {G : Gl} {n : Nat} {F S : Store} {Q Q' : CV → Store → Prop} {A : Around} {f T : Fz} {s : Shared}
theorem keyPart_int (k : Int) (t : Tok) : (keyPart (.int k t)).isSome = true := by rfl
theorem keyPart_none : (keyPart .none).isSome = true := by rfl
theorem without_del {va : List (Int × Value)} {kvs : List (Int × CV)} (h : KIs B f va kvs) (hn : (va.map (·.1)).Nodup) (k : Int) : KIs B f (without va k) (delK kvs k) := by
  induction kvs generalizing va with
  | nil => obtain ⟨_, rfl⟩ := h.inv; exact .nil
  | cons p r ih =>
    cases h with
    | @cons j u y r' _ a b =>
      simp only [List.map_cons, List.nodup_cons] at hn
      have ih := ih b hn.2
      unfold delK
      unfold without at ih ⊢
      by_cases e : k = j
      · subst e
        rw [if_pos rfl, List.filter_cons_of_neg (by simp)]
        have := without_of_not_mem r' k hn.1
        unfold without at this
        rw [this]; exact b
      · rw [if_neg e, List.filter_cons_of_pos (by simp; exact fun h => e h.symm)]
        exact .cons a ih
theorem VsIs.dropLast {vs : List Value} {xs : List CV} (h : VsIs B f vs xs) : VsIs B f vs.dropLast xs.dropLast := by
  induction xs generalizing vs with
  | nil => obtain ⟨_, rfl⟩ := h.inv; exact .nil
  | cons x xs ih =>
    obtain ⟨v, vs, rfl, a, r⟩ := h.inv
    rcases xs with _ | ⟨y, ys⟩
    · obtain ⟨_, rfl⟩ := r.inv; exact .nil
    · obtain ⟨u, us, rfl, b, r'⟩ := r.inv
      exact .cons a (ih (.cons b r'))
theorem dget1 {a : Addr} {kvs : List (Int × CV)} {k : Value} {r : CV} (D : DictAtH B f s.heap a kvs) (hk : (∃ i t, k = .int i t ∧ r = (atK kvs i).getD .none) ∨ (k = .none ∧ r = .none)) {R : Value → Shared → Prop}
    (hR : ∀ v t, VIs B f v r → R v { s with toks := t }) : wpAny (model B.prog B.w) A (call (.builtin "dict.get") [.ref a, k]) R noE s := by
  obtain ⟨lo, va, d, kv⟩ := D
  rcases hk with ⟨i, t, rfl, rfl⟩ | ⟨rfl, rfl⟩
  · refine call_meetsIn PySem.F.slot_dict_get d.typeIs PySem.F.entry_dict_get (PySem.F.args_dict_get_2 _ _) (meets_dict_get (intKind B.prog B.w) a (intKind_is _ _ i t) lo) ⟨_, d.mapOf, ?_⟩
    rcases kis_at kv i with ⟨q1, q2⟩ | ⟨v, x', q1, q2, q3⟩
    · rw [q1]; rw [q2] at hR; exact hR _ _ .none
    · rw [q1]; rw [q2] at hR; exact hR _ _ q3
  · refine call_meetsIn PySem.F.slot_dict_get d.typeIs PySem.F.entry_dict_get (PySem.F.args_dict_get_2 _ _) (meets_dict_get (oKind B.prog B.w) (k := none) a rfl lo) ⟨_, (dictOf_o d).mapOf, ?_⟩
    rw [valueAt_none]; exact hR _ _ .none
theorem dget2 {a : Addr} {kvs : List (Int × CV)} {i : Int} {t : Tok} {dv : Value} {dx : CV} (D : DictAtH B f s.heap a kvs) (hd : VIs B f dv dx) {R : Value → Shared → Prop}
    (hR : ∀ v t, VIs B f v ((atK kvs i).getD dx) → R v { s with toks := t }) : wpAny (model B.prog B.w) A (call (.builtin "dict.get") [.ref a, .int i t, dv]) R noE s := by
  obtain ⟨lo, va, d, kv⟩ := D
  refine call_meetsIn PySem.F.slot_dict_get d.typeIs PySem.F.entry_dict_get (PySem.F.args_dict_get_3 _ _ _) (meets_dict_get_default (intKind B.prog B.w) a (intKind_is _ _ i t) lo dv) ⟨_, d.mapOf, ?_⟩
  rcases kis_at kv i with ⟨q1, q2⟩ | ⟨v, x', q1, q2, q3⟩
  · rw [q1]; rw [q2] at hR; exact hR _ _ hd
  · rw [q1]; rw [q2] at hR; exact hR _ _ q3
theorem getMethW {kvs : List (Int × CV)} {args : List CV} {vs : List Value} {a : Addr}
    (h : match args with
      | [.int k] => Q ((atK kvs k).getD .none) S
      | [.int k, d] => Q ((atK kvs k).getD d) S
      | [.none] => Q .none S
      | _ => False) (X : St B f T (F ++ S) s) (D : DictAtH B f s.heap a kvs) (hv : VsIs B f vs args) :
    wpAny (model B.prog B.w) A (call (.builtin "dict.get") (.ref a :: vs)) (Pst B f T F Q) noE s := by
  split at h
  · obtain ⟨_, _, rfl, h1, r⟩ := hv.inv
    obtain ⟨_, rfl⟩ := r.inv; obtain ⟨_, rfl⟩ := h1.inv; exact dget1 D (.inl ⟨_, _, rfl, rfl⟩) fun v t hv => pst_of X hv h
  · obtain ⟨_, _, rfl, h1, r⟩ := hv.inv
    obtain ⟨_, _, rfl, h2, r2⟩ := r.inv; replace r := r2
    obtain ⟨_, rfl⟩ := r.inv; obtain ⟨_, rfl⟩ := h1.inv; exact dget2 D h2 fun v t hv => pst_of X hv h
  · obtain ⟨_, _, rfl, h1, r⟩ := hv.inv
    obtain ⟨_, rfl⟩ := r.inv; obtain ⟨_, rfl⟩ := h1.inv; exact dget1 D (.inr ⟨rfl, rfl⟩) fun v t hv => pst_of X hv h
  · exact h.elim
inductive BMeth (B : Bs) (A : Around) (T : String) (name : Str) (o : Value) (vs : List Value) (R : Value → Shared → Prop) (s : Shared) : Prop
  | mk (id : String) (hs : Slot T name id) (h : wpAny (model B.prog B.w) A (call (.builtin id) (o :: vs)) R noE s) : BMeth B A T name o vs R s
set_option tactic.hygienic true in
theorem dictMeth_rule {own : Bool} {name : Str} {args : List CV} {vs : List Value} {a : Addr} {kvs : List (Int × CV)} (h : dictMethW own name args a kvs S Q) (X : St B f T (F ++ S) s) (hl : lk S a = some (.dict kvs)) (hv : VsIs B f vs args) :
    BMeth B A "dict" name (.ref a) vs (Pst B f T F Q) s := by
  have D : DictAtH B f s.heap a kvs := X.get hl
  obtain ⟨lo, va, d, kv⟩ := id D
  have L := kv.length
  unfold dictMethW at h
  split at h
  · rename_i hn; subst hn
    exact ⟨"dict.get", PySem.F.slot_dict_get, getMethW h X D hv⟩
  split at h
  · rename_i hn; subst hn
    refine ⟨"dict.pop", PySem.F.slot_dict_pop, ?_⟩
    split at h
    · rename_i k dx
      obtain ⟨_, _, rfl, h1, r⟩ := hv.inv
      obtain ⟨dv, _, rfl, h2, r2⟩ := r.inv; replace r := r2
      obtain ⟨_, rfl⟩ := r.inv
      obtain ⟨t, rfl⟩ := h1.inv
      rcases kis_at kv k with ⟨q1, q2⟩ | ⟨v, x', q1, q2, q3⟩
      · rw [q2] at h
        exact call_meetsIn PySem.F.slot_dict_pop d.typeIs PySem.F.entry_dict_pop (PySem.F.args_dict_pop_3 _ _ _) (meets_dict_pop_default (intKind B.prog B.w) a (intKind_is _ _ k t) lo (keyPart_int k t) dv) ⟨_, d, q1, pst_of X h2 h⟩
      · rw [q2] at h
        refine call_meetsIn PySem.F.slot_dict_pop d.typeIs PySem.F.entry_dict_pop (PySem.F.args_dict_pop_3 _ _ _) (meets_dict_pop_there (intKind B.prog B.w) a (intKind_is _ _ k t) [dv] (.inr ⟨_, rfl⟩) (keyPart_int k t)) ⟨_, v, d, ?_, q1, fun h' d' hs => ?_⟩
        · rw [L, sizeL]; have := h.1; unfold small at this; omega
        · exact ⟨f, _, _, Fz.le.refl f, X.upd (c' := .dict (delK kvs k)) hl hs (foot_self _ _) rfl ⟨lo, _, d', without_del kv (dictOf_nodup d) k⟩, q3, h.2⟩
    · rename_i dx
      obtain ⟨_, _, rfl, h1, r⟩ := hv.inv
      obtain ⟨dv, _, rfl, h2, r2⟩ := r.inv; replace r := r2
      obtain ⟨_, rfl⟩ := r.inv
      obtain ⟨_, rfl⟩ := h1.inv
      exact call_meetsIn PySem.F.slot_dict_pop d.typeIs PySem.F.entry_dict_pop (PySem.F.args_dict_pop_3 _ _ _) (meets_dict_pop_default (oKind B.prog B.w) (k := none) a rfl lo keyPart_none dv) ⟨_, dictOf_o d, valueAt_none _, pst_of X h2 h⟩
    · exact h.elim
  split at h
  · rename_i hn; subst hn
    refine ⟨"dict.setdefault", PySem.F.slot_dict_setdefault, ?_⟩
    split at h
    · rename_i k dx
      obtain ⟨_, _, rfl, h1, r⟩ := hv.inv
      obtain ⟨dv, _, rfl, h2, r2⟩ := r.inv; replace r := r2
      obtain ⟨_, rfl⟩ := r.inv
      obtain ⟨t, rfl⟩ := h1.inv
      have hsz : va.length ≤ sizeLine := by rw [L, sizeL]; have := h.1; unfold small at this; omega
      refine call_meetsIn PySem.F.slot_dict_setdefault d.typeIs PySem.F.entry_dict_setdefault (PySem.F.args_dict_setdefault_3 _ _ _) (kt_meets_setdefault (intKind B.prog B.w) a (intKind_is _ _ k t) lo dv) ⟨va, d, hsz, fun v hv' => ?_, fun hn h' d' hs => ?_⟩
      · rcases kis_at kv k with ⟨q1, q2⟩ | ⟨v', x', q1, q2, q3⟩
        · rw [q1] at hv'; cases hv'
        · rw [q1] at hv'; cases hv'
          have h := h.2
          rw [q2] at h
          exact pst_of X q3 h
      · rcases kis_at kv k with ⟨q1, q2⟩ | ⟨v', x', q1, q2, q3⟩
        · have h := h.2
          rw [q2] at h
          exact ⟨f, _, _, Fz.le.refl f, X.upd (c' := .dict (putK kvs k dx)) hl hs (foot_self _ _) rfl ⟨lo, _, d', stored_put kv (dictOf_nodup d) h2⟩, h2, h⟩
        · rw [q1] at hn; cases hn
    · exact h.elim
  · exact h.elim
set_option tactic.hygienic true in
theorem listMeth_rule {name : Str} {args : List CV} {vs : List Value} {a : Addr} {xs : List CV} (h : listMethW name args a xs S Q) (X : St B f T (F ++ S) s) (hl : lk S a = some (.list xs)) (hv : VsIs B f vs args) :
    BMeth B A "list" name (.ref a) vs (Pst B f T F Q) s := by
  obtain ⟨us, nn, g, uv⟩ := X.get hl
  have L := uv.length
  rw [Array.length_toList] at L
  have hL : s.heap.IsList a us := ⟨_, g, rfl, _, rfl⟩
  unfold listMethW at h
  split at h
  · rename_i hn; subst hn
    refine ⟨"list.append", PySem.F.slot_list_append, ?_⟩
    split at h
    · rename_i x
      obtain ⟨v, _, rfl, h1, r⟩ := hv.inv
      obtain ⟨_, rfl⟩ := r.inv
      have hsz : us.size ≤ sizeLine := by rw [L, sizeL]; have := h.1; unfold small at this; omega
      refine wpAny_call_entry slot_list_append hL.typeIs entry_list_append ?_ (args_list_append _ _)
      show wpAny _ _ (updateSeq a (·.push v) >>= fun _ => ret .none) _ _ s
      refine wpAny_bind (wpAny_updateSeq g rfl (wpAny_pure ⟨.none, rfl, ?_⟩))
      have hu := Heap.get?_update_self (Obj.mapSeq (·.push v)) g rfl
      refine ⟨f, _, _, Fz.le.refl f, X.upd (c' := .list (xs ++ [x])) hl (Heap.SameBut.update ..) (foot_self _ _) rfl ⟨us.push v, _, hu, ?_⟩, .none, h.2⟩
      rw [Array.toList_push]
      exact uv.append (.cons h1 .nil)
    · exact h.elim
  split at h
  · rename_i hn; subst hn
    refine ⟨"list.pop", PySem.F.slot_list_pop, ?_⟩
    split at h
    · obtain ⟨_, rfl⟩ := hv.inv
      split at h
      · rename_i x hx
        have hsz : us.size ≤ sizeLine := by rw [L, sizeL]; have := h.1; unfold small at this; omega
        have hx' : xs[xs.length - 1]? = some x := by rw [← List.getLast?_eq_getElem?]; exact hx
        obtain ⟨v, e, hv⟩ := uv.get hx'
        have e' : us[us.size - 1]? = some v := by rw [L]; simpa using e
        refine call_meets PySem.F.slot_list_pop hL.typeIs PySem.F.entry_list_pop (PySem.F.args_list_pop_1 _) (MeetsSeq.list_pop_last a us nn v e' hsz) ⟨g, ?_⟩
        have hu := Heap.get?_update_self (Obj.mapSeq fun xs => xs.eraseIdxIfInBounds (us.size - 1)) g rfl
        refine ⟨f, _, _, Fz.le.refl f, X.upd (c' := .list xs.dropLast) hl (Heap.SameBut.update ..) (foot_self _ _) rfl ⟨_, _, hu, ?_⟩, hv, h.2⟩
        have e2 : (us.eraseIdxIfInBounds (us.size - 1)).toList = us.toList.dropLast := by
          rw [Array.toList_eraseIdxIfInBounds, List.eraseIdx_eq_dropLast]
          have : us.size ≠ 0 := by
            intro h0
            rw [L] at h0
            have : xs = [] := List.length_eq_zero_iff.mp h0
            rw [this] at hx; cases hx
          simp; omega
        rw [e2]
        exact uv.dropLast
      · exact h.elim
    · exact h.elim
  split at h
  · rename_i hn; subst hn
    refine ⟨"list.extend", PySem.F.slot_list_extend, ?_⟩
    split at h
    · rename_i ys
      obtain ⟨_, _, rfl, h1, r⟩ := hv.inv
      obtain ⟨_, rfl⟩ := r.inv
      obtain ⟨b, ws, n2, rfl, q1, q2⟩ := h1.inv
      have L2 := q2.length
      rw [Array.length_toList] at L2
      have hb := h.1
      unfold small at hb
      have g2 := X.fin _ _ q1
      refine call_meets PySem.F.slot_list_extend hL.typeIs PySem.F.entry_list_extend (PySem.F.args_list_extend_2 _ _) (AutoSeq1.list_extend_list_list_0 a us nn b ws n2 (by simp [Builtin.List.listTooLong, sizeL]; omega) (by rw [L, sizeL]; omega) (by rw [L, L2, sizeL]; omega)) ⟨g, g2, ?_⟩
      have hu := Heap.get?_update_self (Obj.mapSeq fun x => x ++ ws) g rfl
      refine ⟨f, _, _, Fz.le.refl f, X.upd (c' := .list (xs ++ ys)) hl (Heap.SameBut.update ..) (foot_self _ _) rfl ⟨us ++ ws, _, hu, ?_⟩, .none, h.2⟩
      rw [Array.toList_append]
      exact uv.append q2
    · exact h.elim
  · exact h.elim
end
end Lend
namespace Lend
section
variable {B : Bs} {G : Gl} {n : Nat} {F S : Store} {Q Q' : CV → Store → Prop} {A : Around} {f T : Fz} {s : Shared}
theorem pst_extF {a : Addr} {o : Obj} {h' : Heap} {t : Nat} {x : CV} (X : St B f T (F ++ S) s) (k : ∀ b o, s.heap.get? b = some o → h'.get? b = some o) (ha : s.heap.get? a = none) (ho : h'.get? a = some o)
    (hv : VIs B (f.put a o) (.ref a) x) (h : Q x S) : Pst B f T F Q (.ref a) { s with heap := h', toks := t } := by
  obtain ⟨Y, l⟩ := X.extF (t := t) k ha ho
  exact ⟨_, _, S, l, Y, hv, h⟩
theorem pst_extDict {own : Bool} {a : Addr} {h' : Heap} {t : Nat} {vkvs : List (Int × Value)} {kvs : List (Int × CV)} (BO : B.Ok) (X : St B f T (F ++ S) s) (k : ∀ b o, s.heap.get? b = some o → h'.get? b = some o)
    (ha : s.heap.objs.size ≤ a) (hd : h'.DictOf (intKind B.prog B.w) a vkvs) (hk : KIs B f vkvs kvs) (h : newDictW own kvs S Q) : Pst B f T F Q (.ref a) { s with heap := h', toks := t } := by
  have lo := X.notMod BO ha
  have hn := ge_none ha
  obtain ⟨o, ho, hio⟩ := Heap.dictOf_iff.mp hd
  unfold newDictW at h
  split at h
  · have fr := X.freshAt hn
    obtain ⟨h1, h2⟩ := lk_fresh fr.2.2
    have Y := X.extC (c := .dict kvs) (t := t) k hn rfl ⟨lo, _, hd, hk⟩
    exact ⟨f, _, _, Fz.le.refl f, Y.perm List.perm_middle.symm, .loc _, h _ h1 h2⟩
  · obtain ⟨Y, l⟩ := X.extF (t := t) k hn ho
    exact ⟨_, _, S, l, Y, .fdict (Fz.put_self ..) lo hio (hk.mono l), h⟩
theorem pst_extList {own : Bool} {a : Addr} {h' : Heap} {t : Nat} {vs : Array Value} {nn : Nat} {xs : List CV} (X : St B f T (F ++ S) s) (k : ∀ b o, s.heap.get? b = some o → h'.get? b = some o)
    (ha : s.heap.objs.size ≤ a) (ho : h'.get? a = some (lobj vs nn)) (hk : VsIs B f vs.toList xs) (h : newListW own xs S Q) : Pst B f T F Q (.ref a) { s with heap := h', toks := t } := by
  have hn := ge_none ha
  unfold newListW at h
  split at h
  · have fr := X.freshAt hn
    obtain ⟨h1, h2⟩ := lk_fresh fr.2.2
    have Y := X.extC (c := .list xs) (t := t) k hn rfl ⟨vs, nn, ho, hk⟩
    exact ⟨f, _, _, Fz.le.refl f, Y.perm List.perm_middle.symm, .loc _, h _ h1 h2⟩
  · obtain ⟨Y, l⟩ := X.extF (t := t) k hn ho
    exact ⟨_, _, S, l, Y, .flist (Fz.put_self ..) (hk.mono l), h⟩
theorem sameBut_new {h h' : Heap} {o : Obj} (hs : Heap.SameBut h.objs.size (h.push o) h') : ∀ b ob, h.get? b = some ob → h'.get? b = some ob := fun b ob e =>
  (hs.2 b (Nat.ne_of_lt (Heap.lt_size e))).trans (Heap.get?_push_of_some _ e)
theorem rangeV (a b : Int) (t u v : Tok) (X : St B f T (F ++ S) s) {k : Nat} (h : Q (.rng a b) S) :
    Pst B f T F Q (.ref s.heap.objs.size) { s with heap := s.heap.push { cls := .type "range", data := .fields #[.int a t, .int b u, .int 1 v] }, toks := k } := by
  obtain ⟨Y, l⟩ := X.pushF (o := { cls := .type "range", data := .fields #[.int a t, .int b u, .int 1 v] }) (t := k) rfl
  exact ⟨_, _, S, l, Y, .rng (Fz.put_self ..) fun h e => ⟨t, u, v, e⟩, h⟩
theorem insI_perm (x : Int) : ∀ l : List Int, (insI x l).Perm (x :: l)
  | [] => .refl _
  | y :: r => by
    unfold insI
    split
    · exact .refl _
    · exact ((insI_perm x r).cons y).trans (.swap ..)
theorem sortI_perm : ∀ l : List Int, (sortI l).Perm l
  | [] => .refl _
  | x :: r => (insI_perm x _).trans ((sortI_perm r).cons x)
set_option tactic.hygienic true in
theorem insI_sorted (x : Int) : ∀ {l : List Int}, l.Pairwise (· ≤ ·) → (insI x l).Pairwise (· ≤ ·)
  | [], _ => by simp [insI]
  | y :: r, h => by
    unfold insI
    split
    · rename_i hxy
      refine .cons (fun z hz => ?_) h
      rcases List.mem_cons.mp hz with rfl | hz
      · exact hxy
      · exact Int.le_trans hxy ((List.pairwise_cons.mp h).1 z hz)
    · rename_i hxy
      have hh := List.pairwise_cons.mp h
      refine .cons (fun z hz => ?_) (insI_sorted x hh.2)
      rcases List.mem_cons.mp ((insI_perm x r).mem_iff.mp hz) with rfl | hz
      · omega
      · exact hh.1 z hz
theorem sortI_sorted : ∀ l : List Int, (sortI l).Pairwise (· ≤ ·)
  | [] => .nil
  | x :: r => insI_sorted x (sortI_sorted r)
theorem intsAreL : ∀ {vs : List Value} {ns : List Int}, vs.length = ns.length → (∀ (j : Nat) (v : Value), vs[j]? = some v → ∃ t, ∃ k, ns[j]? = some k ∧ v = Value.int k t) → IntsAre vs ns
  | [], [], _, _ => .nil
  | [], _ :: _, h, _ => by cases h
  | _ :: _, [], h, _ => by cases h
  | v :: vs, m :: ns, h, k => by
    obtain ⟨t, j, e, rfl⟩ := k 0 v rfl
    simp at e; subst e
    exact .cons _ t (intsAreL (by simpa using h) fun j v hv => by simpa using k (j + 1) v (by simpa using hv))
theorem vsIs_ints : ∀ {vs : List Value} {ns : List Int}, IntsAre vs ns → VsIs B f vs (ns.map CV.int)
  | _, _, .nil => .nil
  | _, _, .cons n t r => .cons (.int n t) (vsIs_ints r)
theorem kis_keys {va : List (Int × Value)} {kvs : List (Int × CV)} (h : KIs B f va kvs) : va.map (·.1) = kvs.map (·.1) := by
  induction kvs generalizing va with
  | nil => obtain ⟨_, rfl⟩ := h.inv; rfl
  | cons p r ih => cases h with | cons a b => simp [ih b]
theorem sorted_dict {a : Addr} {kvs : List (Int × CV)} (hh : A.handled = none) (X : St B f T (F ++ S) s) (D : DictAtH B f s.heap a kvs) (hlen : kvs.length < 64) (h : Q (.flist ((sortI (kvs.map (·.1))).map .int)) S) :
    wpAny (model B.prog B.w) A (call (.builtin "sorted") [.ref a]) (Pst B f T F Q) noE s := by
  obtain ⟨lo, va, d, kv⟩ := D
  have L := kv.length
  obtain ⟨ep, hat⟩ := d.dictAt
  refine PySem.Calls.call_function_entry kind_sorted plain_sorted entry_sorted (args_sorted1 _) ?_
  unfold Builtin.«sorted»
  refine wpAny_bind (m := checkCount "sorted" 1 1 _) (wpAny_pure ?_)
  refine wpAny_bind (kdu_collect (A := A.in1) (kdl_dict (knd := intKind B.prog B.w) (kvs := va) (ep := ep) lo) hh hat (by rw [L, sizeL]; omega) fun h' tk acc hk hacc => ?_)
  have hl : acc.toList.length = va.length := by rw [Array.length_toList]; exact hacc.1
  have hI : IntsAre acc.toList (va.map (·.1)) := intsAreL (by rw [hl]; simp) fun j v hv => by
    obtain ⟨k, x, hx, hkv⟩ := hacc.2 j v (by rw [← Array.getElem?_toList]; exact hv)
    obtain ⟨t, rfl⟩ := Value.isInt_shape hkv
    exact ⟨t, k, by simp [hx], rfl⟩
  refine wpAny_bind (wpAny_newList ?_ (by rw [hl, L, sizeL]; omega))
  have hoL : (h'.push (seqObj "list" acc.toList.toArray 0)).get? h'.objs.size = some (seqObj "list" acc.toList.toArray 0) := Heap.get?_push_size _ rfl
  refine wpAny_bind (wpAny_holding (wpAny_call_entry slot_list_sort ⟨_, hoL, rfl⟩ entry_list_sort (list_sort_tree hoL hI (by rw [hl]; omega) fun out ns' a1 a2 a3 => ⟨_, rfl, ?_⟩) (args_list_sort _)))
  refine wpAny_pure ⟨_, rfl, ?_⟩
  obtain ⟨e, he⟩ := sortedHeap_at (out := out) (n := 0) hoL
  have hns : ns' = sortI (kvs.map (·.1)) := by
    rw [kis_keys kv] at a2
    exact (a2.trans (sortI_perm _).symm).eq_of_pairwise (fun a b _ _ h1 h2 => Int.le_antisymm h1 h2) a3 (sortI_sorted _)
  subst hns
  have hge : s.heap.get? h'.objs.size = none := by
    rcases q : s.heap.get? h'.objs.size with _ | o
    · rfl
    · exact absurd (Heap.lt_size (hk _ _ q)) (Nat.lt_irrefl _)
  refine pst_extF (s := s) X (fun b ob eb => ?_) hge he (.flist (vs := out) (n := e) (Fz.put_self ..) (vsIs_ints a1)) h
  have hb := Heap.lt_size (hk b ob eb)
  rw [sortedHeap_old (Nat.ne_of_lt hb) (by rw [size_push']; exact Nat.lt_succ_of_lt hb), Heap.get?_push_ne _ _ _ (Nat.ne_of_lt hb)]
  exact hk b ob eb
end
end Lend
namespace Lend
theorem no_keys : typeLookup (.type "list") "keys" = pure none := am_miss_of_fast (by kernel_rfl)
theorem getAttrQ_list {prog : Program} {w : World} {A : Around} {E : Option Value → Shared → Prop} {E' : Value → Shared → Prop} {s : Shared} {a : Addr} {xs : Array Value} {k : Nat}
    (hx : s.heap.get? a = some (lobj xs k)) (hA : A.handled = none)
    (h : ∀ h' tk, (∀ b o, s.heap.get? b = some o → h'.get? b = some o) → E none { s with heap := h', toks := tk }) :
    wpAny (model prog w) A (getAttr? (.ref a) "keys") E E' s := by
  obtain ⟨hp, g, d, tk, os⟩ := s
  have hT : ∀ tk', (⟨hp, g, d, tk', os⟩ : Shared).TypeIs (.ref a) "list" := fun _ => ⟨_, hx, rfl⟩
  have f1 := sub_AttributeError
  have f3 := PySem.F.slot_list_getattribute.lookup
  have f4 := PySem.F.slot_list_getattribute.bind (.ref a)
  have f5 := am_list_getattr_none
  unfold getAttr? getAttrBy? getAttrBy
  repeat (any_goals (first | assumption | exact hT _ | ((with_reducible show wpAny _ _ (call (Value.builtin "list.__getattribute__") _ _) _ _ _); refine call_meets PySem.F.slot_list_getattribute (hT _) am_entry_list_getattribute (PySem.F.args_list_getattribute_2 _ _) (meets_getattribute_miss_list a xs k #[] "keys" _ no_keys (by decide +kernel) (by decide +kernel)) ⟨hx, hA, fun h' tk' e hx' => ?_⟩) | wp_step))
  obtain ⟨t', u', he⟩ := hx'.there
  show wpAny _ _ (getattributeRaised _ _ _ _ _ _ _) _ _ _
  unfold getattributeRaised
  repeat (any_goals (first | assumption | wp_step))
  exact h _ _ hx'.keeps
theorem entry_dul : entryFor table "dict.update.loop" = some Builtin.«dict.update.loop» := entryFor_of_tree (by kernel_rfl)
theorem plain_dul : plainId "dict.update.loop" = true := by decide +kernel
section
variable {B : Bs} {A : Around} {f : Fz}
theorem pairItems_tup {s : Shared} {t : Addr} {vs : Array Value} {Q : List Value → Shared → Prop} {E : Value → Shared → Prop} (ht : s.heap.IsTuple t vs) (h : Q vs.toList s) : wpAny (model B.prog B.w) A (Builtin.Dict.pairItems (.ref t)) Q E s := by
  obtain ⟨⟨c, dd, dt, sl⟩, ho, hc, nn, hd⟩ := ht
  simp only at hc hd
  subst hc hd
  obtain ⟨hp, g, d, tk, os⟩ := s
  have hT : (⟨hp, g, d, tk, os⟩ : Shared).TypeIs (.ref t) "tuple" := ⟨_, ho, rfl⟩
  unfold Builtin.Dict.pairItems
  refine wpAny_bind (wpAny_typeOf hT ?_)
  rw [if_pos (by decide)]
  unfold seqItems?
  repeat (any_goals (first | assumption | wp_step))
set_option tactic.hygienic true in
theorem pairs_loop (hh : A.handled = none) {g : Fz} (hfg : Fz.le f g) {d I ax : Addr} {items : Array Value} {nn : Nat} (hax : g ax = some (lobj items nn)) (hd0 : g d = none) (hI0 : g I = none) (hne : d ≠ I) {R : Result → Shared → Prop} :
    ∀ (xs : List CV) (kvs : List (Int × CV)) (j : Nat) (i : Int) (va : List (Int × Value)) (ka : List (Int × CV)) (s : Shared), VsIs B f (items.toList.drop j) xs → pairsOf xs = some kvs → va.length + xs.length ≤ sizeLine → j ≤ items.size →
      (∀ a o, g a = some o → s.heap.get? a = some o) → s.heap.DictOf (intKind B.prog B.w) d va → KIs B f va ka → s.heap.IsListIter I ax j →
      (∀ h' tk, (∀ b o, b ≠ d → b ≠ I → s.heap.get? b = some o → h'.get? b = some o) → (∃ va', h'.DictOf (intKind B.prog B.w) d va' ∧ KIs B f va' (mergeK ka kvs)) → R (.ok (.ret .none)) { s with heap := h', toks := tk }) →
      codeAny (model B.prog B.w) A (.builtin "dict.update.loop" ⟨[.ref d, .ref I, rawInt i, .none], []⟩) R s := by
  intro xs
  induction xs with
  | nil =>
    intro kvs j i va ka s hv hp hsz hj hf hd hk hit hR
    cases hp
    have hjs : j = items.size := by
      have := hv.length
      simp at this; omega
    subst hjs
    have hl : s.heap.IsList ax items := ⟨_, hf _ _ hax, rfl, _, rfl⟩
    refine codeAny_builtin entry_dul ?_
    rw [Around.under_plainId plain_dul _]
    have hIax : ax ≠ I := ne_sn hax hI0
    have W := Walks.list (prog := B.prog) (w := B.w) (A := A.in1) hh I ax hIax items
    show wpAny _ A.in1 (pyNext (.ref I) >>= _) _ _ s
    refine wpAny_bind (W.done s _ _ ⟨hit, hl⟩ fun h' tk hk' => ?_)
    show wpAny _ A.in1 (Builtin.Dict.addKeywords d [] >>= _) _ _ _
    refine wpAny_bind (wpAny_pure (wpAny_pure ?_))
    exact hR h' tk (fun b o _ hb e => hk' b o (by simp [hb]) e) ⟨va, hd.extBut (fun b o hb e => hk' b o (by simpa using hb) e) hne, hk⟩
  | cons x xs ih =>
    intro kvs j i va ka s hv hp hsz hj hf hd hk hit hR
    have hlt : j < items.size := by
      have := hv.length
      simp at this; omega
    rw [List.drop_eq_getElem_cons (by simpa using hlt)] at hv
    have hl : s.heap.IsList ax items := ⟨_, hf _ _ hax, rfl, _, rfl⟩
    have hIax : ax ≠ I := ne_sn hax hI0
    cases hv with
    | cons h1 hr =>
      unfold pairsOf at hp
      split at hp
      · cases ‹_ :: _ = []›
      · rename_i k v r e
        injection e with e1 e2
        subst e1 e2
        obtain ⟨kr, hkr, rfl⟩ := Option.map_eq_some_iff.mp hp
        generalize hit1 : items.toList[j] = it1 at h1
        obtain ⟨t, o, vs, n2, rfl, g1, g2, g3, g4⟩ := h1.inv
        generalize hvs : vs.toList = vl at g4
        obtain ⟨kv', _, rfl, q1, q2⟩ := g4.inv
        cases q2 with
        | @cons vv _ _ _ q2 q3 =>
          obtain ⟨_, rfl⟩ := q3.inv
          obtain ⟨tk0, rfl⟩ := q1.inv
          refine codeAny_builtin entry_dul ?_
          rw [Around.under_plainId plain_dul _]
          show wpAny _ A.in1 (pyNext (.ref I) >>= _) _ _ s
          refine wpAny_bind (wpAny_pyNext_list_item (x := .ref t) hit hl (by rw [← hit1]; simp [hlt]) fun h' hit' hs' => ?_)
          have hf' : ∀ a o, g a = some o → h'.get? a = some o := fun a o e => by
            refine (hs'.2 a ?_).trans (hf a o e)
            exact ne_sn e hI0
          have ht : h'.IsTuple t vs := ⟨o, hf' _ _ (hfg _ _ g1), g2, _, g3⟩
          refine wpAny_bind (wpAny_holding ?_)
          refine wpAny_bind ?_
          refine wpAny_tryCatch (pairItems_tup (s := { s with heap := h' }) ht ?_)
          rw [hvs]
          refine wpAny_holding ?_
          have hd' : h'.DictOf (intKind B.prog B.w) d va := hd.extBut hs'.extBut hne
          refine wpAny_dictSet_pairs (s := { s with heap := h' }) (knd := intKind B.prog B.w) (intKind_is _ _ k tk0) hd' (fun h2 hd2 hs2 => ?_) (by simp at hsz; omega)
          refine wpAny_pure ?_
          refine ⟨plainId_quiet plain_dul _, ?_⟩
          have hf2 : ∀ a o, g a = some o → h2.get? a = some o := fun a o e => by
            refine (hs2.2 a ?_).trans (hf' a o e)
            exact ne_sn e hd0
          refine ih kr (j + 1) (i + 1) _ (putK ka k v) { s with heap := h2, toks := s.toks + 1 } hr hkr ?_ hlt hf2 hd2 (stored_put hk (dictOf_nodup hd) q2) ?_ fun h3 tk3 hk3 hx3 => ?_
          · have := stored_length_le va k vv
            simp at hsz ⊢; omega
          · exact hit'.extBut hs2.extBut (Ne.symm hne)
          · exact hR h3 tk3 (fun b ob hb1 hb2 e => hk3 b ob hb1 hb2 ((hs2.2 b hb1).trans ((hs'.2 b hb2).trans e))) hx3
      · cases hp
theorem dict_pairs_call (hh : A.handled = none) {l : Addr} {items : Array Value} {nn : Nat} {xs : List CV} {kvs : List (Int × CV)} {s : Shared} (hf : ∀ a o, f a = some o → s.heap.get? a = some o) (hl : s.heap.get? l = some (lobj items nn))
    (hv : VsIs B f items.toList xs) (hp : pairsOf xs = some kvs) (hsz : xs.length ≤ sizeLine) {R : Value → Shared → Prop}
    (hR : ∀ h' tk va', (∀ b o, s.heap.get? b = some o → h'.get? b = some o) → h'.DictOf (intKind B.prog B.w) s.heap.objs.size va' → KIs B f va' (mergeK [] kvs) → R (.ref s.heap.objs.size) { s with heap := h', toks := tk }) :
    wpAny (model B.prog B.w) A (call (.type "dict") [.ref l]) R noE s := by
  refine callType_codes (Q₁ := fun obj s₁ => obj = .ref s.heap.objs.size ∧ s₁ = { s with heap := s.heap.push { cls := .type "dict", data := .dict #[] } }) PySem.F.kt_called_dict (PySem.F.kt_typeCall_dict_1 _) PySem.F.entry_dict_init (kt_code_dict_new _ ⟨rfl, rfl⟩) ?_
  rintro obj s₁ ⟨rfl, rfl⟩
  have hnew : (s.heap.push { cls := .type "dict", data := .dict #[] }).DictOf (intKind B.prog B.w) s.heap.objs.size [] := Heap.DictOf.new s.heap
  have hl' : (s.heap.push { cls := .type "dict", data := .dict #[] }).get? l = some (lobj items nn) := Heap.get?_push_of_some _ hl
  have hT : ({ s with heap := s.heap.push { cls := .type "dict", data := .dict #[] } } : Shared).TypeIs (.ref l) "list" := ⟨_, hl', rfl⟩
  refine ⟨hnew.typeIs, PySem.F.args_dict_init_2 _ _, ?_⟩
  unfold Builtin.«dict.__init__»
  refine wpAny_bind ?_
  unfold Builtin.Dict.selfAndRest
  refine wpAny_bind (wpAny_notOrdered_dict hnew.typeIs ?_)
  show wpAny _ _ (pure (s.heap.objs.size, [Value.ref l])) _ _ _
  refine wpAny_pure ?_
  show wpAny _ _ (Builtin.Dict.updateFrom "dict.__init__" s.heap.objs.size (.ref l) [] .none) _ _ _
  unfold Builtin.Dict.updateFrom
  refine wpAny_bind (wpAny_typeOf hT ?_)
  rw [if_pos (by decide)]
  refine wpAny_bind (getAttrQ_list hl' hh fun h1 tk1 hk1 => ?_)
  simp only [Option.isNone_none, if_true]
  refine wpAny_bind (wpAny_rule ?_)
  have hl1 : h1.IsList l items := ⟨_, hk1 _ _ hl', rfl, _, rfl⟩
  refine wpAny_bind (wpAny_pyIter_list (s := { s with heap := h1, toks := tk1 }) hl1 ?_)
  refine wpAny_pure ?_
  refine ⟨plainId_quiet plain_dul _, ?_⟩
  have hd1 : h1.DictOf (intKind B.prog B.w) s.heap.objs.size [] := hnew.keep hk1
  have hlt : s.heap.objs.size < h1.objs.size := by obtain ⟨_, _, _, e, _⟩ := hd1; exact Heap.lt_size e
  have hI : ∀ b o, s.heap.get? b = some o → b ≠ h1.objs.size := fun b o e => Nat.ne_of_lt (Heap.lt_size (hk1 _ _ (Heap.get?_push_of_some _ e)))
  have hkk : ∀ b o, s.heap.get? b = some o → (h1.push { cls := .type "list_iterator", data := .fields #[.ref l, .int 0 0] }).get? b = some o := fun b o e => Heap.get?_push_of_some _ (hk1 _ _ (Heap.get?_push_of_some _ e))
  have key := pairs_loop (B := B) (A := A.in1) (f := f) hh (g := fun b => s.heap.get? b) hf (d := s.heap.objs.size) (I := h1.objs.size) (ax := l) hl (size_none _) ?_ (Nat.ne_of_lt hlt)
    (R := fun r s' => ∃ h' tk va', (∀ b o, s.heap.get? b = some o → h'.get? b = some o) ∧ h'.DictOf (intKind B.prog B.w) s.heap.objs.size va' ∧ KIs B f va' (mergeK [] kvs) ∧ r = .ok (.ret .none) ∧ s' = { s with heap := h', toks := tk })
    xs kvs 0 0 [] [] { s with heap := h1.push { cls := .type "list_iterator", data := .fields #[.ref l, .int 0 0] }, toks := tk1 } ?_ hp (by simpa using hsz) (Nat.zero_le _) hkk ?_ .nil ?_ ?_
  · refine codeAny_mono key fun r s' hr => ?_
    obtain ⟨h', tk, va', k1, k2, k3, rfl, rfl⟩ := hr
    exact ⟨rfl, hR h' tk va' k1 k2 k3⟩
  · rcases e : s.heap.get? h1.objs.size with _ | o
    · rfl
    · exact absurd rfl (hI _ _ e)
  · simpa using hv
  · exact hd1.keep fun b o e => Heap.get?_push_of_some _ e
  · exact ⟨_, Heap.get?_push_size _ rfl, rfl, rfl⟩
  · intro h' tk hk' ⟨va', hd', hx'⟩
    exact ⟨h', tk, va', fun b o e => hk' b o (Nat.ne_of_lt (Heap.lt_size e)) (hI _ _ e) (hkk _ _ e), hd', hx', rfl, rfl⟩
end
end Lend
namespace Lend
section
variable {B : Bs} {G : Gl} {n : Nat} {F S : Store} {Q Q' : CV → Store → Prop} {A : Around} {f T : Fz} {s : Shared}
set_option tactic.hygienic true in
theorem typeCall_rule (BO : B.Ok) (Rm : Room (n + 2) A) {own : Bool} {t : String} {args : List CV} {vs : List Value} (h : typeCallW own t args S Q) (X : St B f T (F ++ S) s) (hv : VsIs B f vs args) :
    wpAny (model B.prog B.w) A (call (.type t) vs) (Pst B f T F Q) noE s := by
  unfold typeCallW at h
  split at h
  · rename_i ht; subst ht
    split at h
    · obtain ⟨_, _, rfl, h1, r⟩ := hv.inv
      obtain ⟨_, rfl⟩ := r.inv; obtain ⟨_, rfl⟩ := h1.inv; exact call_int_int (pst_int X h)
    · obtain ⟨_, _, rfl, h1, r⟩ := hv.inv
      obtain ⟨_, rfl⟩ := r.inv; obtain ⟨_, rfl⟩ := h1.inv; exact call_int_bool (pst_int X h)
    · exact h.elim
  split at h
  · rename_i ht; subst ht
    split at h
    · obtain ⟨_, _, rfl, h1, r⟩ := hv.inv
      obtain ⟨_, rfl⟩ := r.inv; obtain ⟨_, rfl⟩ := h1.inv; exact call_range_1 (rangeV 0 _ _ _ _ X h.2.2)
    · obtain ⟨_, _, rfl, h1, r⟩ := hv.inv
      obtain ⟨_, _, rfl, h2, r2⟩ := r.inv; replace r := r2
      obtain ⟨_, rfl⟩ := r.inv; obtain ⟨_, rfl⟩ := h1.inv; obtain ⟨_, rfl⟩ := h2.inv; exact call_range_2 (rangeV _ _ _ _ _ X h.2.2.2.2)
    · exact h.elim
  split at h
  · rename_i ht; subst ht
    split at h
    · obtain ⟨_, _, rfl, h1, r⟩ := hv.inv
      obtain ⟨_, rfl⟩ := r.inv
      split at h
      · rename_i kvs hk
        obtain ⟨a, rfl, lo, va, d, kv⟩ := view_fdict X h1 hk
        have L := kv.length
        refine kt_call_dict (knd := intKind B.prog B.w) lo d (by rw [L, sizeL]; have := h.1; unfold small at this; omega) fun h' d' hs => ?_
        exact pst_extDict (t := s.toks) BO X (sameBut_new hs) (Nat.le_refl _) d' kv h.2
      · rename_i xs hk
        obtain ⟨a, rfl, us, nn, g, uv⟩ := view_flist X h1 hk
        split at h
        · rename_i kvs hp
          refine dict_pairs_call Rm.h X.fin g uv hp (by rw [sizeL]; have := h.1; unfold small at this; omega) fun h' tk va' k d' kv' => ?_
          exact pst_extDict BO X k (Nat.le_refl _) d' kv' h.2
        · exact h.2.elim
      · exact h.elim
    · exact h.elim
  split at h
  · rename_i ht; subst ht
    split at h
    · obtain ⟨_, _, rfl, h1, r⟩ := hv.inv
      obtain ⟨_, rfl⟩ := r.inv
      split at h
      · rename_i xs hk
        obtain ⟨a, rfl, us, nn, g, uv⟩ := view_flist X h1 hk
        have L := uv.length
        rw [Array.length_toList] at L
        refine call_list_seq a (.inl rfl) g rfl rfl (fun h' c' k ho => ?_) (by rw [L, sizeL]; have := h.1; unfold small at this; omega)
        exact pst_extList (t := s.toks) X k (Nat.le_refl _) ho uv h.2
      · exact h.elim
    · exact h.elim
  split at h
  · rename_i ht; subst ht
    split at h
    · obtain ⟨_, _, rfl, h1, r⟩ := hv.inv
      obtain ⟨_, rfl⟩ := r.inv
      split at h
      · rename_i xs hk
        obtain ⟨a, rfl, us, nn, g, uv⟩ := view_flist X h1 hk
        have L := uv.length
        rw [Array.length_toList] at L
        have hl : s.heap.IsList a us := ⟨_, g, rfl, _, rfl⟩
        refine call_tuple_list hl (fun h' k => ?_) (by rw [L, sizeL]; have := h.1; unfold small at this; omega)
        have Y := X.ext (t := s.toks) k
        have := pst_tup (k := s.toks) (vs := us.toList) Y uv h.2
        simpa using this
      · exact h.elim
    · exact h.elim
  · exact h.elim
set_option tactic.hygienic true in
theorem fnCall_rule (Rm : Room (n + 2) A) {id : String} {args : List CV} {vs : List Value} (h : fnCallW id args S Q) (X : St B f T (F ++ S) s) (hv : VsIs B f vs args) :
    wpAny (model B.prog B.w) A (call (.builtin id) vs) (Pst B f T F Q) noE s := by
  unfold fnCallW at h
  split at h
  · rename_i ht; subst ht
    split at h
    · obtain ⟨_, _, rfl, h1, r⟩ := hv.inv
      obtain ⟨_, rfl⟩ := r.inv
      split at h
      · rename_i x m hm
        obtain ⟨hsm, h⟩ := h
        unfold small at hsm
        unfold lenV at hm
        split at hm
        · rename_i xs hk
          cases hm
          obtain ⟨a, rfl, us, nn, g, uv⟩ := view_flist X h1 hk
          have L := uv.length
          rw [Array.length_toList] at L
          have hl : s.heap.IsList a us := ⟨_, g, rfl, _, rfl⟩
          refine PySem.Calls.call_len_list hl (by omega) ?_
          rw [L]; exact pst_int X h
        · rename_i xs hk
          cases hm
          obtain ⟨a, rfl, us, hl, uv⟩ := view_tup X h1 hk
          have L := uv.length
          rw [Array.length_toList] at L
          refine PyProof.Rows.len_tuple hl (by omega) ?_
          rw [L]; exact pst_int X h
        · rename_i kvs hk
          cases hm
          obtain ⟨a, rfl, lo, va, d, kv⟩ := view_fdict X h1 hk
          have L := kv.length
          refine call_len_dict lo d (by omega) ?_
          rw [L]; exact pst_int X h
        · cases hm
      · exact h.elim
    · exact h.elim
  split at h
  · rename_i ht; subst ht
    split at h
    · rename_i a b
      obtain ⟨_, _, rfl, h1, r⟩ := hv.inv
      obtain ⟨_, _, rfl, h2, r2⟩ := r.inv; replace r := r2
      obtain ⟨_, rfl⟩ := r.inv
      obtain ⟨t1, rfl⟩ := h1.inv
      obtain ⟨t2, rfl⟩ := h2.inv
      refine max_two_ints Rm.h fun h' tk k => ?_
      have Y := X.ext (t := tk) k
      by_cases hab : b > a
      · rw [if_pos hab] at h ⊢; exact pst_int (k := tk) Y h
      · rw [if_neg hab] at h ⊢; exact pst_int (k := tk) Y h
    · exact h.elim
  split at h
  · rename_i ht; subst ht
    split at h
    · obtain ⟨_, _, rfl, h1, r⟩ := hv.inv
      obtain ⟨_, rfl⟩ := r.inv
      split at h
      · rename_i kvs hk
        obtain ⟨a, rfl, D⟩ := view_fdict X h1 hk
        exact sorted_dict Rm.h X D h.1 h.2
      · exact h.elim
    · exact h.elim
  · exact h.elim
end
end Lend
namespace Lend
set_option genSizeOf false
set_option genInjectivity false
noncomputable def valN : List Str → Rho → Str → Option CV
  | y :: N, v :: ρ, x => if x = y then v else valN N ρ x
  | _, _, _ => none
noncomputable def idxN : List Str → Str → Option Nat
  | [], _ => none
  | y :: N, x => if x = y then some 0 else (idxN N x).map (· + 1)
set_option tactic.hygienic true in
theorem valN_idx : ∀ {N : List Str} {x : Str} {i : Nat} {ρ : Rho} {v : CV}, idxN N x = some i → ρ[i]? = some (some v) → valN N ρ x = some v
  | [], _, _, _, _, h, _ => by cases h
  | y :: N, x, i, [], v, h, k => by simp at k
  | y :: N, x, i, u :: ρ, v, h, k => by
    unfold idxN at h; unfold valN
    split at h
    · rename_i e; subst e; cases h; simp at k; simp [k]
    · rename_i e
      obtain ⟨j, hj, rfl⟩ := Option.map_eq_some_iff.mp h
      rw [if_neg e]
      exact valN_idx hj (by simpa using k)
set_option tactic.hygienic true in
theorem valN_set_self : ∀ {N : List Str} {x : Str} {i : Nat} {ρ : Rho} {v : Option CV}, idxN N x = some i → i < ρ.length → valN N (ρ.set i v) x = v
  | [], _, _, _, _, h, _ => by cases h
  | y :: N, x, i, [], v, h, k => by simp at k
  | y :: N, x, i, u :: ρ, v, h, k => by
    unfold idxN at h
    split at h
    · rename_i e; subst e; cases h; simp [valN]
    · rename_i e
      obtain ⟨j, hj, rfl⟩ := Option.map_eq_some_iff.mp h
      simp only [List.set_cons_succ, valN, if_neg e]
      exact valN_set_self hj (by simpa using k)
set_option tactic.hygienic true in
theorem valN_set_ne : ∀ {N : List Str} {x y : Str} {i : Nat} {ρ : Rho} {v : Option CV}, idxN N x = some i → y ≠ x → valN N (ρ.set i v) y = valN N ρ y
  | [], _, _, _, _, _, h, _ => by cases h
  | z :: N, x, y, i, [], v, h, k => by simp
  | z :: N, x, y, i, u :: ρ, v, h, k => by
    unfold idxN at h
    split at h
    · rename_i e; subst e; cases h; simp [valN, k]
    · rename_i e
      obtain ⟨j, hj, rfl⟩ := Option.map_eq_some_iff.mp h
      simp only [List.set_cons_succ, valN]
      split
      · rfl
      · exact valN_set_ne hj k
noncomputable def nsOf (env : Env) (N : List Str) (ρ : Rho) : Str → Option CV := fun x => if env.kindOf x = some .local then valN N ρ x else none
noncomputable def cellsL (N : List Str) (ρ : Rho) (l : List (Str × Addr)) : Store := l.map fun p => (p.2, CO.cell (valN N ρ p.1))
noncomputable def FrL (env : Env) (N : List Str) (ρ : Rho) : Store := (env.locals, CO.ns (nsOf env N ρ)) :: cellsL N ρ env.cells
structure EnvW (env : Env) : Prop where
  kind : env.scope.kind = .function
  glob : env.globals = mainGlobals
  blt : env.builtins = builtinsNs
  nod : (env.cells.map (·.1)).Nodup
  has : ∀ x, env.kindOf x = some .cell ∨ env.kindOf x = some .free → ∃ c, env.cells.lookup x = some c
  non : ∀ p ∈ env.cells, env.kindOf p.1 ≠ some .local
set_option tactic.hygienic true in
theorem lookup_mem : ∀ {l : List (Str × Addr)} {x : Str} {c : Addr}, l.lookup x = some c → (x, c) ∈ l
  | [], _, _, h => by cases h
  | (y, d) :: r, x, c, h => by
    rw [List.lookup_cons] at h
    split at h
    · rename_i e; cases h; rw [beq_iff_eq.mp e]; exact .head _
    · exact .tail _ (lookup_mem h)
section
variable {B : Bs} {G : Gl} {n : Nat} {S : Store} {Q Q' : CV → Store → Prop} {A : Around} {f T : Fz} {s : Shared} {env : Env} {N : List Str} {ρ : Rho}
theorem load_rule (W : EnvW env) (X : St B f T (FrL env N ρ ++ S) s) {x : Str} {i : Nat} {V : CV} (hk : env.kindOf x = some .local ∨ env.kindOf x = some .cell ∨ env.kindOf x = some .free) (hi : idxN N x = some i) (hV : ρ[i]? = some (some V)) (hcd : (x == Str.ofString "__classdict__") = false) (hQ : Q V S) :
    wpAny (model B.prog B.w) A (loadName env x) (Pst B f T (FrL env N ρ) Q) noE s := by
  have hv := valN_idx hi hV
  have hb : env.blockKind = .function := by unfold Env.blockKind; rw [W.kind]; rfl
  have ha : env.scope.kind.isAnnotationScope = false := by rw [W.kind]; rfl
  rcases hk with hk | hk
  · obtain ⟨m, hn, hm⟩ := X.cell (env.locals, _) (.head _)
    obtain ⟨v, h1, h2⟩ := hm x V (by unfold nsOf; rw [if_pos hk]; exact hv)
    refine wpAny_loadName_local W.kind hk hn h1 (pst_of (k := s.toks) X h2 hQ)
  · have hc : ∃ c, env.cells.lookup x = some c := W.has x hk
    obtain ⟨c, hc⟩ := hc
    have hmem : (c, CO.cell (valN N ρ x)) ∈ FrL env N ρ ++ S := List.mem_append_left _ (.tail _ (List.mem_map_of_mem (f := fun p : Str × Addr => (p.2, CO.cell (valN N ρ p.1))) (lookup_mem hc)))
    obtain ⟨ov, h1, h2⟩ := X.cell _ hmem
    obtain ⟨u, h3, h4⟩ := h2 V hv
    subst h3
    unfold loadName
    simp only [ha, Bool.false_and, Bool.false_eq_true, if_false]
    rw [hb]
    rcases hk with hk | hk <;> rw [hk]
    · show wpAny _ _ (cellOf env x >>= fun a => cellGet a >>= fun r => _) _ _ _
      unfold cellOf
      rw [hc]
      refine wpAny_bind (wpAny_pure ?_)
      unfold cellGet
      refine wpAny_bind (wpAny_bind (wpAny_load h1 (wpAny_pure ?_)))
      exact wpAny_pure (pst_of (k := s.toks) X h4 hQ)
    · show wpAny _ _ (if (x == Str.ofString "__classdict__") = true then _ else (cellOf env x >>= fun a => cellGet a >>= fun r => _)) _ _ _
      rw [hcd, if_neg Bool.false_ne_true]
      unfold cellOf
      rw [hc]
      refine wpAny_bind (wpAny_pure ?_)
      unfold cellGet
      refine wpAny_bind (wpAny_bind (wpAny_load h1 (wpAny_pure ?_)))
      exact wpAny_pure (pst_of (k := s.toks) X h4 hQ)
theorem glob_rule (BO : B.Ok) (GO : GlOk B G) (W : EnvW env) (F : Store) (X : St B f T (F ++ S) s) {x : Str} {pos : Pos} {V : CV} (hk : env.kindOf x = some .globalImplicit) (hV : G.gl x = some V) (hd : (x == ("__debug__" : Str)) = false) (hQ : Q V S) :
    wpAny (model B.prog B.w) A (eval (.Name x pos) env) (Pst B f T F Q) noE s := by
  obtain ⟨v, h1, h2⟩ := GO.gl x V hV
  have hv := h2 f X.base
  have hg : s.heap.Ns env.globals B.mg := by rw [W.glob]; exact BO.g.keeps X.keep
  have hb : s.heap.Ns env.builtins B.mb := by rw [W.blt]; exact BO.b.keeps X.keep
  have he : wpAny (model B.prog B.w) A (loadGlobal env x) (Pst B f T F Q) noE s := by
    rcases h1 with h1 | ⟨h1, h3⟩
    · exact PySem.Calls.loadGlobal_global hg h1 (pst_of (k := s.toks) X hv hQ)
    · exact PySem.Calls.loadGlobal_builtin hg h1 hb h3 (pst_of (k := s.toks) X hv hQ)
  exact PySem.Calls.Name_function_global W.kind hk he hd
set_option tactic.hygienic true in
theorem nsOf_other {x : Str} {i : Nat} {v : Option CV} (hi : idxN N x = some i) (hx : env.kindOf x ≠ some .local) : nsOf env N (ρ.set i v) = nsOf env N ρ := by
  funext y
  unfold nsOf
  split
  · rename_i hy
    exact valN_set_ne hi (by rintro rfl; exact hx hy)
  · rfl
theorem cellsL_other {x : Str} {i : Nat} {v : Option CV} (hi : idxN N x = some i) : ∀ {l : List (Str × Addr)}, (∀ p ∈ l, p.1 ≠ x) → cellsL N (ρ.set i v) l = cellsL N ρ l
  | [], _ => rfl
  | p :: l, h => by
    show (p.2, CO.cell _) :: cellsL N _ l = (p.2, CO.cell _) :: cellsL N _ l
    rw [valN_set_ne hi (h p (.head _)), cellsL_other hi fun q hq => h q (.tail _ hq)]
set_option tactic.hygienic true in
theorem cellsL_split {x : Str} {c : Addr} : ∀ {l : List (Str × Addr)}, l.lookup x = some c → (l.map (·.1)).Nodup → ∃ l1 l2, l = l1 ++ (x, c) :: l2 ∧ (∀ p ∈ l1, p.1 ≠ x) ∧ (∀ p ∈ l2, p.1 ≠ x)
  | [], h, _ => by cases h
  | (y, d) :: r, h, hn => by
    rw [List.lookup_cons] at h
    simp only [List.map_cons, List.nodup_cons] at hn
    split at h
    · rename_i e
      have e := beq_iff_eq.mp e
      subst e; cases h
      exact ⟨[], r, rfl, by simp, fun p hp e => hn.1 (e ▸ List.mem_map_of_mem hp)⟩
    · rename_i e
      obtain ⟨l1, l2, rfl, h1, h2⟩ := cellsL_split h hn.2
      refine ⟨(y, d) :: l1, l2, rfl, fun p hp => ?_, h2⟩
      rcases List.mem_cons.mp hp with rfl | hp
      · exact fun q => by simp only at q; subst q; simp at e
      · exact h1 p hp
set_option tactic.hygienic true in
theorem store_rule (W : EnvW env) (X : St B f T (FrL env N ρ ++ S) s) {x : Str} {i : Nat} {v : Value} {V : CV} (hk : env.kindOf x = some .local ∨ env.kindOf x = some .cell ∨ env.kindOf x = some .free) (hi : idxN N x = some i) (hlen : i < ρ.length) (hv : VIs B f v V)
    {P : Unit → Shared → Prop} (hP : ∀ s', St B f T (FrL env N (ρ.set i (some V)) ++ S) s' → P () s') : wpAny (model B.prog B.w) A (storeName env x v) P noE s := by
  have hb : env.blockKind = .function := by unfold Env.blockKind; rw [W.kind]; rfl
  rcases hk with hk | hk
  · obtain ⟨m, hn, hm⟩ := X.cell (env.locals, _) (.head _)
    have hp : (env.scope.kind == .class || (env.scope.kind == .module && env.locals != env.globals)) = false := by rw [W.kind]; rfl
    refine wpAny_storeName_local hk hn (fun h' hn' hs => ?_) hp
    refine hP _ ?_
    have hcl : cellsL N (ρ.set i (some V)) env.cells = cellsL N ρ env.cells := cellsL_other hi fun p hp e => W.non p hp (by rw [e]; exact hk)
    have Y := St.change (t := s.toks + 1) (c' := CO.ns (nsOf env N (ρ.set i (some V)))) X hs (foot_self _ _) rfl ⟨_, hn', fun y Z hy => ?_⟩
    · unfold FrL; rw [hcl]; exact Y
    · unfold nsOf at hy
      split at hy
      · rename_i hyk
        by_cases e : y = x
        · subst e
          rw [valN_set_self hi hlen] at hy
          cases hy
          exact ⟨v, by simp, hv⟩
        · rw [valN_set_ne hi e] at hy
          rw [if_neg e]
          exact hm y Z (by unfold nsOf; rw [if_pos hyk]; exact hy)
      · cases hy
  · obtain ⟨c, hc⟩ := W.has x hk
    obtain ⟨l1, l2, hl, h1, h2⟩ := cellsL_split hc W.nod
    have hnl : env.kindOf x ≠ some .local := by rcases hk with h | h <;> rw [h] <;> simp
    have e1 : FrL env N ρ ++ S = ((env.locals, CO.ns (nsOf env N ρ)) :: cellsL N ρ l1) ++ (c, CO.cell (valN N ρ x)) :: (cellsL N ρ l2 ++ S) := by
      unfold FrL; rw [hl]; simp [cellsL]
    have e2 : FrL env N (ρ.set i (some V)) ++ S = ((env.locals, CO.ns (nsOf env N ρ)) :: cellsL N ρ l1) ++ (c, CO.cell (some V)) :: (cellsL N ρ l2 ++ S) := by
      unfold FrL
      rw [nsOf_other hi hnl, hl]
      have : cellsL N (ρ.set i (some V)) (l1 ++ (x, c) :: l2) = cellsL N (ρ.set i (some V)) l1 ++ (c, CO.cell (valN N (ρ.set i (some V)) x)) :: cellsL N (ρ.set i (some V)) l2 := by simp [cellsL]
      rw [this, valN_set_self hi hlen, cellsL_other hi h1, cellsL_other hi h2]
      simp
    rw [e1] at X
    have X' := X.perm List.perm_middle
    obtain ⟨ov, g1, g2⟩ := X'.cell (c, _) (.head _)
    have key : wpAny (model B.prog B.w) A (cellSet c (some v)) P noE s := by
      unfold cellSet
      refine wpAny_bind (wpAny_load g1 ?_)
      refine wpAny_update g1 ?_
      refine hP _ ?_
      rw [e2]
      have hu := Heap.get?_update_self (fun o : Obj => { o with data := .cell (some v) }) g1 rfl
      have Y := St.change (t := s.toks) (c' := CO.cell (some V)) X' (Heap.SameBut.update s.heap c _) (foot_self _ _) rfl ⟨some v, hu, fun Z hZ => by cases hZ; exact ⟨v, rfl, hv⟩⟩
      exact Y.perm List.perm_middle.symm
    have hcls : (env.scope.kind == .class && env.kindOf x == some .cell) = false := by rw [W.kind]; rfl
    unfold storeName
    have hne : (env.kindOf x == some .globalImplicit && env.blockKind != .function) = false := by rw [hb]; simp
    rw [hne]
    simp only [Bool.false_eq_true, if_false]
    rcases hk with hk | hk
    · rw [hk] at hcls ⊢
      simp only [hcls, Bool.false_eq_true, if_false]
      unfold cellOf
      rw [hc]
      exact wpAny_bind (wpAny_pure key)
    · rw [hk] at hcls ⊢
      simp only [hcls, Bool.false_eq_true, if_false]
      unfold cellOf
      rw [hc]
      exact wpAny_bind (wpAny_pure key)
end
end Lend
namespace Lend
theorem Room.deeper {n : Nat} {A : Around} (R : Room (n + 1) A) (env : Env) : Room n (A.deeper env) :=
  ⟨R.h, by have := R.d; show A.depth + 1 + n < _; omega, by have := R.u; show A.units + 3 + 12 * n + 300 < _; omega⟩
theorem Room.mark {n : Nat} {A : Around} (R : Room n A) : Room n (A.mark none) := ⟨by show (none : Option Value).or A.handled = none; rw [R.h]; rfl, R.d, R.u⟩
inductive CPost (B : Bs) (f T : Fz) (Q : CV → Store → Prop) (r : Result) (s' : Shared) : Prop
  | mk (v : Value) (f' : Fz) (x : CV) (S' : Store) (e : r = .ok (.ret v)) (l : Fz.le f f') (X : St B f' T S' s') (va : VIs B f' v x) (q : Q x S') : CPost B f T Q r s'
noncomputable def FnOk (B : Bs) (n : Nat) (fa : Addr) (args : List CV) (S : Store) (Q : CV → Store → Prop) : Prop :=
  keepIn B.K (.ref fa) = true ∧ ∀ A f T s vs, Room n A → St B f T S s → VsIs B f vs args → codeAny (model B.prog B.w) A (.call (.ref fa) ⟨vs, []⟩) (CPost B f T Q) s
noncomputable def FlIs (B : Bs) (f : Fz) : Flow → Fl → Prop
  | .next, .next => True
  | .ret v, .ret V => VIs B f v V
  | _, _ => False
inductive SPst (B : Bs) (f T : Fz) (env : Env) (N : List Str) (Q : Fl → Rho → Store → Prop) (fl : Flow) (s' : Shared) : Prop
  | mk (f' : Fz) (ρ' : Rho) (S' : Store) (fl' : Fl) (l : Fz.le f f') (X : St B f' T (FrL env N ρ' ++ S') s') (va : FlIs B f' fl fl') (q : Q fl' ρ' S') : SPst B f T env N Q fl s'
theorem SPst.elim {B : Bs} {f T : Fz} {env : Env} {N : List Str} {Q : Fl → Rho → Store → Prop} {v : Flow} {s : Shared} {P : Prop} (p : SPst B f T env N Q v s) (k : ∀ f' ρ' S' fl', Fz.le f f' → St B f' T (FrL env N ρ' ++ S') s → FlIs B f' v fl' → Q fl' ρ' S' → P) : P := by
  obtain ⟨f', x, S', y, a, b, c, d⟩ := p; exact k f' x S' y a b c d
noncomputable def SOk (B : Bs) (n : Nat) (env : Env) (N : List Str) (ρ : Rho) (S : Store) (t : Sem Flow) (Q : Fl → Rho → Store → Prop) : Prop :=
  ∀ A f T s, Room n A → St B f T (FrL env N ρ ++ S) s → wpAny (model B.prog B.w) A t (SPst B f T env N Q) noE s
section
variable {B : Bs} {n : Nat} {S F : Store} {Q Q' : CV → Store → Prop} {A : Around} {f T : Fz} {s : Shared} {env : Env} {N : List Str} {ρ : Rho}
theorem FnOk.le {m : Nat} {fa : Addr} {args : List CV} (h : FnOk B n fa args S Q) (k : n ≤ m) : FnOk B m fa args S Q := ⟨h.1, fun A f T s vs R X hv => h.2 A f T s vs (R.le k) X hv⟩
set_option tactic.hygienic true in
open Classical in
theorem St.parkAll {X : Store} (x : St B f T (X ++ S) s) : ∃ T' : Fz, St B f T' S s ∧ ∀ f' S' s', Fz.le f f' → St B f' T' S' s' → St B f' T (X ++ S') s' := by
  have sep := x.sep
  rw [feet_append] at sep
  obtain ⟨n1, n2, n3⟩ := List.nodup_append.mp sep
  have xf : ∀ b ∈ feet X, ∃ o, s.heap.get? b = some o := fun b hb => by
    obtain ⟨p, hp, hb⟩ := mem_feet.mp hb
    exact (x.cell p (List.mem_append_left _ hp)).lt b hb
  have xd : ∀ b ∈ feet X, f b = none ∧ T b = none := fun b hb => x.dis b (by rw [feet_append]; exact List.mem_append_left _ hb)
  refine ⟨fun b => if b ∈ feet X then s.heap.get? b else T b, ?_, fun f' S' s' l y => ?_⟩
  · have y := x.sub (S' := S) (List.sublist_append_right ..)
    refine ⟨y.gens, y.os, y.base, y.fin, fun b o e => ?_, y.cell, fun b hb => ⟨(y.dis b hb).1, ?_⟩, y.sep⟩
    · try dsimp only at e
      split at e
      · rename_i hb; exact ⟨e, (xd b hb).1⟩
      · exact y.tin b o e
    · try dsimp only
      rw [if_neg (fun h => n3 b h b hb rfl)]
      exact (y.dis b hb).2
  · have tn : ∀ b ∈ feet X, ∃ o, s.heap.get? b = some o ∧ s'.heap.get? b = some o ∧ f' b = none := fun b hb => by
      obtain ⟨o, ho⟩ := xf b hb
      have := y.tin b o (by (try dsimp only); rw [if_pos hb]; exact ho)
      exact ⟨o, ho, this.1, this.2⟩
    have dS : ∀ b ∈ feet S', f' b = none ∧ T b = none ∧ b ∉ feet X := fun b hb => by
      have q := y.dis b hb
      have hx : b ∉ feet X := fun h => by
        obtain ⟨o, ho⟩ := xf b h
        have := q.2
        try dsimp only at this
        rw [if_pos h, ho] at this; cases this
      have := q.2
      try dsimp only at this
      rw [if_neg hx] at this
      exact ⟨q.1, this, hx⟩
    refine ⟨y.gens, y.os, y.base, y.fin, fun b o e => y.tin b o ?_, fun p hp => ?_, fun b hb => ?_, ?_⟩
    · try dsimp only
      rw [if_neg]; exact e
      intro h; rw [(xd b h).2] at e; cases e
    · rcases List.mem_append.mp hp with hp | hp
      · refine (x.cell p (List.mem_append_left _ hp)).keep l fun b hb => ?_
        obtain ⟨o, h1, h2, _⟩ := tn b (mem_feet.mpr ⟨p, hp, hb⟩)
        rw [h1, h2]
      · exact y.cell p hp
    · rw [feet_append] at hb
      rcases List.mem_append.mp hb with hb | hb
      · obtain ⟨o, _, _, h3⟩ := tn b hb
        exact ⟨h3, (xd b hb).2⟩
      · exact ⟨(dS b hb).1, (dS b hb).2.1⟩
    · rw [feet_append]
      refine List.nodup_append.mpr ⟨n1, y.sep, fun a ha b hb e => ?_⟩
      subst e
      exact (dS a hb).2.2 ha
theorem FnOk.call {fa : Addr} {args : List CV} (h : FnOk B n fa args S Q) (R : Room n A) (X : St B f T (F ++ S) s) {vs : List Value} (hv : VsIs B f vs args) :
    wpAny (model B.prog B.w) A (call (.ref fa) vs) (Pst B f T F Q) noE s := by
  obtain ⟨T', Y, back⟩ := X.parkAll
  refine wpAny_call (codeAny_mono (h.2 A f T' s vs R Y hv) fun r s' pp => ?_)
  obtain ⟨v, f', x, S', e, l, Z, hx, q⟩ := pp
  subst e
  exact ⟨f', x, S', l, back f' S' s' l Z, hx, q⟩
noncomputable def bindR (N : List Str) : Rho → List (Str × CV) → Rho
  | ρ, [] => ρ
  | ρ, (x, v) :: r => match idxN N x with
    | some i => bindR N (ρ.set i (some v)) r
    | none => ρ
theorem cells_loop (W : Scope) : ∀ (names : List (Str × NameKind)) (cells : List (Str × Addr)) (s : Shared) (S : Store), St B f T S s →
    (∀ p ∈ cells, S.lookup p.2 = S.lookup p.2) → ∀ (Q : List (Str × Addr) → Shared → Prop),
    (∀ (new : List (Str × Addr)) s', new.map (·.1) = ((names.filter (·.2 == .cell)).map (·.1)).reverse → St B f T ((new.map fun p => (p.2, CO.cell none)) ++ S) s' → Q (new ++ cells) s') →
    wpAny (model B.prog B.w) A (forIn names cells fun x cells => do
      let (name, kind) := x
      if kind == .cell then pure (ForInStep.yield ((name, ← alloc { cls := .type "cell", data := .cell none }) :: cells)) else pure (ForInStep.yield cells)) Q noE s := by
  intro names
  induction names with
  | nil =>
    intro cells s S X _ Q h
    rw [List.forIn_nil]
    exact wpAny_pure (h [] s rfl X)
  | cons p r ih =>
    intro cells s S X hc Q h
    obtain ⟨x, k⟩ := p
    rw [List.forIn_cons]
    by_cases hk : k = .cell
    · subst hk
      simp only [beq_self_eq_true, if_true]
      refine wpAny_bind (wpAny_bind (wpAny_alloc (wpAny_pure ?_)))
      have Y := X.pushC (o := cobj none) (c := .cell none) (t := s.toks) rfl rfl ⟨none, Heap.get?_push_size _ rfl, fun V h => by cases h⟩
      refine ih _ _ _ Y (fun _ _ => rfl) Q fun new s' hn Z => ?_
      have := h (new ++ [(x, s.heap.objs.size)]) s' (by simp [hn]) (by simpa using Z)
      simpa using this
    · have hb : (k == NameKind.cell) = false := by simpa using hk
      simp only [hb, Bool.false_eq_true, if_false]
      refine wpAny_bind (wpAny_pure ?_)
      refine ih _ _ _ X hc Q fun new s' hn Z => h new s' (by rw [hn]; simp [List.filter_cons, hb]) Z
theorem binds_loop (W : EnvW env) : ∀ (binds : List (Str × Value)) (bx : List (Str × CV)) (ρ : Rho) (s : Shared), binds.map (·.1) = bx.map (·.1) → VsIs B f (binds.map (·.2)) (bx.map (·.2)) → St B f T (FrL env N ρ ++ S) s →
    (∀ p ∈ binds, (env.kindOf p.1 = some .local ∨ env.kindOf p.1 = some .cell ∨ env.kindOf p.1 = some .free) ∧ ∃ i, idxN N p.1 = some i ∧ i < ρ.length) → ∀ (Q : PUnit → Shared → Prop),
    (∀ s', St B f T (FrL env N (bindR N ρ bx) ++ S) s' → Q ⟨⟩ s') →
    wpAny (model B.prog B.w) A (forIn binds (⟨⟩ : PUnit) fun x _ => do
      let (name, v) := x
      storeName env name v
      pure (ForInStep.yield ⟨⟩)) Q noE s := by
  intro binds
  induction binds with
  | nil =>
    intro bx ρ s hn hv X _ Q h
    rcases bx with _ | ⟨_, _⟩
    · rw [List.forIn_nil]; exact wpAny_pure (h s X)
    · cases hn
  | cons p r ih =>
    intro bx ρ s hn hv X hk Q h
    rcases bx with _ | ⟨q, bx⟩
    · cases hn
    · obtain ⟨x, v⟩ := p
      obtain ⟨y, V⟩ := q
      simp only [List.map_cons, List.cons.injEq] at hn
      obtain ⟨rfl, hn⟩ := hn
      cases hv with
      | cons h1 h2 =>
        rw [List.forIn_cons]
        obtain ⟨k1, i, hi, hlt⟩ := hk _ (.head _)
        refine wpAny_bind (wpAny_bind (store_rule W X k1 hi hlt h1 fun s' Y => wpAny_pure ?_))
        refine ih bx (ρ.set i (some V)) s' hn h2 Y (fun p hp => ?_) Q fun s'' Z => h s'' ?_
        · obtain ⟨k2, j, hj, hl⟩ := hk p (.tail _ hp)
          exact ⟨k2, j, hj, by simpa using hl⟩
        · unfold bindR; rw [hi]; exact Z
set_option tactic.hygienic true in
theorem newEnv_rule {scope : Scope} (hk : scope.kind = .function) (hn : (scope.names.map (·.1)).Nodup) (hf : ∀ p ∈ scope.names, p.2 ≠ .free) (X : St B f T S s) {binds : List (Str × Value)} {bx : List (Str × CV)} {qual : Str} {fa : Addr} {code : Value}
    (hbn : binds.map (·.1) = bx.map (·.1)) (hv : VsIs B f (binds.map (·.2)) (bx.map (·.2)))
    (hok : ∀ p ∈ binds, (scope.names.lookup p.1 = some .local ∨ scope.names.lookup p.1 = some .cell) ∧ ∃ i, idxN N p.1 = some i ∧ i < N.length) {Q : Env → Shared → Prop}
    (h : ∀ env s', EnvW env → env.scope = scope → St B f T (FrL env N (bindR N (List.replicate N.length none) bx) ++ S) s' → Q env s') :
    wpAny (model B.prog B.w) A (newFunctionEnv scope mainGlobals [] binds qual (some fa) code none builtinsNs) Q noE s := by
  unfold newFunctionEnv
  refine wpAny_bind (wpAny_alloc ?_)
  have X1 := X.pushC (o := { cls := .type "frame", data := .dict #[] }) (c := .ns fun _ => none) (t := s.toks) rfl rfl ⟨_, Heap.Ns.new .., fun x V h => by cases h⟩
  refine wpAny_bind (cells_loop (W := scope) scope.names [] _ _ X1 (fun _ _ => rfl) _ fun new s1 hnew X2 => ?_)
  rw [List.append_nil]
  have hmemn : ∀ p ∈ new, (p.1, NameKind.cell) ∈ scope.names := fun p hp => by
    have : p.1 ∈ new.map (·.1) := List.mem_map_of_mem hp
    rw [hnew, List.mem_reverse] at this
    obtain ⟨q, hq, e⟩ := List.mem_map.mp this
    obtain ⟨h1, h2⟩ := List.mem_filter.mp hq
    have h3 := beq_iff_eq.mp h2
    rw [← e, ← h3]
    exact h1
  have hlook : ∀ {l : List (Str × NameKind)} {x : Str} {k : NameKind}, (l.map (·.1)).Nodup → (x, k) ∈ l → l.lookup x = some k := by
    intro l x k
    induction l with
    | nil => intro _ h; cases h
    | cons p r ih =>
      intro hn hm
      obtain ⟨y, k'⟩ := p
      simp only [List.map_cons, List.nodup_cons] at hn
      rw [List.lookup_cons]
      rcases List.mem_cons.mp hm with e | hm
      · cases e; simp
      · have : (x == y) = false := by
          exact beq_eq_false_iff_ne.mpr fun e => hn.1 (List.mem_map.mpr ⟨(x, k), hm, e⟩)
        rw [this]; exact ih hn.2 hm
  have hnd : (new.map (·.1)).Nodup := by
    rw [hnew]
    refine (List.reverse_perm _).nodup_iff.mpr ?_
    exact (hn.sublist ((List.filter_sublist).map _))
  have hrev : ∀ {l : List (Str × NameKind)} {x : Str} {k : NameKind}, l.lookup x = some k → (x, k) ∈ l := by
    intro l x k
    induction l with
    | nil => intro h; cases h
    | cons p r ih =>
      intro h
      obtain ⟨y, k'⟩ := p
      rw [List.lookup_cons] at h
      split at h
      · rename_i e; cases h; rw [beq_iff_eq.mp e]; exact .head _
      · exact .tail _ (ih h)
  let env : Env := { scope := scope, locals := s.heap.objs.size, globals := mainGlobals, cells := new, qual := qual, func := some fa, code := code, frame := some s.heap.objs.size, builtins := builtinsNs }
  have W : EnvW env := by
    refine ⟨hk, rfl, rfl, hnd, fun x hx => ?_, fun p hp e => ?_⟩
    · rcases hx with hx | hx
      · have hm : x ∈ new.map (·.1) := by
          rw [hnew, List.mem_reverse]
          have := hrev hx
          exact List.mem_map.mpr ⟨(x, .cell), List.mem_filter.mpr ⟨this, by simp⟩, rfl⟩
        obtain ⟨p, hp, e⟩ := List.mem_map.mp hm
        rcases q : new.lookup x with _ | c
        · exfalso
          have : ∀ {l : List (Str × Addr)}, l.lookup x = none → ∀ p ∈ l, p.1 ≠ x := by
            intro l
            induction l with
            | nil => intro _ p hp; cases hp
            | cons y r ih =>
              intro h p hp
              obtain ⟨z, d⟩ := y
              rw [List.lookup_cons] at h
              split at h
              · cases h
              · rename_i hz
                rcases List.mem_cons.mp hp with rfl | hp
                · intro e; simp only at e; subst e; simp at hz
                · exact ih h p hp
          exact this q p hp e
        · exact ⟨c, rfl⟩
      · exact absurd rfl (hf _ (hrev hx))
    · have := hlook hn (hmemn p hp)
      have e' : scope.names.lookup p.1 = some .local := e
      rw [this] at e'; cases e'
  have hvn : ∀ (N : List Str) (x : Str), valN N (List.replicate N.length none) x = none := by
    intro N x
    induction N with
    | nil => rfl
    | cons y N ih =>
      rw [List.length_cons, List.replicate_succ]
      unfold valN
      split
      · rfl
      · exact ih
  have X3 : St B f T (FrL env N (List.replicate N.length none) ++ S) s1 := by
    have e1 : nsOf env N (List.replicate N.length none) = fun _ => none := by
      funext x; unfold nsOf; rw [hvn]; split <;> rfl
    have e2 : cellsL N (List.replicate N.length none) new = new.map fun p => (p.2, CO.cell none) := by
      unfold cellsL
      exact List.map_congr_left fun p _ => by rw [hvn]
    show St B f T ((s.heap.objs.size, CO.ns (nsOf env N _)) :: cellsL N _ new ++ S) s1
    rw [e1, e2]
    exact X2.perm (List.perm_middle.trans (by simp))
  refine wpAny_bind (binds_loop (env := env) W binds bx _ s1 hbn hv X3 (fun p hp => ?_) _ fun s2 X4 => wpAny_pure (h env s2 W rfl X4))
  obtain ⟨h1, i, h2, h3⟩ := hok p hp
  exact ⟨h1.elim .inl (fun e => .inr (.inl e)), i, h2, by simpa using h3⟩
theorem fn_enter (BO : B.Ok) {fa : Addr} {oc : Value} {od : Option Addr} {osl : Array (Option Value)} {fd : FuncData} {body : List Stmt} {names : List Str} {args dx : List CV} {dv : List Value}
    (hK : B.K.lookup fa = some ⟨oc, od, .func fd, osl⟩) (hkeep : keepIn B.K (.ref fa) = true) (hcode : codeIn B.K fd.code fd.qualname = true) (hbody : fd.body = .stmts body)
    (hcl : fd.closure = []) (hgl : fd.globals = mainGlobals) (hbl : fd.builtins = builtinsNs) (hco : fd.scope.isCoroutine = false) (hgen : fd.scope.isGenerator = false) (hkind : fd.scope.kind = .function)
    (hnod : (fd.scope.names.map (·.1)).Nodup) (hfree : ∀ p ∈ fd.scope.names, p.2 ≠ .free) (hdx : ∀ f, VsIs B f dv dx) (hlen : names.length = args.length + dx.length)
    (hbind : ∀ s vs, B.K.In s.heap → vs.length = args.length → BindsTo s fd ⟨vs, []⟩ (names.zip (vs ++ dv)))
    (hok : ∀ x ∈ names, (fd.scope.names.lookup x = some .local ∨ fd.scope.names.lookup x = some .cell) ∧ ∃ i, idxN N x = some i ∧ i < N.length)
    (h : ∀ env, EnvW env → env.scope = fd.scope → SOk B n env N (bindR N (List.replicate N.length none) (names.zip (args ++ dx))) S (execs body env) fun fl _ S' => match fl with
      | .ret v => Q v S'
      | .next => Q .none S') : FnOk B (n + 1) fa args S Q := by
  refine ⟨hkeep, fun A f T s vs R X hv => ?_⟩
  have XK := X.kin BO
  have hroom : A.depth < recursionLimit := by have := R.d; omega
  have L := hv.length
  have hv2 := hv.append (hdx f)
  have L2 := hv2.length
  refine codeAny_call_function hroom (XK _ _ hK) rfl hco hgen hbody (codeRec_of XK hcode) (hbind s vs XK L _ _ _ _ ?_)
  rw [hcl, hgl, hbl]
  have z1 : (names.zip (vs ++ dv)).map (·.1) = names := List.map_fst_zip (by simp only [List.length_append] at L2 ⊢; omega)
  have z2 : (names.zip (args ++ dx)).map (·.1) = names := List.map_fst_zip (by simp only [List.length_append]; omega)
  have z3 : (names.zip (vs ++ dv)).map (·.2) = vs ++ dv := List.map_snd_zip (by simp only [List.length_append] at L2 ⊢; omega)
  have z4 : (names.zip (args ++ dx)).map (·.2) = args ++ dx := List.map_snd_zip (by simp only [List.length_append]; omega)
  refine wpAny_mono (Q := fun env s₂ => s₂.heap.NoLimit ∧ codeAny (model B.prog B.w) A (Code.func body env) (CPost B f T Q) s₂) (newEnv_rule (N := N) (bx := names.zip (args ++ dx)) hkind hnod hfree X (by rw [z1, z2]) (by rw [z3, z4]; exact hv2) (fun p hp => hok p.1 (by rw [← z1]; exact List.mem_map_of_mem (f := (·.1)) hp)) fun env s' W hs Y => ?_) (fun _ _ q => q) fun _ _ e => e.elim
  refine ⟨BO.lim.keeps Y.keep, codeAny_func ?_⟩
  refine wpAny_mono (h env W hs (A.deeper env) f T s' (R.deeper env) Y) (fun fl s'' pp => pp.elim fun f' ρ' S' fl' l Z hfl q => ?_) fun _ _ e => e.elim
  have Z' : St B f' T S' s'' := Z.sub (List.sublist_append_right ..)
  cases fl <;> cases fl' <;> first | exact hfl.elim | skip
  · exact ⟨_, f', .none, S', rfl, l, Z', .none, q⟩
  · exact ⟨_, f', _, S', rfl, l, Z', hfl, q⟩
end
end Lend
namespace Lend
section
variable {B : Bs} {n : Nat} {S F : Store} {Q Q' : CV → Store → Prop} {A : Around} {f T : Fz} {s : Shared} {env : Env} {N : List Str} {ρ : Rho}
theorem Room.tc {C : Addr} {rest : List Value} (R : Room (n + 1) A) : Room n (A.under (.builtin "type.__call__" ⟨.ref C :: rest, []⟩)) := by
  have hw : (Code.builtin "type.__call__" ⟨.ref C :: rest, []⟩).weight ≤ 1 := by
    show _ + _ + _ + _ ≤ 1
    have h1 : (Code.builtin "type.__call__" ⟨.ref C :: rest, []⟩).frames = 0 := rfl
    have h2 : (Code.builtin "type.__call__" ⟨.ref C :: rest, []⟩).isGuard = false := by
      show guardIds.contains "type.__call__" = false
      decide
    have h3 : (Code.builtin "type.__call__" ⟨.ref C :: rest, []⟩).isCaller = false := rfl
    rw [h1, h2, h3]
    split <;> simp
  have hu : (Code.builtin "type.__call__" ⟨.ref C :: rest, []⟩).cUnits ≤ 3 := by
    have h1 : (Code.builtin "type.__call__" ⟨.ref C :: rest, []⟩).frames = 0 := rfl
    show 1 + 3 * (Code.builtin "type.__call__" ⟨.ref C :: rest, []⟩).frames ≤ 3
    rw [h1]; decide
  refine ⟨R.h, ?_, ?_⟩
  · have := R.d; show A.depth + _ + n < _; omega
  · have := R.u; show A.units + _ + 12 * n + 300 < _; omega
theorem cls_enter (BO : B.Ok) {C init : Addr} {args : List CV} (hkeep : keepIn B.K (.ref C) = true) (hm : makesIn B.K C = true) (hi : findIn B.K (.ref C) "__init__" = some (some (.ref init))) (hfn : typeIn B.K (.ref init) = some (.type "function"))
    (h : ∀ b d, lk S b = none → (∀ p ∈ S, p.1 ≠ b) → FnOk B n init (.loc b :: args) ((b, .inst C d []) :: S) fun v S' => v = .none ∧ Q (.loc b) S') : FnOk B (n + 1) C args S Q := by
  refine ⟨hkeep, fun A f T s vs R X hv => ?_⟩
  have XK := X.kin BO
  obtain ⟨hp, g, dr, t, os⟩ := s
  refine make_core (makes_of XK hm) (looks_findIn XK hi) (fun self => bind_fn XK self hfn) (.inl (by rfl)) ?_
  have Y1 := X.pushC (o := emptyDict) (c := .obj emptyDict) (t := t) rfl rfl (Heap.get?_push_size _ rfl)
  have fr1 := X.fresh
  have Y2 : St B f T ((hp.objs.size + 1, CO.inst C hp.objs.size []) :: S) ⟨(hp.push emptyDict).push (instObj C hp.objs.size), g, dr, t, os⟩ := by
    have hs1 : (hp.push emptyDict).objs.size = hp.objs.size + 1 := Heap.size_push ..
    have fr := Y1.fresh
    have hgx : ((hp.push emptyDict).push (instObj C hp.objs.size)).get? (hp.objs.size + 1) = some (instObj C hp.objs.size) := by rw [← hs1]; exact Heap.get?_push_size _ rfl
    have hgd : ((hp.push emptyDict).push (instObj C hp.objs.size)).get? hp.objs.size = some (dictOf [] 0) := Heap.get?_push_of_some _ (Heap.get?_push_size _ rfl)
    have k : ∀ b o, (hp.push emptyDict).get? b = some o → ((hp.push emptyDict).push (instObj C hp.objs.size)).get? b = some o := fun b o e => Heap.get?_push_of_some _ e
    have Z := Y1.ext (t := t) k
    have Zs := Z.sub (S' := S) (List.sublist_cons_self ..)
    have hf1 : f (hp.objs.size + 1) = none := by
      have := fr.1
      rw [hs1] at this; exact this
    have hT1 : T (hp.objs.size + 1) = none := by
      have := fr.2.1
      rw [hs1] at this; exact this
    have hS1 : hp.objs.size + 1 ∉ feet S := by
      have := fr.2.2
      rw [hs1, feet_cons] at this
      exact fun h => this (List.mem_append_right _ h)
    refine ⟨Zs.gens, Zs.os, Zs.base, Zs.fin, Zs.tin, fun p hp' => ?_, fun b hb => ?_, ?_⟩
    · rcases List.mem_cons.mp hp' with rfl | hp'
      · exact ⟨hgx, [], 0, hgd, .nil⟩
      · exact Zs.cell p hp'
    · rw [feet_cons] at hb
      rcases List.mem_append.mp hb with hb | hb
      · simp [foot] at hb
        rcases hb with rfl | rfl
        · exact ⟨hf1, hT1⟩
        · exact ⟨fr1.1, fr1.2.1⟩
      · exact Zs.dis b hb
    · rw [feet_cons]
      show ([hp.objs.size + 1, hp.objs.size] ++ feet S).Nodup
      refine List.nodup_cons.mpr ⟨?_, List.nodup_cons.mpr ⟨fr1.2.2, X.sep⟩⟩
      intro h
      rcases List.mem_cons.mp h with h | h
      · exact absurd h (Nat.succ_ne_self _)
      · exact hS1 h
  have hk1 : hp.objs.size + 1 ∉ feet (([] : Store) ++ S) := by
    have fr := Y1.fresh
    have hs1 : (hp.push emptyDict).objs.size = hp.objs.size + 1 := Heap.size_push ..
    have := fr.2.2
    rw [hs1, feet_cons] at this
    exact fun h => this (List.mem_append_right _ h)
  obtain ⟨l1, l2⟩ := lk_fresh (F := []) hk1
  have H := h (hp.objs.size + 1) hp.objs.size l1 l2
  refine codeAny_mono (H.2 _ f T _ (.ref (hp.objs.size + 1) :: vs) R.tc Y2 (.cons (.loc _) hv)) fun r s' pp => ?_
  obtain ⟨v, f', x, S', e, l, Z, hx, hxn, q⟩ := pp
  subst e hxn
  obtain ⟨_, rfl⟩ := hx.inv
  exact ⟨rfl, _, f', _, S', rfl, l, Z, .loc _, q⟩
end
end Lend
namespace Lend
set_option genSizeOf false
set_option genInjectivity false
inductive MK where
  | blt (T id : String) | fn (fa : Addr)
noncomputable def dictId (name : Str) : Option MK :=
  if name = Str.ofString "get" then some (.blt "dict" "dict.get")
  else if name = Str.ofString "pop" then some (.blt "dict" "dict.pop")
  else if name = Str.ofString "setdefault" then some (.blt "dict" "dict.setdefault")
  else none
noncomputable def listId (name : Str) : Option MK :=
  if name = Str.ofString "append" then some (.blt "list" "list.append")
  else if name = Str.ofString "pop" then some (.blt "list" "list.pop")
  else if name = Str.ofString "extend" then some (.blt "list" "list.extend")
  else none
noncomputable def kindM (G : Gl) (S : Store) (o : CV) (name : Str) : Option MK := match o with
  | .loc a => (match lk S a with
    | some (.list _) => listId name
    | some (.dict _) => dictId name
    | some (.inst C _ attrs) => if (lookN attrs name).isNone = true then (G.mt C name).map .fn else none
    | _ => none)
  | .fdict _ => dictId name
  | _ => none
noncomputable def iterX (S : Store) (x : CV) : Option (List CV) := match x with
  | .fdict kvs => some (kvs.map fun p => .int p.1)
  | .loc a => (match lk S a with
    | some (.list xs) => some xs
    | _ => none)
  | .flist xs => some xs
  | .tup xs => some xs
  | .rng a b => if -(10 ^ 6) ≤ a ∧ a ≤ 10 ^ 6 ∧ -(10 ^ 6) ≤ b ∧ b ≤ 10 ^ 6 then some (rangeL a (b - a).toNat) else none
  | _ => none
section
variable (G : Gl)
mutual
noncomputable def wpE : RE → Rho → Store → (CV → Store → Prop) → Prop
  | .const v, _, S, Q => Q v S
  | .loc i, ρ, S, Q => (match nth ρ i with | some v => Q v S | none => False)
  | .glob x, _, S, Q => (match G.gl x with | some v => Q v S | _ => False)
  | .and es, ρ, S, Q => wpB true es ρ S fun b S' => Q (.bool b) S'
  | .or es, ρ, S, Q => wpB false es ρ S fun b S' => Q (.bool b) S'
  | .bin op a b, ρ, S, Q => wpE a ρ S fun x S1 => wpE b ρ S1 fun y S2 => binW op x y S2 Q
  | .cat a b, ρ, S, Q => wpE a ρ S fun x S1 => wpE b ρ S1 fun y S2 => (match x, y with
      | .flist xs, .flist ys => xs.length + ys.length ≤ small ∧ newListW true (xs ++ ys) S2 Q
      | _, _ => False)
  | .neg a, ρ, S, Q => wpE a ρ S fun x S1 => (match x with | .int i => Q (.int (-i)) S1 | _ => False)
  | .not a, ρ, S, Q => wpE a ρ S fun x S1 => (match truth x with | some b => Q (.bool (!b)) S1 | none => False)
  | .ite c a b, ρ, S, Q => wpE c ρ S fun x S1 => (match truth x with | some t => if t = true then wpE a ρ S1 Q else wpE b ρ S1 Q | none => False)
  | .list own es, ρ, S, Q => wpEs es ρ S fun xs S1 => xs.length ≤ small ∧ newListW own xs S1 Q
  | .tup es, ρ, S, Q => wpEs es ρ S fun xs S1 => xs.length ≤ small ∧ Q (.tup xs) S1
  | .dict own ks vs, ρ, S, Q => wpEs vs ρ S fun xs S1 => newDictW own (mergeK [] (ks.zip xs)) S1 Q
  | .cmp op a b, ρ, S, Q => wpE a ρ S fun x S1 => wpE b ρ S1 fun y S2 => (match cmpV op S2 x y with | some r => Q (.bool r) S2 | none => False)
  | .cmp2 op op' a b c, ρ, S, Q => wpE a ρ S fun x S1 => wpE b ρ S1 fun y S2 => (match cmpV op S2 x y with
      | some true => wpE c ρ S2 fun z S3 => (match cmpV op' S3 y z with | some r => Q (.bool r) S3 | none => False)
      | some false => Q (.bool false) S2
      | none => False)
  | .call own f args, ρ, S, Q => wpE f ρ S fun g S1 => wpEs args ρ S1 fun xs S2 => callW G own g xs S2 Q
  | .meth own o name args, ρ, S, Q => wpE o ρ S fun x S1 => (kindM G S1 x name).isSome = true ∧ wpEs args ρ S1 fun xs S2 => kindM G S2 x name = kindM G S1 x name ∧ methW G own x name xs S2 Q
  | .attr o name, ρ, S, Q => wpE o ρ S fun x S1 => (match getAttrV G S1 x name with | some v => Q v S1 | none => False)
  | .sub o i, ρ, S, Q => wpE o ρ S fun x S1 => wpE i ρ S1 fun y S2 => (match getItemV G.gd S2 x y with | some v => Q v S2 | none => False)
  | .cut o hi, ρ, S, Q => wpE o ρ S fun x S1 => wpE hi ρ S1 fun y S2 => (match view S2 x, y with
      | .flist xs, .int k => 0 ≤ k ∧ k.toNat ≤ xs.length ∧ xs.length ≤ small ∧ Q (.flist (xs.take k.toNat)) S2
      | _, _ => False)
  | .lcomp k elt it t ifs gs, ρ, S, Q => wpE it ρ S fun x S1 => (match iterX S1 x with
      | some items => compW (stays S1 x) (fun y ρ S acc Q => wpAsg t y ρ S fun ρ' S' => wpTs ifs ρ' S' fun b S'' => if b = true then
          wpGs gs (fun ρ S acc Q => wpE elt ρ S fun v S' => acc.length ≤ small ∧ Q ρ S' (acc ++ [v])) ρ' S'' acc Q else Q ρ' S'' acc) items (List.replicate k none ++ ρ) S1 [] fun ρ' S' acc => ρ'.drop k = ρ ∧ Q (.flist acc) S'
      | none => False)
  | .dcomp k key val it t ifs, ρ, S, Q => wpE it ρ S fun x S1 => (match iterX S1 x with
      | some items => compW (stays S1 x) (fun y ρ S acc Q => wpAsg t y ρ S fun ρ' S' => wpTs ifs ρ' S' fun b S'' => if b = true then
          wpE key ρ' S'' fun kv S3 => wpE val ρ' S3 fun v S4 => (match kv with | .int j => acc.length ≤ small ∧ Q ρ' S4 (putK acc j v) | _ => False) else Q ρ' S'' acc) items (List.replicate k none ++ ρ) S1 ([] : List (Int × CV)) fun ρ' S' acc => ρ'.drop k = ρ ∧ Q (.fdict acc) S'
      | none => False)
  | .stuck, _, _, _ => False
noncomputable def wpEs : List RE → Rho → Store → (List CV → Store → Prop) → Prop
  | [], _, S, Q => Q [] S
  | e :: es, ρ, S, Q => wpE e ρ S fun x S1 => wpEs es ρ S1 fun xs S2 => Q (x :: xs) S2
noncomputable def wpB (all : Bool) : List RE → Rho → Store → (Bool → Store → Prop) → Prop
  | [], _, S, Q => Q all S
  | e :: es, ρ, S, Q => wpE e ρ S fun x S1 => (match truth x with
      | some b => if b = all then wpB all es ρ S1 Q else Q (!all) S1
      | none => False)
noncomputable def wpTs : List RE → Rho → Store → (Bool → Store → Prop) → Prop
  | [], _, S, Q => Q true S
  | e :: es, ρ, S, Q => wpE e ρ S fun x S1 => (match truth x with | some b => if b = true then wpTs es ρ S1 Q else Q false S1 | none => False)
noncomputable def wpAsg : RT → CV → Rho → Store → (Rho → Store → Prop) → Prop
  | .name i, v, ρ, S, Q => i < ρ.length ∧ Q (ρ.set i (some v)) S
  | .tup is, v, ρ, S, Q => (match unpackV S v is.length with | some xs => (∀ i ∈ is, i < ρ.length) ∧ Q (setAll ρ is xs) S | none => False)
  | .swap is, v, ρ, S, Q => (match unpackV S v is.length with | some xs => (∀ i ∈ is, i < ρ.length) ∧ Q (setAll ρ is.reverse xs.reverse) S | none => False)
  | .attr o name, v, ρ, S, Q => wpE o ρ S fun x S1 => setAttrW G x name v S1 fun S2 => Q ρ S2
  | .sub o i, v, ρ, S, Q => wpE o ρ S fun x S1 => wpE i ρ S1 fun y S2 => setItemW x y v S2 fun S3 => Q ρ S3
  | .stuck, _, _, _, _ => False
noncomputable def wpGs : List RG → (Rho → Store → List CV → (Rho → Store → List CV → Prop) → Prop) → Rho → Store → List CV → (Rho → Store → List CV → Prop) → Prop
  | [], leaf, ρ, S, acc, Q => leaf ρ S acc Q
  | .mk it t ifs :: gs, leaf, ρ, S, acc, Q => wpE it ρ S fun x S1 => (match iterX S1 x with
      | some items => compW (stays S1 x) (fun y ρ S acc Q => wpAsg t y ρ S fun ρ' S' => wpTs ifs ρ' S' fun b S'' => if b = true then wpGs gs leaf ρ' S'' acc Q else Q ρ' S'' acc) items ρ S1 acc Q
      | none => False)
end
noncomputable def wpT (e : RE) (ρ : Rho) (S : Store) (Q : Bool → Store → Prop) : Prop := wpE G e ρ S fun x S1 => (match truth x with | some b => Q b S1 | none => False)
mutual
noncomputable def wpS : RS → Rho → Store → (Fl → Rho → Store → Prop) → Prop
  | .expr e, ρ, S, Q => wpE G e ρ S fun _ S1 => Q .next ρ S1
  | .asg t e, ρ, S, Q => wpE G e ρ S fun x S1 => wpAsg G t x ρ S1 fun ρ' S2 => Q .next ρ' S2
  | .ret none, ρ, S, Q => Q (.ret .none) ρ S
  | .ret (some e), ρ, S, Q => wpE G e ρ S fun x S1 => Q (.ret x) ρ S1
  | .ite c a b, ρ, S, Q => wpT G c ρ S fun t S1 => if t = true then wpSs a ρ S1 Q else wpSs b ρ S1 Q
  | .while c b, ρ, S, Q => ∃ n, whileW (fun ρ S Q => wpT G c ρ S Q) (fun ρ S Q => wpSs b ρ S Q) Q n ρ S
  | .for t it b, ρ, S, Q => wpE G it ρ S fun x S1 => (match iterX S1 x with
      | some items => forW (stays S1 x) (fun y ρ S Q => wpAsg G t y ρ S fun ρ' S' => wpSs b ρ' S' Q) items ρ S1 Q
      | none => False)
  | .freeze i, ρ, S, Q => freezeW ρ i S fun ρ' S' => Q .next ρ' S'
  | .stuck, _, _, _ => False
noncomputable def wpSs : List RS → Rho → Store → (Fl → Rho → Store → Prop) → Prop
  | [], ρ, S, Q => Q .next ρ S
  | s :: ss, ρ, S, Q => wpS s ρ S fun fl ρ' S' => match fl with
    | .next => wpSs ss ρ' S' Q
    | .ret v => Q (.ret v) ρ' S'
end
end
end Lend
namespace Lend
inductive LPst (B : Bs) (f T : Fz) (F : Store) (Q : List CV → Store → Prop) (vs : List Value) (s' : Shared) : Prop
  | mk (f' : Fz) (xs : List CV) (S' : Store) (l : Fz.le f f') (X : St B f' T (F ++ S') s') (va : VsIs B f' vs xs) (q : Q xs S') : LPst B f T F Q vs s'
theorem LPst.elim {B : Bs} {f T : Fz} {F : Store} {Q : List CV → Store → Prop} {v : List Value} {s : Shared} {P : Prop} (p : LPst B f T F Q v s) (k : ∀ f' x S', Fz.le f f' → St B f' T (F ++ S') s → VsIs B f' v x → Q x S' → P) : P := by
  obtain ⟨f', x, S', a, b, c, d⟩ := p; exact k f' x S' a b c d
noncomputable def LOk (B : Bs) (n : Nat) (F S : Store) (t : Sem (List Value)) (Q : List CV → Store → Prop) : Prop :=
  ∀ A f T s, Room n A → St B f T (F ++ S) s → wpAny (model B.prog B.w) A t (LPst B f T F Q) noE s
inductive TPst (B : Bs) (f T : Fz) (F : Store) (Q : Bool → Store → Prop) (b : Bool) (s' : Shared) : Prop
  | mk (f' : Fz) (S' : Store) (l : Fz.le f f') (X : St B f' T (F ++ S') s') (q : Q b S') : TPst B f T F Q b s'
theorem TPst.elim {B : Bs} {f T : Fz} {F : Store} {Q : Bool → Store → Prop} {v : Bool} {s : Shared} {P : Prop} (p : TPst B f T F Q v s) (k : ∀ f' S', Fz.le f f' → St B f' T (F ++ S') s → Q v S' → P) : P := by
  obtain ⟨f', S', a, b, d⟩ := p; exact k f' S' a b d
noncomputable def TOk (B : Bs) (n : Nat) (F S : Store) (t : Sem Bool) (Q : Bool → Store → Prop) : Prop :=
  ∀ A f T s, Room n A → St B f T (F ++ S) s → wpAny (model B.prog B.w) A t (TPst B f T F Q) noE s
section
variable {B : Bs} {n m : Nat} {F S : Store} {Q Q' : CV → Store → Prop} {A : Around} {f g T : Fz} {s : Shared} {env : Env}
theorem TPst.mono {Q Q' : Bool → Store → Prop} (l : Fz.le f g) (h : ∀ x S, Q x S → Q' x S) {v s} (p : TPst B g T F Q v s) : TPst B f T F Q' v s := by
  obtain ⟨f', S', l', X, q⟩ := p; exact ⟨f', S', l.trans l', X, h _ _ q⟩
theorem EOk.go {t : Sem Value} {α} {k : Value → Sem α} {P : α → Shared → Prop} (R : Room n A) (X : St B f T (F ++ S) s) (h : EOk B n F S t Q)
    (hk : ∀ f' v x S' s', Fz.le f f' → St B f' T (F ++ S') s' → VIs B f' v x → Q x S' → wpAny (model B.prog B.w) A (k v) P noE s') : wpAny (model B.prog B.w) A (t >>= k) P noE s :=
  wpAny_bind (wpAny_mono (h A f T s R X) (fun v s' pp => pp.elim fun f' x S' l Y hv q => hk f' v x S' s' l Y hv q) fun _ _ e => e)
theorem LOk.go {t : Sem (List Value)} {Q : List CV → Store → Prop} {α} {k : List Value → Sem α} {P : α → Shared → Prop} (R : Room n A) (X : St B f T (F ++ S) s) (h : LOk B n F S t Q)
    (hk : ∀ f' v x S' s', Fz.le f f' → St B f' T (F ++ S') s' → VsIs B f' v x → Q x S' → wpAny (model B.prog B.w) A (k v) P noE s') : wpAny (model B.prog B.w) A (t >>= k) P noE s :=
  wpAny_bind (wpAny_mono (h A f T s R X) (fun v s' pp => pp.elim fun f' x S' l Y hv q => hk f' v x S' s' l Y hv q) fun _ _ e => e)
theorem EOk.hold {t : Sem Value} {vs : List Value} (h : EOk B n F S t Q) : EOk B n F S (holding vs t) Q := fun A f T s R X => wpAny_holding (h A f T s R X)
theorem EOk.at {t : Sem Value} (h : EOk B n F S t Q) (R : Room n A) (l : Fz.le f g) (X : St B g T (F ++ S) s) : wpAny (model B.prog B.w) A t (Pst B f T F Q) noE s :=
  wpAny_mono (h A g T s R X) (fun _ _ p => p.mono l fun _ _ q => q) fun _ _ e => e
theorem TOk.at {t : Sem Bool} {Q : Bool → Store → Prop} (h : TOk B n F S t Q) (R : Room n A) (l : Fz.le f g) (X : St B g T (F ++ S) s) : wpAny (model B.prog B.w) A t (TPst B f T F Q) noE s :=
  wpAny_mono (h A g T s R X) (fun _ _ p => p.mono l fun _ _ q => q) fun _ _ e => e
theorem tok_false {x : CV} {b : Bool} {v : Value} (h : truth x = some b) (hv : VIs B f v x) : v = .bool b ∧ x = .bool b := by
  cases hv <;> simp [truth] at h <;> simp [h]
noncomputable def cvC : Const → Option CV
  | .none => some .none
  | .bool b => some (.bool b)
  | .int i => some (.int i)
  | .str s => some (.str s)
  | _ => none
theorem const_ok {c : Const} {v : CV} {k : Nat} {pos : Pos} (hc : cvC c = some v) (h : Q v S) : EOk B n F S (eval (.Constant c k pos) env) Q := by
  intro A f T s R X
  cases c <;> simp [cvC] at hc <;> subst hc
  · exact Constant_none (pst_of (k := s.toks) X .none h)
  · exact Constant_bool (pst_of (k := s.toks) X (.bool _) h)
  · exact wpAny_Constant_int (pst_of X (.int _ _) h)
  · exact PySem.Calls.Constant_str (pst_of X (.str _ _) h)
theorem name_ok {N : List Str} {ρ : Rho} (W : EnvW env) {x : Str} {i : Nat} {V : CV} {pos : Pos} (hk : env.kindOf x = some .local ∨ env.kindOf x = some .cell ∨ env.kindOf x = some .free) (hi : idxN N x = some i) (hV : ρ[i]? = some (some V))
    (hcd : (x == Str.ofString "__classdict__") = false) (hd : (x == ("__debug__" : Str)) = false) (hQ : Q V S) : EOk B n (FrL env N ρ) S (eval (.Name x pos) env) Q :=
  fun _ _ _ _ _ X => wpAny_Name (load_rule W X hk hi hV hcd hQ) hd
theorem bin_ok {l r : Expr} {op : Operator} {pos : Pos} (h : EOk B n F S (eval l env) fun x S1 => EOk B n F S1 (eval r env) fun y S2 => binW op x y S2 Q) : EOk B n F S (eval (.BinOp l op r pos) env) Q := by
  intro A f T s R X
  show wpAny _ _ (eval l env >>= fun a => holding [a] (eval r env) >>= fun b => standAt pos >>= fun _ => operate [a, b] (binaryOp op a b)) _ _ _
  refine EOk.go R X h fun f1 a x S1 s1 l1 X1 va q1 => ?_
  refine EOk.go R X1 q1.hold fun f2 b y S2 s2 l2 X2 vb q2 => ?_
  refine wpAny_bind (wpAny_standAt (wpAny_operating ?_))
  exact wpAny_mono (bin_rule q2 X2 (va.mono l2) vb) (fun _ _ p => p.mono (l1.trans l2) fun _ _ q => q) fun _ _ e => e
theorem cat_ok {l r : Expr} {pos : Pos} (h : EOk B n F S (eval l env) fun x S1 => EOk B n F S1 (eval r env) fun y S2 => match x, y with
      | .flist xs, .flist ys => xs.length + ys.length ≤ small ∧ newListW true (xs ++ ys) S2 Q
      | _, _ => False) : EOk B n F S (eval (.BinOp l .Add r pos) env) Q := by
  intro A f T s R X
  show wpAny _ _ (eval l env >>= fun a => holding [a] (eval r env) >>= fun b => standAt pos >>= fun _ => operate [a, b] (binaryOp .Add a b)) _ _ _
  refine EOk.go R X h fun f1 a x S1 s1 l1 X1 va q1 => ?_
  refine EOk.go R X1 q1.hold fun f2 b y S2 s2 l2 X2 vb q2 => ?_
  refine wpAny_bind (wpAny_standAt (wpAny_operating ?_))
  have va := va.mono l2
  split at q2
  · obtain ⟨_, vs1, _, rfl, e1, v1⟩ := va.inv
    obtain ⟨_, vs2, _, rfl, e2, v2⟩ := vb.inv
    have L1 := v1.length
    have L2 := v2.length
    refine add_ll (X2.fin _ _ e1) (X2.fin _ _ e2) ?_ ?_
    · rw [Array.length_toList] at L1 L2
      rw [L1, L2, sizeL]; have := q2.1; unfold small at this; omega
    · have := pst_nlist (k := s2.toks) X2 (v1.append v2) q2.2
      have e : vs1 ++ vs2 = (vs1.toList ++ vs2.toList).toArray := by apply Array.toList_inj.mp; simp
      rw [e]; exact this.mono (l1.trans l2) fun _ _ q => q
  · exact q2.elim
theorem neg_ok {x : Expr} {pos : Pos} (h : EOk B n F S (eval x env) fun x S1 => (match x with | .int i => Q (.int (-i)) S1 | _ => False)) : EOk B n F S (eval (.UnaryOp .USub x pos) env) Q := by
  intro A f T s R X
  refine UnaryOp_ (wpAny_mono (h A f T s R X) (fun v s1 pp => pp.elim fun f1 x S1 l1 X1 va q1 => ?_) fun _ _ e => e)
  cases va <;> first | exact q1.elim | skip
  exact P.neg_int ((pst_of X1 (.int _ _) q1).mono l1 fun _ _ q => q)
set_option tactic.hygienic true in
theorem not_ok {x : Expr} {pos : Pos} (h : EOk B n F S (eval x env) fun x S1 => (match truth x with | some b => Q (.bool (!b)) S1 | none => False)) : EOk B n F S (eval (.UnaryOp .Not x pos) env) Q := by
  intro A f T s R X
  refine UnaryOp_ (wpAny_mono (h A f T s R X) (fun v s1 pp => pp.elim fun f1 x S1 l1 X1 va q1 => ?_) fun _ _ e => e)
  try dsimp only at q1
  split at q1
  · rename_i b hb
    exact not_of (truthy_rule hb va ((pst_of (k := s1.toks) X1 (.bool _) q1).mono l1 fun _ _ q => q))
  · exact q1.elim
theorem ite_ok {c a b : Expr} {pos : Pos} (h : TOk B n F S (isTrue c env (eval c env)) fun t S1 => if t = true then EOk B n F S1 (eval a env) Q else EOk B n F S1 (eval b env) Q) :
    EOk B n F S (eval (.IfExp c a b pos) env) Q := by
  intro A f T s R X
  refine IfExp_ (wpAny_mono (h A f T s R X) (fun t s1 pp => pp.elim fun f1 S1 l1 X1 q1 => ?_) fun _ _ e => e)
  cases t
  · exact EOk.at q1 R l1 X1
  · exact EOk.at q1 R l1 X1
set_option tactic.hygienic true in
theorem bool_one {e : Expr} {op : BoolOp} {pos : Pos} {all : Bool} {K : Bool → Store → Prop} (hK : ∀ b S, K b S → Q (.bool b) S)
    (h : EOk B n F S (eval e env) fun x S1 => match truth x with | some b => if b = all then K all S1 else K (!all) S1 | none => False) : EOk B n F S (eval (.BoolOp op [e] pos) env) Q := by
  intro A f T s R X
  refine BoolOp_one (wpAny_mono (h A f T s R X) (fun v s1 pp => pp.elim fun f1 x S1 l1 X1 va q1 => ?_) fun _ _ e => e)
  try dsimp only at q1
  split at q1
  · rename_i b hb
    obtain ⟨rfl, rfl⟩ := tok_false hb va
    refine ⟨f1, _, S1, l1, X1, .bool _, hK _ _ ?_⟩
    split at q1
    · rename_i e; rw [e]; exact q1
    · rename_i e
      have : b = !all := by cases b <;> cases all <;> simp at e ⊢
      rw [this]; exact q1
  · exact q1.elim
set_option tactic.hygienic true in
theorem and_more {e e2 : Expr} {rest : List Expr} {pos : Pos} {K : Bool → Store → Prop} (hK : ∀ b S, K b S → Q (.bool b) S)
    (h : EOk B n F S (eval e env) fun x S1 => match truth x with | some b => if b = true then EOk B n F S1 (eval (.BoolOp .And (e2 :: rest) pos) env) Q else K false S1 | none => False) : EOk B n F S (eval (.BoolOp .And (e :: e2 :: rest) pos) env) Q := by
  intro A f T s R X
  refine BoolOp_and (wpAny_mono (h A f T s R X) (fun v s1 pp => pp.elim fun f1 x S1 l1 X1 va q1 => ?_) fun _ _ e => e)
  try dsimp only at q1
  split at q1
  · rename_i b hb
    obtain ⟨rfl, rfl⟩ := tok_false hb va
    refine truthy_rule hb va ?_
    cases b
    · exact ⟨f1, _, S1, l1, X1, .bool _, hK _ _ q1⟩
    · exact EOk.at q1 R l1 X1
  · exact q1.elim
set_option tactic.hygienic true in
theorem or_more {e e2 : Expr} {rest : List Expr} {pos : Pos} {K : Bool → Store → Prop} (hK : ∀ b S, K b S → Q (.bool b) S)
    (h : EOk B n F S (eval e env) fun x S1 => match truth x with | some b => if b = false then EOk B n F S1 (eval (.BoolOp .Or (e2 :: rest) pos) env) Q else K true S1 | none => False) : EOk B n F S (eval (.BoolOp .Or (e :: e2 :: rest) pos) env) Q := by
  intro A f T s R X
  refine BoolOp_or (wpAny_mono (h A f T s R X) (fun v s1 pp => pp.elim fun f1 x S1 l1 X1 va q1 => ?_) fun _ _ e => e)
  try dsimp only at q1
  split at q1
  · rename_i b hb
    obtain ⟨rfl, rfl⟩ := tok_false hb va
    refine truthy_rule hb va ?_
    cases b
    · exact EOk.at q1 R l1 X1
    · exact ⟨f1, _, S1, l1, X1, .bool _, hK _ _ q1⟩
  · exact q1.elim
set_option tactic.hygienic true in
theorem t_plain {e : Expr} {K : Bool → Store → Prop} (he : ∀ w, isTrue e env w = (do let v ← w; standAt e.pos; holding [v] (truthy v)))
    (h : EOk B n F S (eval e env) fun x S1 => match truth x with | some b => K b S1 | none => False) : TOk B n F S (isTrue e env (eval e env)) K := by
  intro A f T s R X
  refine isTrue_plain (wpAny_mono (h A f T s R X) (fun v s1 pp => pp.elim fun f1 x S1 l1 X1 va q1 => ?_) fun _ _ e => e) (he _)
  try dsimp only at q1
  split at q1
  · rename_i b hb
    exact truthy_rule hb va ⟨f1, S1, l1, X1, q1⟩
  · exact q1.elim
theorem t_not {x : Expr} {pos : Pos} {w : Sem Value} {K : Bool → Store → Prop} (h : TOk B n F S (isTrue x env (eval x env)) fun b S1 => K (!b) S1) : TOk B n F S (isTrue (.UnaryOp .Not x pos) env w) K := fun A f T s R X =>
  isTrue_not (wpAny_mono (h A f T s R X) (fun _ _ pp => pp.elim fun f1 S1 l1 X1 q => ⟨f1, S1, l1, X1, q⟩) fun _ _ e => e)
theorem t_ite {c a b : Expr} {pos : Pos} {w : Sem Value} {K : Bool → Store → Prop} (h : TOk B n F S (isTrue c env (eval c env)) fun t S1 => if t = true then TOk B n F S1 (isTrue a env (eval a env)) K else TOk B n F S1 (isTrue b env (eval b env)) K) :
    TOk B n F S (isTrue (.IfExp c a b pos) env w) K := by
  intro A f T s R X
  refine isTrue_IfExp (wpAny_mono (h A f T s R X) (fun t s1 pp => pp.elim fun f1 S1 l1 X1 q1 => ?_) fun _ _ e => e)
  cases t
  · exact TOk.at q1 R l1 X1
  · exact TOk.at q1 R l1 X1
theorem t_and_nil {pos : Pos} {w : Sem Value} {K : Bool → Store → Prop} (h : K true S) : TOk B n F S (isTrue (.BoolOp .And [] pos) env w) K := fun _ f _ _ _ X => isTrue_and_nil ⟨f, S, Fz.le.refl f, X, h⟩
theorem t_or_nil {pos : Pos} {w : Sem Value} {K : Bool → Store → Prop} (h : K false S) : TOk B n F S (isTrue (.BoolOp .Or [] pos) env w) K := fun _ f _ _ _ X => isTrue_or_nil ⟨f, S, Fz.le.refl f, X, h⟩
theorem t_and {x : Expr} {rest : List Expr} {pos : Pos} {w : Sem Value} {K : Bool → Store → Prop} (h : TOk B n F S (isTrue x env (eval x env)) fun b S1 => if b = true then TOk B n F S1 (isTrue (.BoolOp .And rest pos) env w) K else K false S1) :
    TOk B n F S (isTrue (.BoolOp .And (x :: rest) pos) env w) K := by
  intro A f T s R X
  refine isTrue_and (wpAny_mono (h A f T s R X) (fun t s1 pp => pp.elim fun f1 S1 l1 X1 q1 => ?_) fun _ _ e => e)
  cases t
  · exact ⟨f1, S1, l1, X1, q1⟩
  · exact TOk.at q1 R l1 X1
theorem t_or {x : Expr} {rest : List Expr} {pos : Pos} {w : Sem Value} {K : Bool → Store → Prop} (h : TOk B n F S (isTrue x env (eval x env)) fun b S1 => if b = false then TOk B n F S1 (isTrue (.BoolOp .Or rest pos) env w) K else K true S1) :
    TOk B n F S (isTrue (.BoolOp .Or (x :: rest) pos) env w) K := by
  intro A f T s R X
  refine isTrue_or (wpAny_mono (h A f T s R X) (fun t s1 pp => pp.elim fun f1 S1 l1 X1 q1 => ?_) fun _ _ e => e)
  cases t
  · exact TOk.at q1 R l1 X1
  · exact ⟨f1, S1, l1, X1, q1⟩
noncomputable def noStar : Expr → Bool
  | .Starred .. => false
  | _ => true
theorem starEach_cons {e : Expr} {r : List Expr} (h : noStar e = true) : starEach (e :: r) env = (false, eval e env) :: starEach r env := by
  cases e <;> first | rfl | cases h
theorem star_plain {pos : Pos} : ∀ {es : List Expr}, es.all noStar = true → (backTo pos (starEach es env)).any (·.1) = false
  | [], _ => rfl
  | e :: r, h => by
    rw [List.all_cons, Bool.and_eq_true] at h
    rw [starEach_cons h.1]
    exact star_plain (es := r) h.2
theorem items_nil {pos : Pos} {Q : List CV → Store → Prop} (h : Q [] S) : LOk B n F S (spliced (backTo pos (starEach [] env))) Q := fun _ f _ _ _ X =>
  PySem.Calls.spliced_nil ⟨f, [], S, Fz.le.refl f, X, .nil, h⟩
theorem items_cons {pos : Pos} {e : Expr} {r : List Expr} {Q : List CV → Store → Prop} (hs : noStar e = true)
    (h : EOk B n F S (eval e env) fun x S1 => LOk B n F S1 (spliced (backTo pos (starEach r env))) fun xs S2 => Q (x :: xs) S2) : LOk B n F S (spliced (backTo pos (starEach (e :: r) env))) Q := by
  intro A f T s R X
  rw [starEach_cons hs]
  refine PySem.Calls.spliced_cons (wpAny_mono (h A f T s R X) (fun v s1 pp => pp.elim fun f1 x S1 l1 X1 va q1 => ?_) fun _ _ e => e)
  refine wpAny_mono (q1 A f1 T s1 R X1) (fun vs s2 pp => pp.elim fun f2 xs S2 l2 X2 vb q2 => ?_) fun _ _ e => e
  exact ⟨f2, _, S2, l1.trans l2, X2, .cons (va.mono l2) vb, q2⟩
theorem list_ok {es : List Expr} {pos : Pos} {own : Bool} (h : LOk B n F S (spliced (backTo pos (starEach es env))) fun xs S1 => xs.length ≤ small ∧ newListW own xs S1 Q) : EOk B n F S (eval (.List es pos) env) Q := by
  intro A f T s R X
  rw [arm_eval_List]
  refine wpAny_bind (wpAny_standAt (LOk.go R X h fun f1 vs xs S1 s1 l1 X1 va q1 => ?_))
  refine wpAny_newList ?_ (by have := va.length; have := q1.1; unfold small at this; rw [sizeL]; omega)
  exact (pst_nlist (k := s1.toks) X1 va q1.2).mono l1 fun _ _ q => q
theorem tup_ok {es : List Expr} {k : Nat} {pos : Pos} (h : LOk B n F S (spliced (backTo pos (starEach es env))) fun xs S1 => xs.length ≤ small ∧ Q (.tup xs) S1) : EOk B n F S (eval (.Tuple es k pos) env) Q := by
  intro A f T s R X
  rw [arm_eval_Tuple]
  refine wpAny_bind (wpAny_standAt (LOk.go R X h fun f1 vs xs S1 s1 l1 X1 va q1 => ?_))
  refine wpAny_newTuple ?_ (by have := va.length; have := q1.1; unfold small at this; rw [sizeL]; omega)
  exact (pst_tup (k := s1.toks) X1 va q1.2).mono l1 fun _ _ q => q
end
end Lend
namespace Lend
section
variable {B : Bs} {G : Gl} {n m : Nat} {F S : Store} {Q Q' : CV → Store → Prop} {A : Around} {f g T T' : Fz} {s : Shared} {env : Env}
set_option tactic.hygienic true in
theorem cmp_ok {l r : Expr} {op : CmpOp} {pos : Pos} (hm : behindInMarks op r = false) (h : EOk B (n + 2) F S (eval l env) fun x S1 => EOk B (n + 2) F S1 (eval r env) fun y S2 => match cmpV op S2 x y with | some r => Q (.bool r) S2 | none => False) :
    EOk B (n + 2) F S (eval (.Compare l [op] [r] pos) env) Q := by
  intro A f T s R X
  have e : eval (.Compare l [op] [r] pos) env = (eval l env >>= fun a => holding [a] (markedBehindIn op r (eval r env)) >>= fun b => standAt pos >>= fun _ => operate [a, b] (compareOp op a b)) := rfl
  rw [e]
  unfold markedBehindIn
  rw [hm]
  refine EOk.go R X h fun f1 a x S1 s1 l1 X1 va q1 => ?_
  refine EOk.go R X1 q1.hold fun f2 b y S2 s2 l2 X2 vb q2 => ?_
  refine wpAny_bind (wpAny_standAt (wpAny_operating ?_))
  try dsimp only at q2
  split at q2
  · rename_i r' hr
    exact cmp_rule hr R X2 (va.mono l2) vb fun k => (pst_of (k := k) X2 (.bool _) q2).mono (l1.trans l2) fun _ _ q => q
  · exact q2.elim
set_option tactic.hygienic true in
theorem t_cmp {l r : Expr} {op : CmpOp} {pos : Pos} {w : Sem Value} {K : Bool → Store → Prop} (hm : behindInMarks op r = false) (h : EOk B (n + 2) F S (eval l env) fun x S1 => EOk B (n + 2) F S1 (eval r env) fun y S2 => match cmpV op S2 x y with | some r => K r S2 | none => False) :
    TOk B (n + 2) F S (isTrue (.Compare l [op] [r] pos) env w) K := by
  intro A f T s R X
  have e : isTrue (.Compare l [op] [r] pos) env w = (eval l env >>= fun a => holding [a] (markedBehindIn op r (eval r env)) >>= fun b => standAt pos >>= fun _ => operate [a, b] (compareOp op a b) >>= fun c => holding [c] (truthy c)) := rfl
  rw [e]
  unfold markedBehindIn
  rw [hm]
  refine EOk.go R X h fun f1 a x S1 s1 l1 X1 va q1 => ?_
  refine EOk.go R X1 q1.hold fun f2 b y S2 s2 l2 X2 vb q2 => ?_
  refine wpAny_bind (wpAny_standAt (wpAny_bind (wpAny_operating ?_)))
  try dsimp only at q2
  split at q2
  · rename_i r' hr
    exact cmp_rule hr R X2 (va.mono l2) vb fun k => wpAny_holding (truthy_rule (x := .bool r') (f := f2) rfl (.bool _) ⟨f2, S2, l1.trans l2, X2.toks k, q2⟩)
  · exact q2.elim
set_option tactic.hygienic true in
theorem cmp2_ok {l r r2 : Expr} {op op' : CmpOp} {pos : Pos} (hm : behindInMarks op' r2 = false)
    (h : EOk B (n + 2) F S (eval l env) fun x S1 => EOk B (n + 2) F S1 (eval r env) fun y S2 => match cmpV op S2 x y with
      | some true => EOk B (n + 2) F S2 (eval r2 env) fun z S3 => (match cmpV op' S3 y z with | some r => Q (.bool r) S3 | none => False)
      | some false => Q (.bool false) S2
      | none => False) :
    EOk B (n + 2) F S (eval (.Compare l [op, op'] [r, r2] pos) env) Q := by
  intro A f T s R X
  have e : eval (.Compare l [op, op'] [r, r2] pos) env = (eval l env >>= fun a => holding [a] (eval r env) >>= fun b => standAt pos >>= fun _ => holding [a, b] (compareOp op a b) >>= fun c => release [a, b] [c] >>= fun _ => holding [c, b] (truthy c) >>= fun t =>
    if t = true then holding [b] (markedBehindIn op' r2 (eval r2 env)) >>= fun b' => standAt pos >>= fun _ => operate [b, b'] (compareOp op' b b') else pure c) := rfl
  rw [e]
  unfold markedBehindIn
  rw [hm]
  refine EOk.go R X h fun f1 a x S1 s1 l1 X1 va q1 => ?_
  refine EOk.go R X1 q1.hold fun f2 b y S2 s2 l2 X2 vb q2 => ?_
  refine wpAny_bind (wpAny_standAt (wpAny_bind (wpAny_holding ?_)))
  try dsimp only at q2
  split at q2
  · rename_i hr
    refine cmp_rule hr R X2 (va.mono l2) vb fun k => wpAny_bind (wpAny_release (wpAny_bind (wpAny_holding (truthy_rule (x := .bool true) (f := f2) rfl (.bool _) ?_))))
    rw [if_pos rfl]
    refine EOk.go R (X2.toks k) q2.hold fun f3 b' z S3 s3 l3 X3 vc q3 => ?_
    refine wpAny_bind (wpAny_standAt (wpAny_operating ?_))
    try dsimp only at q3
    split at q3
    · rename_i r' hr'
      exact cmp_rule hr' R X3 (vb.mono l3) vc fun k => (pst_of (k := k) X3 (.bool _) q3).mono ((l1.trans l2).trans l3) fun _ _ q => q
    · exact q3.elim
  · rename_i hr
    refine cmp_rule hr R X2 (va.mono l2) vb fun k => wpAny_bind (wpAny_release (wpAny_bind (wpAny_holding (truthy_rule (x := .bool false) (f := f2) rfl (.bool _) ?_))))
    rw [if_neg Bool.false_ne_true]
    exact wpAny_pure ((pst_of (k := k) X2 (.bool _) q2).mono (l1.trans l2) fun _ _ q => q)
  · exact q2.elim
set_option tactic.hygienic true in
theorem t_cmp2 {l r r2 : Expr} {op op' : CmpOp} {pos : Pos} {w : Sem Value} {K : Bool → Store → Prop} (hm : behindInMarks op' r2 = false)
    (h : EOk B (n + 2) F S (eval l env) fun x S1 => EOk B (n + 2) F S1 (eval r env) fun y S2 => match cmpV op S2 x y with
      | some true => EOk B (n + 2) F S2 (eval r2 env) fun z S3 => (match cmpV op' S3 y z with | some r => K r S3 | none => False)
      | some false => K false S2
      | none => False) :
    TOk B (n + 2) F S (isTrue (.Compare l [op, op'] [r, r2] pos) env w) K := by
  intro A f T s R X
  have e : isTrue (.Compare l [op, op'] [r, r2] pos) env w = (eval l env >>= fun a => holding [a] (eval r env) >>= fun b => standAt pos >>= fun _ => holding [a, b] (compareOp op a b) >>= fun c => release [a, b] [c] >>= fun _ => holding [c, b] (truthy c) >>= fun t =>
    if t = true then holding [b] (markedBehindIn op' r2 (eval r2 env)) >>= fun b' => standAt pos >>= fun _ => operate [b, b'] (compareOp op' b b') >>= fun c => holding [c] (truthy c) else pure false) := rfl
  rw [e]
  unfold markedBehindIn
  rw [hm]
  refine EOk.go R X h fun f1 a x S1 s1 l1 X1 va q1 => ?_
  refine EOk.go R X1 q1.hold fun f2 b y S2 s2 l2 X2 vb q2 => ?_
  refine wpAny_bind (wpAny_standAt (wpAny_bind (wpAny_holding ?_)))
  try dsimp only at q2
  split at q2
  · rename_i hr
    refine cmp_rule hr R X2 (va.mono l2) vb fun k => wpAny_bind (wpAny_release (wpAny_bind (wpAny_holding (truthy_rule (x := .bool true) (f := f2) rfl (.bool _) ?_))))
    rw [if_pos rfl]
    refine EOk.go R (X2.toks k) q2.hold fun f3 b' z S3 s3 l3 X3 vc q3 => ?_
    refine wpAny_bind (wpAny_standAt (wpAny_bind (wpAny_operating ?_)))
    try dsimp only at q3
    split at q3
    · rename_i r' hr'
      exact cmp_rule hr' R X3 (vb.mono l3) vc fun k => wpAny_holding (truthy_rule (x := .bool r') (f := f3) rfl (.bool _) ⟨f3, S3, (l1.trans l2).trans l3, X3.toks k, q3⟩)
    · exact q3.elim
  · rename_i hr
    refine cmp_rule hr R X2 (va.mono l2) vb fun k => wpAny_bind (wpAny_release (wpAny_bind (wpAny_holding (truthy_rule (x := .bool false) (f := f2) rfl (.bool _) ?_))))
    rw [if_neg Bool.false_ne_true]
    exact wpAny_pure ⟨f2, S2, l1.trans l2, X2.toks k, q2⟩
  · exact q2.elim
theorem evalArgs_all {M : Model} {E : Value → Shared → Prop} {fv : Value} {args : List (Bool × Sem Value)} {R : Args → Shared → Prop} (hp : args.any (·.1) = false) (h : wpAny M A (spliced args) (fun vs s' => R ⟨vs, []⟩ s') E s) : wpAny M A (evalArgs fv true args []) R E s := by
  match args, hp, h with
  | [], _, h => exact fun Γ p hΓ => evalArgs_nil3 (h Γ p hΓ) Γ p hΓ
  | (false, x) :: rest, _, h => exact PySem.Calls.evalArgs_plain h
  | (true, x) :: rest, hp, _ => simp at hp
theorem callWith_false {M : Model} {E : Value → Shared → Prop} {fv : Value} {first : List Value} {args : List (Bool × Sem Value)} {pos : Pos} {R : Value → Shared → Prop} (hp : args.any (·.1) = false) (h : wpAny M A (spliced args) (fun _ _ => False) E s) : wpAny M A (callWith pos fv first args []) R E s := by
  unfold callWith
  exact wpAny_bind (wpAny_holding (wpAny_mono (evalArgs_all (R := fun _ _ => False) hp h) (fun _ _ h => h.elim) fun _ _ e => e))
structure MtOk (B : Bs) (G : Gl) : Prop where
  ok : ∀ C x fa, G.mt C x = some fa → ClsOk B.K C ∧ findIn B.K (.ref C) x = some (some (.ref fa)) ∧ typeIn B.K (.ref fa) = some (.type "function")
noncomputable def FnsOk (B : Bs) (G : Gl) (m : Nat) : Prop := ∀ a args S Q, G.fn a args S Q → FnOk B m a args S Q
set_option tactic.hygienic true in
theorem callV_ok (BO : B.Ok) (FO : FnsOk B G m) (hmn : m ≤ n + 2) {own : Bool} {fx : CV} {fv : Value} {first : List Value} {fxs : List CV} {args : List (Bool × Sem Value)} {pos : Pos} {l0 : Fz} (R : Room (n + 2) A) (X : St B f T (F ++ S) s) (hf : VIs B f fv fx) (hfirst : VsIs B f first fxs)
    (hp : args.any (·.1) = false) (hl : Fz.le l0 f)
    (h : LOk B (n + 2) F S (spliced args) fun xs S1 => callW G own fx (fxs ++ xs) S1 Q) : wpAny (model B.prog B.w) A (callWith pos fv first args []) (Pst B l0 T F Q) noE s := by
  have out : (∀ xs S1, ¬ callW G own fx xs S1 Q) → wpAny (model B.prog B.w) A (callWith pos fv first args []) (Pst B l0 T F Q) noE s := fun no =>
    callWith_false hp (wpAny_mono (h A f T s R X) (fun vs s1 pp => pp.elim fun f1 xs S1 l1 X1 va q1 => no _ _ q1) fun _ _ e => e)
  have raw : ∀ v : Value, VIs B f fv (.raw v) → fv = v := fun v h => by obtain ⟨_, rfl⟩ := h.inv; rfl
  unfold callW at h out
  split at h
  · rename_i a
    have e := raw _ hf
    subst e
    refine callWith_of (P := fun h => B.K.In h ∧ keepIn B.K (.ref a) = true) (by rw [hp]; rfl) (fun h hh => keeps_K hh.2 h hh.1) (evalArgs_all hp (wpAny_mono (h A f T s R X) (fun vs s1 pp => pp.elim fun f1 xs S1 l1 X1 va q1 => ?_) fun _ _ e => e))
    have q := FO _ _ _ _ q1
    exact ⟨⟨X1.kin BO, q.1⟩, wpAny_mono ((q.le hmn).call R X1 ((hfirst.mono l1).append va)) (fun _ _ p => p.mono (hl.trans l1) fun _ _ q => q) fun _ _ e => e⟩
  · have e := raw _ hf
    subst e
    refine PyProof.Rows.callWith_type hp (evalArgs_all hp (wpAny_mono (h A f T s R X) (fun vs s1 pp => pp.elim fun f1 xs S1 l1 X1 va q1 => ?_) fun _ _ e => e))
    exact wpAny_mono (typeCall_rule BO R q1 X1 ((hfirst.mono l1).append va)) (fun _ _ p => p.mono (hl.trans l1) fun _ _ q => q) fun _ _ e => e
  · have e := raw _ hf
    subst e
    refine PySem.Calls.callWith_builtin hp (evalArgs_all hp (wpAny_mono (h A f T s R X) (fun vs s1 pp => pp.elim fun f1 xs S1 l1 X1 va q1 => ?_) fun _ _ e => e))
    exact wpAny_mono (fnCall_rule R q1 X1 ((hfirst.mono l1).append va)) (fun _ _ p => p.mono (hl.trans l1) fun _ _ q => q) fun _ _ e => e
  · exact callWith_false hp (wpAny_mono (h A f T s R X) (fun vs s1 pp => pp.elim fun f1 xs S1 l1 X1 va q1 => q1) fun _ _ e => e)
noncomputable def notAttr : Expr → Bool
  | .Attribute .. => false
  | _ => true
theorem call_ok (BO : B.Ok) (FO : FnsOk B G m) (hmn : m ≤ n + 2) {own : Bool} {fe : Expr} {args : List Expr} {pos : Pos} (hna : notAttr fe = true) (hp : args.all noStar = true)
    (h : EOk B (n + 2) F S (eval fe env) fun fx S1 => LOk B (n + 2) F S1 (spliced (backTo pos (starEach args env))) fun xs S2 => callW G own fx xs S2 Q) : EOk B (n + 2) F S (eval (.Call fe args [] pos) env) Q := by
  intro A f T s R X
  have e : eval (.Call fe args [] pos) env = (eval fe env >>= fun fv => callWith pos fv [] (backTo pos (starEach args env)) []) := by cases fe <;> first | rfl | cases hna
  rw [e]
  exact EOk.go R X h fun f1 fv fx S1 s1 l1 X1 va q1 => callV_ok BO FO hmn R X1 va .nil (star_plain hp) l1 q1
noncomputable def notCall : Expr → Bool
  | .Call .. => false
  | _ => true
theorem attrBase {o : Expr} {name : Str} {w : Sem Value} (h : notCall o = true) : attributeBase o name env w = w := by
  cases o <;> first | rfl | cases h
set_option tactic.hygienic true in
theorem attr_ok (BO : B.Ok) (GO : GlOk B G) {o : Expr} {name : Str} {pos : Pos} (hn : notCall o = true) (h : EOk B n F S (eval o env) fun x S1 => match getAttrV G S1 x name with | some v => Q v S1 | none => False) :
    EOk B n F S (eval (.Attribute o name pos) env) Q := by
  intro A f T s R X
  have e : eval (.Attribute o name pos) env = (attributeBase o name env (eval o env) >>= fun ov => standAt pos.atName >>= fun _ => holding [ov] (getAttr ov name true) >>= fun r => letTemporaryGo o ov r >>= fun _ => pure r) := rfl
  rw [e, attrBase hn]
  refine EOk.go R X h fun f1 ov x S1 s1 l1 X1 va q1 => ?_
  try dsimp only at q1
  split at q1
  · rename_i v hv
    refine wpAny_bind (wpAny_standAt (wpAny_bind (wpAny_holding (wpAny_mono (getAttr_rule (Q := Q) BO GO hv X1 va q1) (fun r s2 p => ?_) fun _ _ e => e))))
    exact wpAny_bind (wpAny_letTemporaryGo (wpAny_pure (p.mono l1 fun _ _ q => q)))
  · exact q1.elim
theorem Slot.uniq {T : String} {name : Str} {i j : String} (h : Slot T name i) (k : Slot T name j) : i = j := by
  have e := h.lookup.symm.trans k.lookup
  injection e with e
  injection e with e
  injection e
theorem St.inst (X : St B f T (F ++ S) s) {a C d : Addr} {attrs : List (Str × CV)} (h : lk S a = some (.inst C d attrs)) : ∃ es n, InstAt s.heap a (instObj C d) C (some (dictOf es n)) ∧ AIs B f es attrs := by
  obtain ⟨g, es, n, gd, ai⟩ := X.get h
  exact ⟨es, n, ⟨g, rfl, rfl, gd⟩, ai⟩
set_option tactic.hygienic true in
theorem AIs.lookup_none {es : List DictEntry} {r : List (Str × CV)} (h : AIs B f es r) {x : Str} (e : lookN r x = none) : es.find? (·.key.isStr x) = none ∧ es.any (·.refKey) = false := by
  induction h with
  | nil => exact ⟨rfl, rfl⟩
  | @cons en y V es r hk hv hr ih =>
    obtain ⟨t, ht⟩ := hk
    unfold lookN at e
    split at e
    · cases e
    · rename_i hx
      obtain ⟨i1, i2⟩ := ih e
      refine ⟨?_, ?_⟩
      · rw [List.find?_cons, ht]
        have : (Value.str y t).isStr x = false := by
          simp [Value.isStr]; exact fun e => hx e.symm
        rw [this]; exact i1
      · rw [List.any_cons, i2, Bool.or_false]
        unfold DictEntry.refKey
        rw [ht]
theorem getL_none {es : List DictEntry} {r : List (Str × CV)} (h : AIs B f es r) {x : Str} (e : lookN r x = none) : getL x es = some none := by
  obtain ⟨h1, h2⟩ := AIs.lookup_none h e
  unfold getL
  rw [h1, h2]; rfl
theorem shadow_none {es : List DictEntry} {attrs : List (Str × CV)} {n : Nat} {name : Str} (h : AIs B f es attrs) (hn : (lookN attrs name).isNone = true) : shadowIn (some (dictOf es n)) name = some false := by
  unfold shadowIn
  show (lookIn name (dictOf es n)).map _ = _
  rw [lookIn_dict]
  rw [getL_none h (Option.isNone_iff_eq_none.mp hn)]
  rfl
inductive IdIs (T : String) (name : Str) : MK → Prop
  | mk (id : String) (hs : Slot T name id) (ht : typeOf (.builtin id) = pure (.type "method_descriptor")) : IdIs T name (.blt T id)
set_option tactic.hygienic true in
theorem dictId_is {name : Str} {k : MK} (h : dictId name = some k) : IdIs "dict" name k := by
  unfold dictId at h
  split at h
  · rename_i e; cases h; subst e; exact ⟨_, PySem.F.slot_dict_get, PySem.F.type_dict_get⟩
  split at h
  · rename_i e; cases h; subst e; exact ⟨_, PySem.F.slot_dict_pop, PySem.F.type_dict_pop⟩
  split at h
  · rename_i e; cases h; subst e; exact ⟨_, PySem.F.slot_dict_setdefault, PySem.F.type_dict_setdefault⟩
  · cases h
set_option tactic.hygienic true in
theorem listId_is {name : Str} {k : MK} (h : listId name = some k) : IdIs "list" name k := by
  unfold listId at h
  split at h
  · rename_i e; cases h; subst e; exact ⟨_, PySem.F.slot_list_append, PySem.F.type_list_append⟩
  split at h
  · rename_i e; cases h; subst e; exact ⟨_, PySem.F.slot_list_pop, PySem.F.type_list_pop⟩
  split at h
  · rename_i e; cases h; subst e; exact ⟨_, PySem.F.slot_list_extend, PySem.F.type_list_extend⟩
  · cases h
inductive FnAt (G : Gl) (S : Store) (name : Str) (fa : Addr) (x : CV) : Prop
  | mk (a C : Addr) (d : Addr) (attrs : List (Str × CV)) (e : x = .loc a) (hl : lk S a = some (.inst C d attrs)) (hn : (lookN attrs name).isNone = true) (hm : G.mt C name = some fa) : FnAt G S name fa x
theorem dictId_fn {name : Str} {fa : Addr} {P : Prop} (h : dictId name = some (.fn fa)) : P := by
  cases dictId_is h
theorem listId_fn {name : Str} {fa : Addr} {P : Prop} (h : listId name = some (.fn fa)) : P := by
  cases listId_is h
set_option tactic.hygienic true in
theorem if_map {c : Prop} [Decidable c] {o : Option Addr} {fa : Addr} (h : (if c then o.map MK.fn else none) = some (.fn fa)) : c ∧ o = some fa := by
  rcases o with _ | b
  · split at h <;> exact none_some h
  · split at h
    · cases h; exact ⟨‹_›, rfl⟩
    · exact none_some h
set_option tactic.hygienic true in
theorem kind_fn {name : Str} {fa : Addr} {x : CV} (h : kindM G S x name = some (.fn fa)) : FnAt G S name fa x := by
  cases x <;> first | exact none_some h | skip
  · exact dictId_fn h
  · rename_i a
    rcases hl : lk S a with _ | c
    · simp only [kindM, hl] at h; exact none_some h
    · cases c <;> simp only [kindM, hl] at h
      · exact listId_fn h
      · exact dictId_fn h
      · exact ⟨a, _, _, _, rfl, hl, (if_map h).1, (if_map h).2⟩
      all_goals exact none_some h
inductive BltAt (G : Gl) (S : Store) (name : Str) (T id : String) (x : CV) : Prop
  | li (a : Addr) (xs : List CV) (e : x = .loc a) (hl : lk S a = some (.list xs)) (hT : T = "list") (hs : IdIs "list" name (.blt T id)) : BltAt G S name T id x
  | di (a : Addr) (kvs : List (Int × CV)) (e : x = .loc a) (hl : lk S a = some (.dict kvs)) (hT : T = "dict") (hs : IdIs "dict" name (.blt T id)) : BltAt G S name T id x
  | fd (kvs : List (Int × CV)) (e : x = .fdict kvs) (hT : T = "dict") (hs : IdIs "dict" name (.blt T id)) : BltAt G S name T id x
theorem IdIs.ty {U T id : String} {name : Str} (h : IdIs U name (.blt T id)) : T = U := by cases h; rfl
theorem if_blt {c : Prop} [Decidable c] {o : Option Addr} {T id : String} {P : Prop} (h : (if c then o.map MK.fn else none) = some (.blt T id)) : P := by
  rcases o with _ | b <;> split at h <;> cases h
set_option tactic.hygienic true in
theorem kind_blt {name : Str} {T id : String} {x : CV} (h : kindM G S x name = some (.blt T id)) : BltAt G S name T id x := by
  cases x <;> first | exact none_some h | skip
  · exact .fd _ rfl (dictId_is h).ty (dictId_is h)
  · rename_i a
    rcases hl : lk S a with _ | c
    · simp only [kindM, hl] at h; exact none_some h
    · cases c <;> simp only [kindM, hl] at h
      · exact .li _ _ rfl hl (listId_is h).ty (listId_is h)
      · exact .di _ _ rfl hl (dictId_is h).ty (dictId_is h)
      · exact if_blt h
      all_goals exact none_some h
set_option tactic.hygienic true in
theorem blt_call {own : Bool} {T id : String} {x : CV} {ov : Value} {name : Str} {args : List CV} {vs : List Value} (hk : kindM G S x name = some (.blt T id)) (hs : Slot T name id) (h : methW G own x name args S Q) (X : St B f T' (F ++ S) s) (ho : VIs B f ov x) (hv : VsIs B f vs args) :
    wpAny (model B.prog B.w) A (call (.builtin id) (ov :: vs)) (Pst B f T' F Q) noE s := by
  rcases kind_blt hk with ⟨a, xs, rfl, hl, rfl, _, hs', _⟩ | ⟨a, xs, rfl, hl, rfl, _, hs', _⟩ | ⟨kvs, rfl, rfl, _, hs', _⟩
  · obtain rfl := ho.inv
    unfold methW at h
    dsimp only at h
    rw [hl] at h
    obtain ⟨i2, s2, hc⟩ := listMeth_rule (A := A) h X hl hv
    rw [Slot.uniq hs' s2]
    exact hc
  · obtain rfl := ho.inv
    unfold methW at h
    dsimp only at h
    rw [hl] at h
    obtain ⟨i2, s2, hc⟩ := dictMeth_rule (A := A) h X hl hv
    rw [Slot.uniq hs' s2]
    exact hc
  · unfold methW at h
    dsimp only at h
    split at h
    · rename_i hn
      subst hn
      rw [Slot.uniq hs' PySem.F.slot_dict_get]
      obtain ⟨_, _, _, rfl, hf, lo, hd, hk⟩ := ho.inv
      exact getMethW h X ⟨lo, _, Heap.dictOf_iff.mpr ⟨_, X.fin _ _ hf, hd⟩, hk⟩ hv
    · exact h.elim
theorem blt_get {T id : String} {x : CV} {ov : Value} {name : Str} {pl : Sem Bool} {R : Value × List Value → Shared → Prop} (hk : kindM G S x name = some (.blt T id)) (X : St B f T' (F ++ S) s) (ho : VIs B f ov x) (h : Slot T name id → R (.builtin id, [ov]) s) :
    wpAny (model B.prog B.w) A (getMethod ov name pl) R noE s := by
  rcases kind_blt hk with ⟨a, xs, rfl, hl, rfl, _, hs', ht⟩ | ⟨a, xs, rfl, hl, rfl, _, hs', ht⟩ | ⟨kvs, rfl, rfl, _, hs', ht⟩
  · obtain rfl := ho.inv
    obtain ⟨us, nn, g, _⟩ := X.get hl
    exact getMethod_builtin (T := "list") ⟨_, g, rfl⟩ PySem.F.plainAttrs_list hs' ht (fun b e => by cases e; exact ⟨_, g, rfl⟩) (h hs')
  · obtain rfl := ho.inv
    obtain ⟨_, va, d, kv⟩ := X.get hl
    exact getMethod_builtin (T := "dict") d.typeIs PySem.F.plainAttrs_dict hs' ht d.mapOf.noDict (h hs')
  · obtain ⟨_, _, _, rfl, hf, lo, hd, hk⟩ := ho.inv
    have d := Heap.dictOf_iff.mpr ⟨_, X.fin _ _ hf, hd⟩
    exact getMethod_builtin (T := "dict") d.typeIs PySem.F.plainAttrs_dict hs' ht d.mapOf.noDict (h hs')
theorem meth_fn {own : Bool} {a C d fa : Addr} {attrs : List (Str × CV)} {name : Str} {args : List CV} (hl : lk S a = some (.inst C d attrs)) (hm : G.mt C name = some fa) (q : methW G own (.loc a) name args S Q) : G.fn fa (.loc a :: args) S Q := by
  unfold methW at q
  dsimp only at q
  rw [hl] at q
  dsimp only at q
  rw [hm] at q
  exact q
set_option tactic.hygienic true in
theorem meth_ok (BO : B.Ok) (MO : MtOk B G) (FO : FnsOk B G m) (hmn : m ≤ n + 2) {own : Bool} {o : Expr} {name : Str} {apos pos : Pos} {args : List Expr} (hn : notCall o = true) (hp : args.all noStar = true) (hlen : args.length < 30) (hpos : (apos.endLine == pos.line) = true)
    (h : EOk B (n + 2) F S (eval o env) fun x S1 => (kindM G S1 x name).isSome = true ∧ LOk B (n + 2) F S1 (spliced (backTo pos (starEach args env))) fun xs S2 => kindM G S2 x name = kindM G S1 x name ∧ methW G own x name xs S2 Q) :
    EOk B (n + 2) F S (eval (.Call (.Attribute o name apos) args [] pos) env) Q := by
  intro A f T s R X
  have e : eval (.Call (.Attribute o name apos) args [] pos) env = (attributeBase o name env (eval o env) >>= fun ov => standAt apos.atName >>= fun _ =>
    methodCall o name apos pos env ov (args.length + 0) (backTo pos (starEach args env)) []) := rfl
  rw [e, attrBase hn]
  refine EOk.go R X h fun f1 ov x S1 s1 l1 X1 va q1 => ?_
  obtain ⟨hk, q1⟩ := q1
  refine wpAny_bind (wpAny_standAt ?_)
  unfold methodCall
  have hform : methodCallForm (args.length + 0) (backTo pos (starEach args env)) [] = true := by
    unfold methodCallForm
    have := star_plain (env := env) (pos := pos) hp
    rw [List.any_eq_false] at this
    simp only [List.all_nil, Bool.and_true, Bool.and_eq_true, decide_eq_true_eq, List.all_eq_true, List.isEmpty_nil, if_true]
    exact ⟨fun p hp => by simpa using this p hp, by omega⟩
  rw [hform]
  have hp' := star_plain (env := env) (pos := pos) hp
  have hcp : methodCallPos true o env apos pos = pure pos := by
    unfold methodCallPos
    rw [hpos]; rfl
  rw [hcp]
  unfold calleeOf
  rw [if_pos rfl]
  rcases hkx : kindM G S1 x name with _ | k
  · rw [hkx] at hk; cases hk
  · rw [hkx] at q1
    cases k with
    | blt T2 id =>
      refine wpAny_bind (wpAny_holding (blt_get hkx X1 va fun hs => ?_))
      refine wpAny_bind (wpAny_pure ?_)
      refine PySem.Calls.callWith_builtin hp' (evalArgs_all hp' (wpAny_mono (q1 A f1 T s1 R X1) (fun vs s2 pp => pp.elim fun f2 xs S2 l2 X2 vb hq => ?_) fun _ _ e => e))
      exact wpAny_mono (blt_call hq.1 hs hq.2 X2 (va.mono l2) vb) (fun _ _ p => p.mono (l1.trans l2) fun _ _ q => q) fun _ _ e => e
    | fn fa =>
      obtain ⟨a, C, d, attrs, rfl, hl, hnn, hmt⟩ := kind_fn hkx
      obtain ⟨co, hfi, hty⟩ := MO.ok _ _ _ hmt
      obtain ⟨es, nn, I, ai⟩ := X1.inst hl
      obtain rfl := va.inv
      refine wpAny_bind (wpAny_holding (method_fn (X1.kin BO) I co.ga co.gt hfi hty (shadow_none ai hnn) ?_))
      refine wpAny_bind (wpAny_pure ?_)
      refine callWith_of (P := fun h => B.K.In h ∧ keepIn B.K (.ref fa) = true) (by rw [hp']; rfl) (fun h hh => keeps_K hh.2 h hh.1) (evalArgs_all hp' (wpAny_mono (q1 A f1 T s1 R X1) (fun vs s2 pp => pp.elim fun f2 xs S2 l2 X2 vb hq => ?_) fun _ _ e => e))
      obtain ⟨hk2, q2⟩ := hq
      obtain ⟨a2, C2, d2, at2, e2, hl2, _, hm2⟩ := kind_fn hk2
      cases e2
      have q := FO _ _ _ _ (meth_fn hl2 hm2 q2)
      exact ⟨⟨X2.kin BO, q.1⟩, wpAny_mono ((q.le hmn).call R X2 (.cons (.loc a) vb)) (fun _ _ p => p.mono (l1.trans l2) fun _ _ q => q) fun _ _ e => e⟩
end
end Lend
namespace Lend
section
variable {B : Bs} {G : Gl} {n m : Nat} {F S : Store} {Q Q' : CV → Store → Prop} {A : Around} {f g T T' : Fz} {s : Shared} {env : Env}
theorem VsIs.take {vs : List Value} {xs : List CV} (h : VsIs B f vs xs) : ∀ j : Nat, VsIs B f (vs.take j) (xs.take j)
  | 0 => .nil
  | j + 1 => by
    rcases h with _ | ⟨h1, h2⟩
    · exact .nil
    · exact .cons h1 (VsIs.take h2 j)
set_option tactic.hygienic true in
theorem sub_ok (BO : B.Ok) (GO : GlOk B G) {value slice : Expr} {pos : Pos} (hs : isSlice slice = false)
    (h : EOk B n F S (eval value env) fun x S1 => EOk B n F S1 (eval slice env) fun y S2 => match getItemV G.gd S2 x y with | some v => Q v S2 | none => False) : EOk B n F S (eval (.Subscript value slice pos) env) Q := by
  intro A f T s R X
  refine Subscript_ (wpAny_mono (h A f T s R X) (fun o s1 pp => pp.elim fun f1 x S1 l1 X1 va q1 => wpAny_mono (q1 A f1 T s1 R X1) (fun i s2 pp => pp.elim fun f2 y S2 l2 X2 vb q2 => ?_) fun _ _ e => e) fun _ _ e => e)
  try dsimp only at q2
  split at q2
  · rename_i v hv
    exact wpAny_mono (sub_rule BO GO hs hv X2 (va.mono l2) vb q2) (fun _ _ p => p.mono (l1.trans l2) fun _ _ q => q) fun _ _ e => e
  · exact q2.elim
set_option tactic.hygienic true in
theorem cut_ok {x : Str} {p0 p pos : Pos} {hi : Expr}
    (h : EOk B n F S (eval (.Name x p0) env) fun x S1 => EOk B n F S1 (eval hi env) fun y S2 => match view S2 x, y with
      | .flist xs, .int k => 0 ≤ k ∧ k.toNat ≤ xs.length ∧ xs.length ≤ small ∧ Q (.flist (xs.take k.toNat)) S2
      | _, _ => False) : EOk B n F S (eval (.Subscript (.Name x p0) (.Slice none (some hi) none p) pos) env) Q := by
  intro A f T s R X
  refine wpAny_Subscript_list_slice (wpAny_mono (h A f T s R X) (fun o s1 pp => pp.elim fun f1 x S1 l1 X1 va q1 => ?_) fun _ _ e => e)
  rw [evalPart_none, evalPart_some]
  refine wpAny_pure (wpAny_mono (q1 A f1 T s1 R X1) (fun i s2 pp => pp.elim fun f2 y S2 l2 X2 vb q2 => ?_) fun _ _ e => e)
  try dsimp only at q2
  split at q2
  · rename_i xs k hvw
    obtain ⟨a, rfl, us, nn, ga, uv⟩ := view_flist X2 (va.mono l2) hvw
    obtain ⟨t, rfl⟩ := vb.inv
    obtain ⟨k0, k1, k2, q⟩ := q2
    have L := uv.length
    rw [Array.length_toList] at L
    refine ⟨a, us, none, some k, rfl, ⟨_, ga, rfl, nn, rfl⟩, by rw [L, sizeL]; unfold small at k2; omega, .none, .int _ _, ?_⟩
    obtain ⟨j, rfl⟩ := Int.eq_ofNat_of_zero_le k0
    have hpick : slicePick us none (some (j : Int)) none = (us.toList.take j).toArray := slicePick_upto us j (by rw [L]; simpa using k1)
    rw [hpick]
    have X3 := X2.pushF (o := { cls := .type "slice", data := .fields #[.none, .int (j : Int) t, .none] }) (t := s2.toks) rfl
    have hv2 : VsIs B f2 (us.toList.take j) (xs.take j) := uv.take j
    have := pst_flist (k := s2.toks) X3.1 (hv2.mono X3.2) q
    rw [Heap.size_push] at this
    exact this.mono ((l1.trans l2).trans X3.2) fun _ _ q => q
  · exact q2.elim
set_option tactic.hygienic true in
theorem stored_nodup {va : List (Int × Value)} {k : Int} {v : Value} (h : (va.map (·.1)).Nodup) : ((stored va k v).map (·.1)).Nodup := by
  unfold stored
  split
  · have : (va.map fun kv => if kv.1 = k then (kv.1, v) else kv).map (·.1) = va.map (·.1) := by
      rw [List.map_map]
      refine List.map_congr_left fun p _ => ?_
      simp only [Function.comp]
      split <;> rfl
    rw [this]; exact h
  · rename_i hn
    rw [List.map_append]
    refine List.nodup_append.mpr ⟨h, by simp, fun a ha b hb e => ?_⟩
    simp at hb
    subst hb e
    obtain ⟨p, hp, e⟩ := List.mem_map.mp ha
    exact hn (List.any_eq_true.mpr ⟨p, hp, by simpa using e⟩)
theorem merged_is {more : List (Int × Value)} {kvs : List (Int × CV)} {va : List (Int × Value)} {ka : List (Int × CV)} (hm : KIs B f more kvs) (h : KIs B f va ka) (hn : (va.map (·.1)).Nodup) : KIs B f (merged va more) (mergeK ka kvs) := by
  induction kvs generalizing more va ka with
  | nil => obtain rfl := hm.inv; exact h
  | cons p r ih =>
    obtain ⟨k, x⟩ := p
    obtain ⟨v, r', rfl, hv, hr⟩ := hm.inv
    show KIs B f (merged (stored va k v) r') (mergeK (putK ka k x) r)
    exact ih hr (stored_put h hn hv) (stored_nodup hn)
noncomputable def KPs (B : Bs) (f : Fz) (vs : List (Value × Value)) (kvs : List (Int × CV)) : Prop := ∃ vk, Carries (intKind B.prog B.w) vs vk ∧ KIs B f vk kvs
inductive PPst (B : Bs) (f T : Fz) (F : Store) (Q : List (Int × CV) → Store → Prop) (vs : List (Value × Value)) (s' : Shared) : Prop
  | mk (f' : Fz) (kvs : List (Int × CV)) (S' : Store) (l : Fz.le f f') (X : St B f' T (F ++ S') s') (va : KPs B f' vs kvs) (q : Q kvs S') : PPst B f T F Q vs s'
noncomputable def POk (B : Bs) (n : Nat) (F S : Store) (t : Sem (List (Value × Value))) (Q : List (Int × CV) → Store → Prop) : Prop :=
  ∀ A f T s, Room n A → St B f T (F ++ S) s → wpAny (model B.prog B.w) A t (PPst B f T F Q) noE s
theorem pairs_nil {Q : List (Int × CV) → Store → Prop} (h : Q [] S) : POk B n F S (evalPairs []) Q := fun _ f _ _ _ X => evalPairs_nil ⟨f, [], S, Fz.le.refl f, X, ⟨[], trivial, .nil⟩, h⟩
theorem pairs_cons {k : Int} {kk : Nat} {kp pos : Pos} {e : Expr} {rest : List (Sem Value × Sem Value)} {Q : List (Int × CV) → Store → Prop}
    (h : EOk B n F S (eval e env) fun x S1 => POk B n F S1 (evalPairs rest) fun kvs S2 => Q ((k, x) :: kvs) S2) :
    POk B n F S (evalPairs ((eval (.Constant (.int k) kk kp) env, (do let x ← eval e env; standAt pos; pure x)) :: rest)) Q := by
  intro A f T s R X
  refine evalPairs_cons (wpAny_Constant_int ?_)
  refine EOk.go R (X.toks _) h fun f1 v x S1 s1 l1 X1 va q1 => wpAny_bind (wpAny_standAt (wpAny_pure ?_))
  refine wpAny_mono (q1 A f1 T s1 R X1) (fun vs s2 ⟨f2, kvs, S2, l2, X2, ⟨vk, c, ki⟩, q2⟩ => ?_) fun _ _ e => e
  exact ⟨f2, _, S2, l1.trans l2, X2, ⟨(k, v) :: vk, ⟨intKind_is _ _ _ _, rfl, c⟩, .cons (va.mono l2) ki⟩, q2⟩
theorem dict_nil {own : Bool} {pos : Pos} (BO : B.Ok) (h : newDictW own [] S Q) : EOk B n F S (eval (.Dict [] [] pos) env) Q := fun _ _ _ s _ X =>
  wpAny_Dict_empty (pst_extDict (t := s.toks) BO X (fun _ _ e => Heap.get?_push_of_some _ e) (Nat.le_refl _) (Heap.DictOf.new s.heap) .nil h)
theorem dict_ok {own : Bool} {keys : List (Option Expr)} {values : List Expr} {pos : Pos} {pairs : List (Sem Value × Sem Value)} (BO : B.Ok)
    (hshape : (evalEachOpt keys env).zip ((evalEach values env).map fun v => do let x ← v; standAt pos; pure x) = pairs.map fun p => (some p.1, p.2)) (h0 : pairs ≠ []) (hlen : pairs.length ≤ 15)
    (h : POk B n F S (evalPairs pairs) fun kvs S1 => newDictW own (mergeK [] kvs) S1 Q) : EOk B n F S (eval (.Dict keys values pos) env) Q := by
  intro A f T s R X
  refine wpAny_Dict_pairs (knd := intKind B.prog B.w) hshape h0 hlen ?_
  have lo := X.notMod BO (Nat.le_refl s.heap.objs.size)
  have dn : (s.heap.push { cls := .type "dict", data := .dict #[] }).DictOf (intKind B.prog B.w) s.heap.objs.size [] := Heap.DictOf.new s.heap
  have Y := X.pushC (o := { cls := .type "dict", data := .dict #[] }) (c := .dict []) (t := s.toks) rfl rfl ⟨lo, _, dn, .nil⟩
  have fr := X.fresh
  have Z := Y.park (Heap.get?_push_size _ rfl)
  refine wpAny_mono (h A f _ _ R Z) (fun vs s1 ⟨f1, kvs, S1, l1, X1, ⟨vk, c, ki⟩, q1⟩ => ?_) fun _ _ e => e
  have U := St.unpark fr.2.1 (c := .dict []) (s := { s with heap := s.heap.push { cls := .type "dict", data := .dict #[] } }) ⟨lo, _, dn, .nil⟩ (Heap.get?_push_size _ rfl) rfl l1 X1
  obtain ⟨_, vd, d1, kv1⟩ := U.cell _ (.head _)
  obtain ⟨_, rfl⟩ := kv1.inv
  refine ⟨vk, c, d1, fun h' d' hs => ?_⟩
  have hm : KIs B f1 (merged [] vk) (mergeK [] kvs) := merged_is ki .nil (by simp)
  have V := U.change (c' := .dict (mergeK [] kvs)) (t := s1.toks + vs.length) hs (foot_self _ _) rfl ⟨lo, _, d', hm⟩
  unfold newDictW at q1
  split at q1
  · have sep := V.sep
    have : s.heap.objs.size ∉ feet (F ++ S1) := by
      rw [feet_cons] at sep
      exact fun hb => (List.nodup_append.mp sep).2.2 _ (foot_self _ _) _ hb rfl
    obtain ⟨h1, h2⟩ := lk_fresh this
    exact ⟨f1, _, _, l1, V.perm List.perm_middle.symm, .loc _, q1 _ h1 h2⟩
  · obtain ⟨o, ho, hio⟩ := Heap.dictOf_iff.mp d'
    obtain ⟨W, l2⟩ := V.freeze ho
    exact ⟨_, _, S1, l1.trans l2, W, .fdict (Fz.put_self ..) lo hio (hm.mono l2), q1⟩
end
end Lend
namespace Lend
inductive ItAt (B : Bs) (f : Fz) (h : Heap) (I : Addr) : CV → Nat → Prop
  | own {a i} : h.IsListIter I a i → ItAt B f h I (.loc a) i
  | lst {a vs n xs i} : h.IsListIter I a i → f a = some (lobj vs n) → VsIs B f vs.toList xs → ItAt B f h I (.flist xs) i
  | tup {a o vs n xs i} : h.IsTupleIter I a i → f a = some o → o.cls = .type "tuple" → o.data = .seq vs n → VsIs B f vs.toList xs → ItAt B f h I (.tup xs) i
  | dic {d o va kvs ep i} : h.IsKeyIter I d i va.length ep → f d = some o → (∀ h : Heap, h.get? d = some o → h.DictAt (intKind B.prog B.w) d va ep) → KIs B f va kvs → ItAt B f h I (.fdict kvs) i
  | rng {a b : Int} {i : Nat} : IsRangeIter h I (a + (i : Nat) * 1) (((b - a).toNat : Int) - (i : Nat)) 1 → ItAt B f h I (.rng a b) i
section
variable {B : Bs} {G : Gl} {n m : Nat} {F S : Store} {Q Q' : CV → Store → Prop} {A : Around} {f g T T' : Fz} {s : Shared} {env : Env}
theorem ItAt.get {h : Heap} {I : Addr} {x : CV} {i : Nat} (t : ItAt B f h I x i) : ∃ o, h.get? I = some o := by
  cases t with
  | own h => exact ⟨_, h.choose_spec.1⟩
  | lst h => exact ⟨_, h.choose_spec.1⟩
  | tup h => exact ⟨_, h.choose_spec.1⟩
  | dic h => exact ⟨_, h.choose_spec.1⟩
  | rng h => exact ⟨_, h⟩
theorem ItAt.at {h h' : Heap} {I : Addr} {x : CV} {i : Nat} (t : ItAt B f h I x i) (l : Fz.le f g) (e : ∀ o, h.get? I = some o → h'.get? I = some o) : ItAt B g h' I x i := by
  cases t with
  | own h => exact .own (h.at e)
  | lst h a b => exact .lst (h.at e) (l _ _ a) (b.mono l)
  | tup h a b c d => exact .tup (h.at e) (l _ _ a) b c (d.mono l)
  | dic h a b c => exact .dic (h.at e) (l _ _ a) b (c.mono l)
  | rng h => exact .rng (e _ h)
set_option tactic.hygienic true in
theorem iter_rule {v : Value} {x : CV} {items : List CV} {R : Value → Shared → Prop} (hx : iterX S x = some items) (X : St B f T (F ++ S) s) (hv : VIs B f v x)
    (hR : ∀ o, o.isFreed = false → ItAt B f (s.heap.push o) s.heap.objs.size x 0 → R (.ref s.heap.objs.size) { s with heap := s.heap.push o }) : wpAny (model B.prog B.w) A (pyIter v) R noE s := by
  unfold iterX at hx
  split at hx
  · obtain ⟨a, o, va, rfl, ha, lo, hd, hk⟩ := hv.inv
    obtain ⟨es, ep, hd'⟩ := id hd
    have da : ∀ h : Heap, h.get? a = some o → h.DictAt (intKind B.prog B.w) a va ep := fun h e => ⟨o, es, e, hd'⟩
    exact wpAny_pyIter_dict lo (da _ (X.fin _ _ ha)) (hR _ rfl (.dic ⟨_, Heap.get?_push_size _ rfl, rfl, rfl⟩ ha da hk))
  · rename_i a
    split at hx
    · rename_i xs hl
      obtain ⟨_, rfl⟩ := hv.inv
      obtain ⟨us, nn, g, uv⟩ := X.get hl
      exact wpAny_pyIter_list ⟨_, g, rfl, nn, rfl⟩ (hR _ rfl (.own ⟨_, Heap.get?_push_size _ rfl, rfl, rfl⟩))
    · cases hx
  · obtain ⟨_, _, _, rfl, ha, hu⟩ := hv.inv
    exact wpAny_pyIter_list ⟨_, X.fin _ _ ha, rfl, _, rfl⟩ (hR _ rfl (.lst ⟨_, Heap.get?_push_size _ rfl, rfl, rfl⟩ ha hu))
  · obtain ⟨_, _, _, _, rfl, ha, hc, hd, hu⟩ := hv.inv
    exact wpAny_pyIter_tuple ⟨_, X.fin _ _ ha, hc, _, hd⟩ (hR _ rfl (.tup ⟨_, Heap.get?_push_size _ rfl, rfl, rfl⟩ ha hc hd hu))
  · split at hx
    · rename_i a b hb
      obtain ⟨_, _, rfl, ha, hr⟩ := hv.inv
      obtain ⟨t, u, v, hr'⟩ := hr _ (X.fin _ _ ha)
      have hsz : Builtin.Range.rangeSize a b 1 = ((b - a).toNat : Int) := by rw [rangeSize_one]; split <;> omega
      refine wpAny_pyIter_range hr' (small_one (by omega) (by omega) (by omega) (by omega)) (hR _ rfl (.rng ?_))
      have e1 : (a + ((0 : Nat) : Int) * 1) = a := by simp
      have e2 : (((b - a).toNat : Int) - ((0 : Nat) : Int)) = Builtin.Range.rangeSize a b 1 := by rw [hsz]; simp
      rw [e1, e2]
      exact Heap.get?_push_size _ rfl
    · cases hx
  · cases hx
theorem KIs.key {va : List (Int × Value)} {kvs : List (Int × CV)} (h : KIs B f va kvs) {i : Nat} {k : Int} {v : Value} (e : va[i]? = some (k, v)) : (kvs.map fun p => CV.int p.1)[i]? = some (.int k) := by
  induction kvs generalizing va i with
  | nil => obtain rfl := h.inv; exact none_some e
  | cons p r ih =>
    obtain ⟨w, _, rfl, hv, hr⟩ := h.inv
    rcases i with _ | i
    · cases e; rfl
    · exact ih hr e
theorem rangeL_get : ∀ (n : Nat) (a : Int) (i : Nat), i < n → (rangeL a n)[i]? = some (.int (a + i))
  | 0, _, _, h => by omega
  | n + 1, a, 0, _ => by simp [rangeL]
  | n + 1, a, i + 1, h => by
    simp only [rangeL, List.getElem?_cons_succ]
    rw [rangeL_get n (a + 1) i (by omega)]
    congr 2
    push_cast; omega
theorem rangeL_length : ∀ (n : Nat) (a : Int), (rangeL a n).length = n
  | 0, _ => rfl
  | n + 1, a => by simp [rangeL, rangeL_length]
theorem keeps_but {I : Addr} {h h' : Heap} (k : ∀ b o, b ∉ [I] → h.get? b = some o → h'.get? b = some o) : ∀ b o, b ≠ I → h.get? b = some o → h'.get? b = some o := fun b o hb => k b o (by simpa using hb)
set_option tactic.hygienic true in
theorem next_rule {I : Addr} {x : CV} {items : List CV} {i : Nat} {y : CV} {R : Option Value → Shared → Prop} {E : Value → Shared → Prop} (hh : A.handled = none) (hx : iterX S x = some items) (X : St B f T (F ++ S) s) (hI : ∀ o, f I = some o → False) (hIS : I ∉ feet (F ++ S)) (t : ItAt B f s.heap I x i)
    (hy : items[i]? = some y)
    (hR : ∀ v h' tk, VIs B f v y → ItAt B f h' I x (i + 1) → (∀ b o, b ≠ I → s.heap.get? b = some o → h'.get? b = some o) → R (some v) { s with heap := h', toks := tk }) :
    wpAny (model B.prog B.w) A (pyNext (.ref I)) R E s := by
  unfold iterX at hx
  split at hx
  · cases hx
    cases t with
    | dic h1 h2 h3 h4 =>
      have L := h4.length
      have hi : i < _ := (List.getElem?_eq_some_iff.mp hy).1
      rw [List.length_map, ← L] at hi
      refine (Walks.dictKeys hh I _ (fun e => hI _ (e ▸ h2)) _ _).item i s R E hi ⟨h1, h3 _ (X.fin _ _ h2)⟩ fun v h' tk ⟨k, u, e1, e2⟩ st kb => ?_
      obtain ⟨tt, rfl⟩ := Value.isInt_shape e2
      have := h4.key e1
      rw [hy] at this
      cases this
      exact hR _ h' tk (.int _ _) (.dic st.1 h2 h3 h4) (keeps_but kb)
  · rename_i a
    split at hx
    · rename_i xs hl
      cases hx
      cases t with
      | own h1 =>
        obtain ⟨us, nn, g, uv⟩ := X.get hl
        obtain ⟨v, e1, e2⟩ := uv.get hy
        have hi : i < us.size := by simpa using (List.getElem?_eq_some_iff.mp e1).1
        have hne : a ≠ I := by
          rintro rfl
          exact hIS (by rw [feet_append]; exact List.mem_append_right _ (mem_feet.mpr ⟨_, lk_mem hl, foot_self ..⟩))
        refine (Walks.list hh I a hne us).item i s R E hi ⟨h1, _, g, rfl, nn, rfl⟩ fun v' h' tk e st kb => ?_
        have : v' = v := by
          rw [← Array.getElem?_toList, e1] at e
          cases e; rfl
        subst this
        exact hR _ h' tk e2 (.own st.1) (keeps_but kb)
    · cases hx
  · cases hx
    cases t with
    | @lst a us nn _ _ h1 h2 h3 =>
      obtain ⟨v, e1, e2⟩ := h3.get hy
      have hi : i < us.size := by simpa using (List.getElem?_eq_some_iff.mp e1).1
      refine (Walks.list hh I a (fun e => hI _ (e ▸ h2)) us).item i s R E hi ⟨h1, _, X.fin _ _ h2, rfl, nn, rfl⟩ fun v' h' tk e st kb => ?_
      have : v' = v := by
        rw [← Array.getElem?_toList, e1] at e
        cases e; rfl
      subst this
      exact hR _ h' tk e2 (.lst st.1 h2 h3) (keeps_but kb)
  · cases hx
    cases t with
    | @tup a o us nn _ _ h1 h2 h3 h4 h5 =>
      obtain ⟨v, e1, e2⟩ := h5.get hy
      have hi : i < us.size := by simpa using (List.getElem?_eq_some_iff.mp e1).1
      refine (Walks.tuple hh I a (fun e => hI _ (e ▸ h2)) us).item i s R E hi ⟨h1, _, X.fin _ _ h2, h3, nn, h4⟩ fun v' h' tk e st kb => ?_
      have : v' = v := by
        rw [← Array.getElem?_toList, e1] at e
        cases e; rfl
      subst this
      exact hR _ h' tk e2 (.tup st.1 h2 h3 h4 h5) (keeps_but kb)
  · split at hx
    · cases hx
      rename_i a b hb
      cases t with
      | rng h1 =>
        have hi : i < (b - a).toNat := by have := (List.getElem?_eq_some_iff.mp hy).1; rwa [rangeL_length] at this
        rw [rangeL_get _ _ _ hi] at hy
        cases hy
        refine (Walks.range hh I a 1 (b - a).toNat).item i s R E hi h1 fun v' h' tk ⟨tt, e⟩ st kb => ?_
        subst e
        refine hR _ h' tk ?_ (.rng st) (keeps_but kb)
        rw [Int.mul_one]
        exact .int _ _
    · cases hx
  · cases hx
set_option tactic.hygienic true in
theorem end_rule {I : Addr} {x : CV} {items : List CV} {i : Nat} {R : Option Value → Shared → Prop} {E : Value → Shared → Prop} (hh : A.handled = none) (hx : iterX S x = some items) (X : St B f T (F ++ S) s) (hI : ∀ o, f I = some o → False) (hIS : I ∉ feet (F ++ S)) (t : ItAt B f s.heap I x i)
    (hi : i = items.length)
    (hR : ∀ h' tk, (∀ b o, b ≠ I → s.heap.get? b = some o → h'.get? b = some o) → R none { s with heap := h', toks := tk }) :
    wpAny (model B.prog B.w) A (pyNext (.ref I)) R E s := by
  subst hi
  unfold iterX at hx
  split at hx
  · cases hx
    cases t with
    | dic h1 h2 h3 h4 =>
      have L := h4.length
      rw [List.length_map, ← L] at h1
      exact (Walks.dictKeys hh I _ (fun e => hI _ (e ▸ h2)) _ _).done s R E ⟨h1, h3 _ (X.fin _ _ h2)⟩ fun h' tk kb => hR h' tk (keeps_but kb)
  · rename_i a
    split at hx
    · rename_i xs hl
      cases hx
      cases t with
      | own h1 =>
        obtain ⟨us, nn, g, uv⟩ := X.get hl
        have L := uv.length
        rw [Array.length_toList] at L
        rw [← L] at h1
        have hne : a ≠ I := by
          rintro rfl
          exact hIS (by rw [feet_append]; exact List.mem_append_right _ (mem_feet.mpr ⟨_, lk_mem hl, foot_self ..⟩))
        exact (Walks.list hh I a hne us).done s R E ⟨h1, _, g, rfl, nn, rfl⟩ fun h' tk kb => hR h' tk (keeps_but kb)
    · cases hx
  · cases hx
    cases t with
    | @lst a us nn _ _ h1 h2 h3 =>
      have L := h3.length
      rw [Array.length_toList] at L
      rw [← L] at h1
      exact (Walks.list hh I a (fun e => hI _ (e ▸ h2)) us).done s R E ⟨h1, _, X.fin _ _ h2, rfl, nn, rfl⟩ fun h' tk kb => hR h' tk (keeps_but kb)
  · cases hx
    cases t with
    | @tup a o us nn _ _ h1 h2 h3 h4 h5 =>
      have L := h5.length
      rw [Array.length_toList] at L
      rw [← L] at h1
      exact (Walks.tuple hh I a (fun e => hI _ (e ▸ h2)) us).done s R E ⟨h1, _, X.fin _ _ h2, h3, nn, h4⟩ fun h' tk kb => hR h' tk (keeps_but kb)
  · split at hx
    · cases hx
      rename_i a b hb
      cases t with
      | rng h1 =>
        rw [rangeL_length] at h1
        exact (Walks.range hh I a 1 (b - a).toNat).done s R E h1 fun h' tk kb => hR h' tk (keeps_but kb)
    · cases hx
  · cases hx
theorem letGo_any {E : Value → Shared → Prop} {target : Expr} {I : Addr} {x : CV} {i : Nat} {v : Value} {R : Unit → Shared → Prop} (t : ItAt B f s.heap I x i) (h : R () s) : wpAny (model B.prog B.w) A (letOwnedTupleGo target (.ref I) v) R E s := by
  cases t with
  | own h1 => exact letGo_listiter h1 h
  | lst h1 => exact letGo_listiter h1 h
  | tup h1 => exact letGo_tupleiter h1 h
  | dic h1 => exact letGo_keyiter h1 h
  | rng h1 =>
    unfold letOwnedTupleGo
    cases target <;> first
      | exact wpAny_pure h
      | (cases v <;> first
          | exact wpAny_pure h
          | (refine wpAny_bind (wpAny_load h1 ?_)
             exact wpAny_pure h))
theorem St.setObj {I : Addr} {o o' : Obj} {h' : Heap} {tk : Nat} {X : Store} (x : St B f T ((I, .obj o) :: X) s) (k : ∀ b ob, b ≠ I → s.heap.get? b = some ob → h'.get? b = some ob) (ho : h'.get? I = some o') : St B f T ((I, .obj o') :: X) { s with heap := h', toks := tk } := by
  have hd := x.dis I (by rw [feet_cons]; exact List.mem_append_left _ (foot_self ..))
  have sep := x.sep
  rw [feet_cons] at sep
  have hX : I ∉ feet X := fun hb' => (List.nodup_append.mp sep).2.2 I (foot_self ..) I hb' rfl
  have ne : ∀ b ob, f b = some ob → b ≠ I := fun b ob e => ne_sn e hd.1
  have nT : ∀ b ob, T b = some ob → b ≠ I := fun b ob e => ne_sn e hd.2
  refine ⟨x.gens, x.os, x.base, fun b ob e => k _ _ (ne b ob e) (x.fin b ob e), fun b ob e => ⟨k _ _ (nT b ob e) (x.tin b ob e).1, (x.tin b ob e).2⟩, fun p hp => ?_, fun b hb => x.dis b hb, x.sep⟩
  rcases List.mem_cons.mp hp with rfl | hq
  · exact ho
  · refine (x.cell p (.tail _ hq)).keep (Fz.le.refl f) fun b hb => ?_
    obtain ⟨ob, hob⟩ := (x.cell p (.tail _ hq)).lt b hb
    have : b ≠ I := fun e => hX (e ▸ mem_feet.mpr ⟨p, hq, hb⟩)
    rw [hob, k _ _ this hob]
theorem St.dropObj {I : Addr} {o : Obj} {h' : Heap} {tk : Nat} {X : Store} (x : St B f T ((I, .obj o) :: X) s) (k : ∀ b ob, b ≠ I → s.heap.get? b = some ob → h'.get? b = some ob) : St B f T X { s with heap := h', toks := tk } := by
  have hd := x.dis I (by rw [feet_cons]; exact List.mem_append_left _ (foot_self ..))
  have sep := x.sep
  rw [feet_cons] at sep
  have hX : I ∉ feet X := fun hb' => (List.nodup_append.mp sep).2.2 I (foot_self ..) I hb' rfl
  have ne : ∀ b ob, f b = some ob → b ≠ I := fun b ob e => ne_sn e hd.1
  have nT : ∀ b ob, T b = some ob → b ≠ I := fun b ob e => ne_sn e hd.2
  have y := x.sub (S' := X) (List.sublist_cons_self ..)
  refine ⟨y.gens, y.os, y.base, fun b ob e => k _ _ (ne b ob e) (x.fin b ob e), fun b ob e => ⟨k _ _ (nT b ob e) (x.tin b ob e).1, (x.tin b ob e).2⟩, fun p hp => ?_, y.dis, y.sep⟩
  refine (x.cell p (.tail _ hp)).keep (Fz.le.refl f) fun b hb => ?_
  obtain ⟨ob, hob⟩ := (x.cell p (.tail _ hp)).lt b hb
  have : b ≠ I := by rintro rfl; exact hX (mem_feet.mpr ⟨p, hp, hb⟩)
  rw [hob, k _ _ this hob]
end
end Lend
namespace Lend
inductive APst (B : Bs) (f T : Fz) (env : Env) (N : List Str) (Q : Rho → Store → Prop) (u : Unit) (s' : Shared) : Prop
  | mk (f' : Fz) (ρ' : Rho) (S' : Store) (l : Fz.le f f') (X : St B f' T (FrL env N ρ' ++ S') s') (q : Q ρ' S') : APst B f T env N Q u s'
theorem APst.elim {B : Bs} {f T : Fz} {env : Env} {N : List Str} {Q : Rho → Store → Prop} {u : Unit} {s : Shared} {P : Prop} (p : APst B f T env N Q u s) (k : ∀ f' ρ' S', Fz.le f f' → St B f' T (FrL env N ρ' ++ S') s → Q ρ' S' → P) : P := by
  obtain ⟨f', x, S', a, b, d⟩ := p; exact k f' x S' a b d
noncomputable def AOk (B : Bs) (n : Nat) (env : Env) (N : List Str) (ρ : Rho) (S : Store) (t : Value → Sem Unit) (x : CV) (Q : Rho → Store → Prop) : Prop :=
  ∀ A f T s v, Room n A → St B f T (FrL env N ρ ++ S) s → VIs B f v x → wpAny (model B.prog B.w) A (t v) (APst B f T env N Q) noE s
section
variable {B : Bs} {G : Gl} {n m : Nat} {F S : Store} {A : Around} {f g T T' : Fz} {s : Shared} {env : Env} {N : List Str} {ρ : Rho}
theorem SPst.mono {Q Q' : Fl → Rho → Store → Prop} (l : Fz.le f g) (h : ∀ x r S, Q x r S → Q' x r S) {v s} (p : SPst B g T env N Q v s) : SPst B f T env N Q' v s := by
  obtain ⟨f', ρ', S', fl, l', X, hf, q⟩ := p; exact ⟨f', ρ', S', fl, l.trans l', X, hf, h _ _ _ q⟩
theorem a_name (W : EnvW env) {x : Str} {i : Nat} {pos : Pos} {V : CV} {Q : Rho → Store → Prop} (hk : env.kindOf x = some .local ∨ env.kindOf x = some .cell ∨ env.kindOf x = some .free) (hi : idxN N x = some i)
    (h : i < ρ.length ∧ Q (ρ.set i (some V)) S) : AOk B n env N ρ S (assign (.Name x pos) env) V Q := fun _ f _ _ _ _ X hv =>
  wpAny_assign_Name (store_rule W X hk hi h.1 hv fun _ Y => ⟨f, _, S, Fz.le.refl f, Y, h.2⟩)
theorem a_attr (BO : B.Ok) (GO : GlOk B G) {o : Expr} {name : Str} {pos : Pos} {V : CV} {Q : Rho → Store → Prop} (h : EOk B n (FrL env N ρ) S (eval o env) fun x S1 => setAttrW G x name V S1 fun S2 => Q ρ S2) :
    AOk B n env N ρ S (assign (.Attribute o name pos) env) V Q := by
  intro A f T s v R X hv
  have e : assign (.Attribute o name pos) env v = (holding [v] (eval o env) >>= fun ov => standAt pos.atName >>= fun _ => holding [v, ov] (setAttr ov name v) >>= fun _ => release [v, ov] []) := rfl
  rw [e]
  refine EOk.go R X h.hold fun f1 ov x S1 s1 l1 X1 va q1 => ?_
  refine wpAny_bind (wpAny_standAt (wpAny_bind (wpAny_holding (setAttr_rule BO GO q1 X1 va (hv.mono l1) fun S2 s2 Y q2 => ?_))))
  exact wpAny_release ⟨f1, ρ, S2, l1, Y, q2⟩
theorem a_sub {o i : Expr} {pos : Pos} {V : CV} {Q : Rho → Store → Prop} (h : EOk B n (FrL env N ρ) S (eval o env) fun x S1 => EOk B n (FrL env N ρ) S1 (eval i env) fun y S2 => setItemW x y V S2 fun S3 => Q ρ S3) :
    AOk B n env N ρ S (assign (.Subscript o i pos) env) V Q := by
  intro A f T s v R X hv
  rw [assign_Subscript]
  refine EOk.go R X h.hold fun f1 ov x S1 s1 l1 X1 va q1 => ?_
  refine EOk.go R X1 q1.hold fun f2 iv y S2 s2 l2 X2 vb q2 => ?_
  refine wpAny_bind (wpAny_standAt (wpAny_bind (wpAny_holding (setItem_rule q2 X2 (va.mono l2) vb (hv.mono (l1.trans l2)) fun S3 s3 Y q3 => ?_))))
  exact wpAny_release ⟨f2, ρ, S3, l1.trans l2, Y, q3⟩
set_option tactic.hygienic true in
theorem unpackV_iter {x : CV} {k : Nat} {xs : List CV} {v : Value} (h : unpackV S x k = some xs) (X : St B f T (F ++ S) s) (hv : VIs B f v x) : iterX S x = some xs ∧ xs.length = k ∧ ∃ Tn id, s.TypeIs v Tn ∧ Slot Tn "__iter__" id := by
  unfold unpackV at h
  unfold view at h
  unfold iterX
  cases x with
  | loc a =>
    dsimp only at h ⊢
    obtain ⟨_, rfl⟩ := hv.inv
    split at h
    · rename_i ys hy
      split at hy
      · rename_i zs hl
        cases hy
        split at h
        · cases h
          obtain ⟨us, nn, g, _⟩ := X.get hl
          exact ⟨by rw [hl], by assumption, "list", _, ⟨_, g, rfl⟩, slot_list_iter⟩
        · cases h
      · cases hy
      · cases hy
    · rename_i ys hy
      split at hy <;> cases hy
    · cases h
  | flist ys =>
    dsimp only at h ⊢
    split at h
    · cases h
      obtain ⟨_, _, _, rfl, ha, hu⟩ := hv.inv
      exact ⟨rfl, by assumption, "list", _, ⟨_, X.fin _ _ ha, rfl⟩, slot_list_iter⟩
    · cases h
  | tup ys =>
    dsimp only at h ⊢
    split at h
    · cases h
      obtain ⟨_, _, _, _, rfl, ha, hc, hd, hu⟩ := hv.inv
      exact ⟨rfl, by assumption, "tuple", _, ⟨_, X.fin _ _ ha, hc⟩, PySem.F.slot_tuple_iter⟩
    · cases h
  | _ => cases h
theorem draw_rule {I : Addr} {x : CV} {items : List CV} {E : Value → Shared → Prop} (hh : A.handled = none) (hx : iterX S x = some items) : ∀ (k i : Nat) (s : Shared) (o : Obj) (R : List Value → Shared → Prop), St B f T ((I, .obj o) :: (F ++ S)) s → ItAt B f s.heap I x i → items.length = i + k →
    (∀ vs s' o', VsIs B f vs (items.drop i) → ItAt B f s'.heap I x items.length → St B f T ((I, .obj o') :: (F ++ S)) s' → R vs s') → wpAny (model B.prog B.w) A (draw (.ref I) k) R E s
  | 0, i, s, o, R, X, t, hk, hR => by
    show wpAny _ _ (pure []) R E s
    have : items.drop i = [] := List.drop_eq_nil_of_le (by omega)
    exact wpAny_pure (hR [] s o (by rw [this]; exact .nil) (by rw [show items.length = i by omega]; exact t) X)
  | k + 1, i, s, o, R, X, t, hk, hR => by
    show wpAny _ _ (pyNext (.ref I) >>= _) R E s
    have dis := X.dis I (by rw [feet_cons]; exact List.mem_append_left _ (foot_self ..))
    have sep := X.sep
    rw [feet_cons] at sep
    have hX : I ∉ feet (F ++ S) := fun hb' => (List.nodup_append.mp sep).2.2 I (foot_self ..) I hb' rfl
    have hi : i < items.length := by omega
    refine wpAny_bind (next_rule hh hx (X.sub (List.sublist_cons_self ..)) (fun o e => by rw [dis.1] at e; cases e) hX t (List.getElem?_eq_getElem hi) fun v h' tk hv t' kb => ?_)
    obtain ⟨o', ho'⟩ := t'.get
    have Y := X.setObj (tk := tk) kb ho'
    refine wpAny_bind (wpAny_holding (draw_rule hh hx k (i + 1) _ o' _ Y t' (by omega) fun vs s' o2 hvs t2 Y2 => wpAny_pure ?_))
    refine hR _ s' o2 ?_ t2 Y2
    rw [List.drop_eq_getElem_cons hi]
    exact .cons hv hvs
theorem unpackItems_rule {v : Value} {x : CV} {k : Nat} {xs : List CV} {R : List Value → Shared → Prop} (hh : A.handled = none) (h : unpackV S x k = some xs) (X : St B f T (F ++ S) s) (hv : VIs B f v x)
    (hR : ∀ vs s', VsIs B f vs xs → St B f T (F ++ S) s' → R vs s') : wpAny (model B.prog B.w) A (unpackItems v k none) R noE s := by
  obtain ⟨hx, hk, Tn, id, hT, hs⟩ := unpackV_iter h X hv
  unfold unpackItems
  refine wpAny_bind ?_
  unfold notIterableAtAll
  refine wpAny_bind (wpAny_specialOf hT hs.lookup ?_)
  refine wpAny_pure ?_
  simp only [Bool.false_eq_true, if_false]
  refine wpAny_bind (wpAny_holding (iter_rule hx X hv fun o ho t => ?_))
  have fr := X.fresh
  have Y := X.pushC (o := o) (c := .obj o) (t := s.toks) ho rfl (Heap.get?_push_size _ ho)
  refine wpAny_bind (wpAny_holding (draw_rule hh hx k 0 _ o _ Y t (by omega) fun vs s' o' hvs t2 Y2 => ?_))
  rw [List.drop_zero] at hvs
  have L := hvs.length
  rw [if_neg (by omega)]
  have dis := Y2.dis s.heap.objs.size (by rw [feet_cons]; exact List.mem_append_left _ (foot_self ..))
  have sep := Y2.sep
  rw [feet_cons] at sep
  have hX : s.heap.objs.size ∉ feet (F ++ S) := fun hb' => (List.nodup_append.mp sep).2.2 _ (foot_self ..) _ hb' rfl
  refine wpAny_bind (wpAny_holding (end_rule hh hx (Y2.sub (List.sublist_cons_self ..)) (fun o e => by rw [dis.1] at e; cases e) hX t2 rfl fun h' tk kb => ?_))
  simp only [Option.isSome_none, Bool.false_eq_true, if_false]
  exact wpAny_pure (hR vs _ hvs (Y2.dropObj kb))
noncomputable def SetsAt (B : Bs) (env : Env) (N : List Str) (t : Value → Sem Unit) (i : Nat) : Prop := ∀ (A : Around) (f T : Fz) (s : Shared) (v : Value) (V : CV) (ρ : Rho) (S : Store) (P : Unit → Shared → Prop),
  i < ρ.length → St B f T (FrL env N ρ ++ S) s → VIs B f v V → (∀ s', St B f T (FrL env N (ρ.set i (some V)) ++ S) s' → P () s') → wpAny (model B.prog B.w) A (t v) P noE s
inductive AllSets (B : Bs) (env : Env) (N : List Str) : List (Value → Sem Unit) → List Nat → Prop
  | nil : AllSets B env N [] []
  | cons {t i ts is} : SetsAt B env N t i → AllSets B env N ts is → AllSets B env N (t :: ts) (i :: is)
theorem AllSets.length {ts is} (h : AllSets B env N ts is) : ts.length = is.length := by
  induction h with
  | nil => rfl
  | cons _ _ ih => simp [ih]
theorem AllSets.append {ts is us js} (h : AllSets B env N ts is) (k : AllSets B env N us js) : AllSets B env N (ts ++ us) (is ++ js) := by
  induction h with
  | nil => exact k
  | cons a _ ih => exact .cons a ih
theorem AllSets.reverse {ts is} (h : AllSets B env N ts is) : AllSets B env N ts.reverse is.reverse := by
  induction h with
  | nil => exact .nil
  | cons a _ ih => rw [List.reverse_cons, List.reverse_cons]; exact ih.append (.cons a .nil)
theorem VsIs.reverse {vs : List Value} {xs : List CV} (h : VsIs B f vs xs) : VsIs B f vs.reverse xs.reverse := by
  induction xs generalizing vs with
  | nil => obtain rfl := h.inv; exact .nil
  | cons x xs ih => obtain ⟨_, _, rfl, a, b⟩ := h.inv; rw [List.reverse_cons, List.reverse_cons]; exact (ih b).append (.cons a .nil)
theorem inOrder_rule {ts : List (Value → Sem Unit)} {is : List Nat} (h : AllSets B env N ts is) : ∀ (ρ : Rho) (vs : List Value) (ys : List CV) (s : Shared) (R : Unit → Shared → Prop), VsIs B f vs ys → vs.length = ts.length → (∀ i ∈ is, i < ρ.length) → St B f T (FrL env N ρ ++ S) s →
    (∀ s', St B f T (FrL env N (setAll ρ is ys) ++ S) s' → R () s') → wpAny (model B.prog B.w) A (assignInOrder ts vs) R noE s := by
  induction h with
  | nil =>
    intro ρ vs ys s R hv hl _ X hR
    rcases vs with _ | ⟨_, _⟩
    · cases hv; exact wpAny_pure (hR s X)
    · simp at hl
  | @cons t i ts is ht _ ih =>
    intro ρ vs ys s R hv hl hi X hR
    match vs, ys, hv with
    | [], [], .nil => simp at hl
    | v :: vs, y :: ys, .cons a b =>
      show wpAny _ _ (holding vs (t v) >>= fun _ => assignInOrder ts vs) R noE s
      refine wpAny_bind (wpAny_holding (ht A f T s v y ρ S _ (hi i (.head _)) X a fun s' Y => ?_))
      exact ih (ρ.set i (some y)) vs ys s' R b (by simpa using hl) (fun j hj => by rw [List.length_set]; exact hi j (.tail _ hj)) Y hR
theorem sets_name (W : EnvW env) {x : Str} {i : Nat} {pos : Pos} (hk : env.kindOf x = some .local ∨ env.kindOf x = some .cell ∨ env.kindOf x = some .free) (hi : idxN N x = some i) : SetsAt B env N (assign (.Name x pos) env) i :=
  fun _ _ _ _ _ _ _ _ _ hl X hv hP => wpAny_assign_Name (store_rule W X hk hi hl hv fun s' Y => hP s' Y)
theorem sets_bind (W : EnvW env) {x : Str} {i : Nat} (hk : env.kindOf x = some .local ∨ env.kindOf x = some .cell ∨ env.kindOf x = some .free) (hi : idxN N x = some i) : SetsAt B env N (bindName env x) i :=
  fun _ _ _ _ _ _ _ _ _ hl X hv hP => by
    unfold bindName
    exact wpAny_bind (wpAny_holding (wpAny_point (wpAny_bind (store_rule W X hk hi hl hv fun s' Y => wpAny_point (hP s' Y)))))
set_option tactic.hygienic true in
theorem a_tup {elts : List Expr} {k : Nat} {pos : Pos} {V : CV} {is : List Nat} {Q : Rho → Store → Prop} (hs : AllSets B env N ((assignEach elts env).map (·.2)) is) (hst : (assignEach elts env).findIdx? (·.1) = none)
    (h : match unpackV S V is.length with | some xs => (∀ i ∈ is, i < ρ.length) ∧ Q (setAll ρ is xs) S | none => False) : AOk B n env N ρ S (assign (.Tuple elts k pos) env) V Q := by
  intro A f T s v R X hv
  rw [arm_assign_Tuple]
  refine wpAny_bind (wpAny_standAt ?_)
  unfold unpack
  have L := hs.length
  rw [List.length_map] at L
  rw [hst, L]
  split at h
  · rename_i xs hxs
    refine wpAny_bind (wpAny_holding (unpackItems_rule R.h hxs X hv fun vs s' hvs Y => ?_))
    have L1 := hvs.length
    have L2 := (unpackV_iter hxs X hv).2.1
    exact inOrder_rule hs ρ vs xs s' _ hvs (by rw [L1, L2, List.length_map, L]) h.1 Y fun s2 Z => ⟨f, _, S, Fz.le.refl f, Z, h.2⟩
  · exact h.elim
end
end Lend
namespace Lend
section
variable {B : Bs} {G : Gl} {n m : Nat} {F S : Store} {A : Around} {f g T T' : Fz} {s : Shared} {env : Env} {N : List Str} {ρ : Rho} {Q : Fl → Rho → Store → Prop}
theorem SOk.at {t : Sem Flow} (h : SOk B n env N ρ S t Q) (R : Room n A) (l : Fz.le f g) (X : St B g T (FrL env N ρ ++ S) s) : wpAny (model B.prog B.w) A t (SPst B f T env N Q) noE s :=
  wpAny_mono (h A g T s R X) (fun _ _ p => p.mono l fun _ _ _ q => q) fun _ _ e => e
theorem SOk.mono {t : Sem Flow} {Q' : Fl → Rho → Store → Prop} (h : SOk B n env N ρ S t Q) (k : ∀ x r S, Q x r S → Q' x r S) : SOk B n env N ρ S t Q' := fun A f T s R X =>
  wpAny_mono (h A f T s R X) (fun _ _ p => p.mono (Fz.le.refl f) k) fun _ _ e => e
theorem s_nil (h : Q .next ρ S) : SOk B n env N ρ S (execs [] env) Q := fun _ f _ _ _ X => wpAny_execs_nil ⟨f, ρ, S, .next, Fz.le.refl f, X, trivial, h⟩
theorem s_cons {st : Stmt} {rest : List Stmt} (h : SOk B n env N ρ S (exec st env) fun fl ρ' S' => match fl with | .next => SOk B n env N ρ' S' (execs rest env) Q | .ret v => Q (.ret v) ρ' S') : SOk B n env N ρ S (execs (st :: rest) env) Q := by
  intro A f T s R X
  refine wpAny_execs_cons (wpAny_mono (h A f T s R X) (fun fl s1 pp => pp.elim fun f1 ρ1 S1 fl1 l1 X1 hfl q1 => ?_) fun _ _ e => e)
  cases fl <;> cases fl1 <;> first | exact hfl.elim | skip
  · exact SOk.at q1 R l1 X1
  · exact ⟨f1, ρ1, S1, _, l1, X1, hfl, q1⟩
theorem s_ret {e : Expr} {pos : Pos} (h : EOk B n (FrL env N ρ) S (eval e env) fun x S1 => Q (.ret x) ρ S1) : SOk B n env N ρ S (exec (.Return (some e) pos) env) Q := fun A f T s R X =>
  wpAny_Return_some (wpAny_mono (h A f T s R X) (fun v s1 pp => pp.elim fun f1 x S1 l1 X1 va q1 => ⟨f1, ρ, S1, .ret x, l1, X1, va, q1⟩) fun _ _ e => e)
theorem s_ret0 {pos : Pos} (h : Q (.ret .none) ρ S) : SOk B n env N ρ S (exec (.Return none pos) env) Q := fun _ f _ _ _ X =>
  wpAny_Return_none ⟨f, ρ, S, .ret .none, Fz.le.refl f, X, .none, h⟩
theorem s_if {c : Expr} {a b : List Stmt} {pos : Pos} (h : TOk B n (FrL env N ρ) S (isTrue c env (eval c env)) fun t S1 => if t = true then SOk B n env N ρ S1 (execs a env) Q else SOk B n env N ρ S1 (execs b env) Q) :
    SOk B n env N ρ S (exec (.If c a b pos) env) Q := by
  intro A f T s R X
  refine wpAny_If (wpAny_mono (h A f T s R X) (fun t s1 pp => pp.elim fun f1 S1 l1 X1 q1 => ?_) fun _ _ e => e)
  cases t
  · exact SOk.at q1 R l1 X1
  · exact SOk.at q1 R l1 X1
noncomputable def notComp : Expr → Bool
  | .ListComp .. => false
  | .SetComp .. => false
  | .DictComp .. => false
  | _ => true
theorem no_swap {e : Expr} {t : Option Expr} {l : Nat} (h : notComp e = true) : swapsWith e t l env = pure false := by
  cases e <;> first | rfl | cases h
theorem not_interactive (W : EnvW env) : interactive env = false := by
  unfold interactive
  rw [W.kind]; rfl
theorem s_expr (W : EnvW env) {e : Expr} {pos : Pos} (hc : notComp e = true) (h : EOk B n (FrL env N ρ) S (eval e env) fun _ S1 => Q .next ρ S1) : SOk B n env N ρ S (exec (.Expr e pos) env) Q := fun A f T s R X =>
  wpAny_Expr_any (wpAny_mono (h A f T s R X) (fun v s1 pp => pp.elim fun f1 x S1 l1 X1 va q1 => ⟨f1, ρ, S1, .next, l1, X1, trivial, q1⟩) fun _ _ e => e) (not_interactive W) (no_swap hc)
theorem assign1 {t value : Expr} {pos : Pos} (hns : noStar t = true) (hs : swapsWith value (some t) pos.line env = pure false) : exec (.Assign [t] value pos) env = (standAt pos >>= fun _ => eval value env >>= fun v => swappedStores [t] value env >>= fun sw => assignStores env v sw [assign t env]) := by
  have hae : (assignEach [t] env).map (·.2) = [assign t env] := by
    cases t <;> first | rfl | cases hns
  have e : exec (.Assign [t] value pos) env = (standAt pos >>= fun _ => swapsWith value (some t) pos.line env >>= fun b =>
      if b = true then evalThenUse value env (fun v => assignAll v ((assignEach [t] env).map (·.2))) >>= fun _ => pure .next
      else eval value env >>= fun v => swappedStores [t] value env >>= fun sw => assignStores env v sw ((assignEach [t] env).map (·.2))) := rfl
  rw [e, hs]
  rw [hae]; rfl
theorem s_asg {t value : Expr} {pos : Pos} (hns : noStar t = true) (hs : swapsWith value (some t) pos.line env = pure false) (hsw : swappedStores [t] value env = pure none)
    (h : EOk B n (FrL env N ρ) S (eval value env) fun x S1 => AOk B n env N ρ S1 (assign t env) x fun ρ' S2 => Q .next ρ' S2) : SOk B n env N ρ S (exec (.Assign [t] value pos) env) Q := by
  intro A f T s R X
  rw [assign1 hns hs, hsw]
  refine wpAny_bind (wpAny_standAt (EOk.go R X h fun f1 v x S1 s1 l1 X1 va q1 => ?_))
  refine wpAny_bind (wpAny_pure ?_)
  show wpAny _ _ (assign t env v >>= fun _ => (pure Flow.next : Sem Flow)) _ _ _
  exact wpAny_bind (wpAny_mono (q1 A f1 T s1 v R X1 va) (fun _ s2 pp => pp.elim fun f2 ρ2 S2 l2 X2 q2 => wpAny_pure ⟨f2, ρ2, S2, .next, l1.trans l2, X2, trivial, q2⟩) fun _ _ e => e)
set_option tactic.hygienic true in
theorem s_swap (W : EnvW env) {t value : Expr} {pos : Pos} {names : List Str} {is : List Nat} (hns : noStar t = true) (hs : swapsWith value (some t) pos.line env = pure false) (hsw : swappedStores [t] value env = pure (some names))
    (hn : AllSets B env N (names.map fun x => bindName env x) is)
    (h : EOk B n (FrL env N ρ) S (eval value env) fun x S1 => match unpackV S1 x is.length with | some xs => (∀ i ∈ is, i < ρ.length) ∧ Q .next (setAll ρ is.reverse xs.reverse) S1 | none => False) : SOk B n env N ρ S (exec (.Assign [t] value pos) env) Q := by
  intro A f T s R X
  rw [assign1 hns hs, hsw]
  refine wpAny_bind (wpAny_standAt (EOk.go R X h fun f1 v x S1 s1 l1 X1 va q1 => ?_))
  refine wpAny_bind (wpAny_pure ?_)
  unfold assignStores
  have L := hn.length
  rw [List.length_map] at L
  try dsimp only at q1 ⊢
  split at q1
  · rename_i xs hxs
    refine wpAny_bind (wpAny_rule ?_)
    rw [L]
    refine wpAny_bind (unpackItems_rule R.h hxs X1 va fun vs s' hvs Y => ?_)
    have L1 := hvs.length
    have L2 := (unpackV_iter hxs X1 va).2.1
    rw [show (names.reverse.map fun n => bindName env n) = (names.map fun x => bindName env x).reverse from by rw [List.map_reverse]]
    refine wpAny_bind (inOrder_rule hn.reverse ρ vs.reverse xs.reverse s' _ hvs.reverse (by simp [L1, L2, L]) (fun i hi => q1.1 i (List.mem_reverse.mp hi)) Y fun s2 Z => wpAny_pure ⟨f1, _, S1, .next, l1, Z, trivial, q1.2⟩)
  · exact q1.elim
inductive WInv (B : Bs) (f T : Fz) (env : Env) (N : List Str) (W : Rho → Store → Prop) (s : Shared) : Prop
  | mk (f1 : Fz) (ρ1 : Rho) (S1 : Store) (l : Fz.le f f1) (X : St B f1 T (FrL env N ρ1 ++ S1) s) (w : W ρ1 S1) : WInv B f T env N W s
theorem s_while {c : Expr} {b : List Stmt} {pos : Pos} {test : Rho → Store → (Bool → Store → Prop) → Prop} {body : Rho → Store → (Fl → Rho → Store → Prop) → Prop}
    (ht : ∀ ρ S Q, test ρ S Q → TOk B n (FrL env N ρ) S (isTrue c env (eval c env)) Q) (hb : ∀ ρ S Q, body ρ S Q → SOk B n env N ρ S (execs b env) Q)
    (h : ∃ k, whileW test body Q k ρ S) : SOk B n env N ρ S (exec (.While c b [] pos) env) Q := by
  intro A f T s R X
  obtain ⟨k, h⟩ := h
  refine wpAny_While (codeAny_whileLoop (fun k s => WInv B f T env N (whileW test body Q k) s) (fun k s pp => ?_) k ⟨f, ρ, S, Fz.le.refl f, X, h⟩)
  obtain ⟨f1, ρ1, S1, l1, X1, w⟩ := pp
  cases k with
  | zero => exact w.elim
  | succ k =>
    unfold whileW at w
    refine wpAny_mono (ht ρ1 S1 _ w A f1 T s R X1) (fun t s2 pp => pp.elim fun f2 S2 l2 X2 q2 => ?_) fun _ _ e => e.elim
    rcases t with _ | _
    · exact wpAny_execs_nil ⟨f2, ρ1, S2, .next, l1.trans l2, X2, trivial, q2⟩
    · refine wpAny_mono (hb ρ1 S2 _ q2 A f2 T s2 R X2) (fun fl s3 pp => pp.elim fun f3 ρ3 S3 fl3 l3 X3 hfl q3 => ?_) fun _ _ e => e.elim
      cases fl <;> cases fl3 <;> first | exact hfl.elim | skip
      · exact ⟨k, Nat.lt_succ_self _, f3, ρ3, S3, (l1.trans l2).trans l3, X3, q3⟩
      · exact ⟨f3, ρ3, S3, _, (l1.trans l2).trans l3, X3, hfl, q3⟩
theorem stays_iter {S S' : Store} {x : CV} (h : stays S x S') : iterX S' x = iterX S x := by
  unfold stays at h
  unfold iterX
  cases x <;> first | rfl | (dsimp only at h ⊢; rw [h])
theorem obj_free {I : Addr} {o : Obj} {X : Store} (x : St B f T ((I, .obj o) :: X) s) : (∀ o, f I = some o → False) ∧ T I = none ∧ I ∉ feet X := by
  have dis := x.dis I (by rw [feet_cons]; exact List.mem_append_left _ (foot_self ..))
  have sep := x.sep
  rw [feet_cons] at sep
  exact ⟨fun o e => (by rw [dis.1] at e; cases e), dis.2, fun hb' => (List.nodup_append.mp sep).2.2 I (foot_self ..) I hb' rfl⟩
inductive FInv (B : Bs) (f T : Fz) (I : Addr) (env : Env) (N : List Str) (x : CV) (items : List CV) (W : List CV → Rho → Store → Prop) (k : Nat) (s : Shared) : Prop
  | mk (i : Nat) (f2 : Fz) (ρ2 : Rho) (S2 : Store) (o : Obj) (hk : k = items.length - i) (hi : i ≤ items.length) (l : Fz.le f f2) (X : St B f2 T ((I, .obj o) :: (FrL env N ρ2 ++ S2)) s) (it : ItAt B f2 s.heap I x i) (hx : iterX S2 x = some items) (w : W (items.drop i) ρ2 S2) :
    FInv B f T I env N x items W k s
set_option tactic.hygienic true in
theorem s_for {t iter : Expr} {b : List Stmt} {pos : Pos} {asg : CV → Rho → Store → (Rho → Store → Prop) → Prop} {body : Rho → Store → (Fl → Rho → Store → Prop) → Prop}
    (hfs : ∀ x, foldedSetIterable iter env x = pure x)
    (ha : ∀ y ρ S Q, asg y ρ S Q → AOk B n env N ρ S (assign t env) y Q) (hb : ∀ ρ S Q, body ρ S Q → SOk B n env N ρ S (execs b env) Q)
    (h : EOk B n (FrL env N ρ) S (eval iter env) fun x S1 => match iterX S1 x with
      | some items => forW (stays S1 x) (fun y ρ S Q => asg y ρ S fun ρ' S' => body ρ' S' Q) items ρ S1 Q
      | none => False) : SOk B n env N ρ S (exec (.For t iter b [] pos) env) Q := by
  intro A f T s R X
  refine wpAny_For (wpAny_mono (h A f T s R X) (fun v s1 pp => pp.elim fun f1 x S1 l1 X1 va q1 => ?_) fun _ _ e => e) hfs
  try dsimp only at q1
  split at q1
  · rename_i items hx
    refine iter_rule hx X1 va fun o ho it => ?_
    have Y := X1.pushC (o := o) (c := .obj o) (t := s1.toks) ho rfl (Heap.get?_push_size _ ho)
    refine codeAny_forLoop_any (FInv B f T s1.heap.objs.size env N x items fun ys ρ2 S2 => forW (stays S1 x) (fun y ρ S Q => asg y ρ S fun ρ' S' => body ρ' S' Q) ys ρ2 S2 Q) (fun k s pp => ?_) _ ⟨0, f1, ρ, S1, o, rfl, Nat.zero_le _, l1, Y, it, hx, by rw [List.drop_zero]; exact q1⟩
    obtain ⟨i, f2, ρ2, S2, o, hk, hi, l2, X2, it, hx2, w⟩ := pp
    obtain ⟨d1, d2, d3⟩ := obj_free X2
    by_cases hi' : i = items.length
    · subst hi'
      refine end_rule R.h hx2 (X2.sub (List.sublist_cons_self ..)) d1 d3 it rfl fun h' tk kb => ?_
      rw [List.drop_length] at w
      exact wpAny_execs_nil ⟨f2, ρ2, S2, .next, l2, X2.dropObj kb, trivial, w⟩
    · have hlt : i < items.length := by omega
      refine next_rule R.h hx2 (X2.sub (List.sublist_cons_self ..)) d1 d3 it (List.getElem?_eq_getElem hlt) fun v' h' tk hv' it' kb => ?_
      obtain ⟨o', ho'⟩ := it'.get
      have X3 := X2.setObj (tk := tk) kb ho'
      refine letGo_any it' ?_
      rw [List.drop_eq_getElem_cons hlt] at w
      unfold forW at w
      have P3 := X3.park ho'
      refine wpAny_mono (ha _ _ _ _ w A f2 _ _ v' R P3 hv') (fun _ s4 pp => pp.elim fun f4 ρ4 S4 l4 X4 q4 => ?_) fun _ _ e => e.elim
      refine wpAny_mono (hb _ _ _ q4 A f4 _ s4 R X4) (fun fl s5 pp => pp.elim fun f5 ρ5 S5 fl5 l5 X5 hfl q5 => ?_) fun _ _ e => e.elim
      have U : St B f5 T ((s1.heap.objs.size, .obj o') :: (FrL env N ρ5 ++ S5)) s5 := St.unpark (s := { s with heap := h', toks := tk }) d2 (c := .obj o') (f := f2) ho' ho' rfl (l4.trans l5) X5
      cases fl <;> cases fl5 <;> first | exact hfl.elim | skip
      · obtain ⟨q6, q7⟩ := q5
        refine ⟨items.length - (i + 1), by omega, i + 1, f5, ρ5, S5, o', rfl, by omega, l2.trans (l4.trans l5), U, it'.at (l4.trans l5) fun ob e => ?_, by rw [stays_iter q6, hx], q7⟩
        have hc := U.cell _ (.head _)
        have : o' = ob := by
          have e2 : h'.get? s1.heap.objs.size = some ob := e
          rw [ho'] at e2; cases e2; rfl
        rw [← this]; exact hc
      · exact ⟨f5, ρ5, S5, _, l2.trans (l4.trans l5), U.sub (List.sublist_cons_self ..), hfl, q5⟩
  · exact q1.elim
end
end Lend
namespace Lend
set_option genSizeOf false
set_option genInjectivity false
noncomputable def turnS (p : Pos) (t : Expr) (ifs : List Expr) (inner : Sem Unit) (it : Value) (env : Env) (c : Code) : Sem Fin := do
  standAt p
  match ← pyNext it with
  | none => pure (.done .next)
  | some v =>
    letOwnedTupleGo t it v
    assign t env v
    let mut ok := true
    for c in ifs do
      if ok then ok ← isTrue c env (eval c env)
    if ok then
      inner
    again c
noncomputable def innerS (e : Expr) (d : Nat) (acc : Value) (g : Comprehension) (env : Env) : Sem Unit := do
  let x ← eval g.iter env
  standAt g.iter.pos
  let x ← foldedSetIterable g.iter env x
  let _ ← runOwn (.compStart e d (← holding [x] (pyIter x)) acc env) env
noncomputable def emitL (elt : Expr) (acc : Value) (env : Env) : Sem Unit := do let _ ← call (.builtin "list.append") [acc, ← eval elt env]
noncomputable def emitD (k v : Expr) (D : Addr) (env : Env) : Sem Unit := do
  let kv ← eval k env
  let vv ← holding [kv] (eval v env)
  standAt { k.pos with endLine := v.pos.endLine, endCol := v.pos.endCol }
  holding [kv, vv] (dictSet D kv vv)
theorem turn_L1 (elt t iter : Expr) (ifs : List Expr) (scope : Scope) (pos : Pos) (it acc : Value) (env : Env) : compTurn (.ListComp elt [⟨t, iter, ifs, 0⟩] scope pos) 0 it acc env =
    turnS iter.pos t ifs (emitL elt acc env) it env (.compLoop (.ListComp elt [⟨t, iter, ifs, 0⟩] scope pos) 0 it acc env) := by rfl
theorem turn_L2 (elt t iter t2 iter2 : Expr) (ifs ifs2 : List Expr) (scope : Scope) (pos : Pos) (it acc : Value) (env : Env) : compTurn (.ListComp elt [⟨t, iter, ifs, 0⟩, ⟨t2, iter2, ifs2, 0⟩] scope pos) 0 it acc env =
    turnS iter.pos t ifs (innerS (.ListComp elt [⟨t, iter, ifs, 0⟩, ⟨t2, iter2, ifs2, 0⟩] scope pos) 1 acc ⟨t2, iter2, ifs2, 0⟩ env) it env (.compLoop (.ListComp elt [⟨t, iter, ifs, 0⟩, ⟨t2, iter2, ifs2, 0⟩] scope pos) 0 it acc env) := by
  unfold turnS innerS
  simp only [bind_assoc]
  rfl
theorem turn_L3 (elt t iter t2 iter2 : Expr) (ifs ifs2 : List Expr) (scope : Scope) (pos : Pos) (it acc : Value) (env : Env) : compTurn (.ListComp elt [⟨t, iter, ifs, 0⟩, ⟨t2, iter2, ifs2, 0⟩] scope pos) 1 it acc env =
    turnS iter2.pos t2 ifs2 (emitL elt acc env) it env (.compLoop (.ListComp elt [⟨t, iter, ifs, 0⟩, ⟨t2, iter2, ifs2, 0⟩] scope pos) 1 it acc env) := by rfl
theorem turn_D1 (k v t iter : Expr) (ifs : List Expr) (scope : Scope) (pos : Pos) (it : Value) (D : Addr) (env : Env) : compTurn (.DictComp k v [⟨t, iter, ifs, 0⟩] scope pos) 0 it (.ref D) env =
    turnS iter.pos t ifs (emitD k v D env) it env (.compLoop (.DictComp k v [⟨t, iter, ifs, 0⟩] scope pos) 0 it (.ref D) env) := by rfl
section
variable {B : Bs} {G : Gl} {n m : Nat} {F S : Store} {A : Around} {f g T T' : Fz} {s : Shared} {env : Env} {N : List Str} {ρ : Rho}
theorem iter_self {I : Addr} {x : CV} {i : Nat} {R : Value → Shared → Prop} {E : Value → Shared → Prop} (t : ItAt B f s.heap I x i) (h : R (.ref I) s) : wpAny (model B.prog B.w) A (pyIter (.ref I)) R E s := by
  cases t with
  | own h1 => exact wpAny_pyIter_listiter h1 h
  | lst h1 => exact wpAny_pyIter_listiter h1 h
  | tup h1 => exact wpAny_pyIter_tupleiter h1 h
  | dic h1 => exact wpAny_pyIter_keyiter h1 h
  | rng h1 => exact wpAny_pyIter_rangeiter h1 h
structure Acc (B : Bs) (α : Type) where
  co : α → CO
  plain : ∀ D a, foot D (co a) = [D]
inductive CPst2 {α : Type} (B : Bs) (f T : Fz) (C : Acc B α) (D : Addr) (env : Env) (N : List Str) (Q : Rho → Store → α → Prop) (s' : Shared) : Prop
  | mk (f' : Fz) (ρ' : Rho) (S' : Store) (a' : α) (l : Fz.le f f') (X : St B f' T ((D, C.co a') :: (FrL env N ρ' ++ S')) s') (q : Q ρ' S' a') : CPst2 B f T C D env N Q s'
theorem CPst2.elim {α : Type} {B : Bs} {f T : Fz} {C : Acc B α} {D : Addr} {env : Env} {N : List Str} {Q : Rho → Store → α → Prop} {s : Shared} {P : Prop} (p : CPst2 B f T C D env N Q s) (k : ∀ f' ρ' S' a', Fz.le f f' → St B f' T ((D, C.co a') :: (FrL env N ρ' ++ S')) s → Q ρ' S' a' → P) : P := by
  obtain ⟨f', x, S', y, a, b, d⟩ := p; exact k f' x S' y a b d
noncomputable def IOk {α : Type} (B : Bs) (n : Nat) (C : Acc B α) (D : Addr) (env : Env) (N : List Str) (ρ : Rho) (S : Store) (a : α) (t : Sem Unit) (Q : Rho → Store → α → Prop) : Prop :=
  ∀ A f T s, Room n A → St B f T ((D, C.co a) :: (FrL env N ρ ++ S)) s → wpAny (model B.prog B.w) A t (fun _ => CPst2 B f T C D env N Q) noE s
noncomputable def GoodC {α : Type} (B : Bs) (f T : Fz) (C : Acc B α) (D : Addr) (env : Env) (N : List Str) (Q : Rho → Store → α → Prop) : Result → Shared → Prop := fun r s' => r = .ok .next ∧ CPst2 B f T C D env N Q s'
noncomputable def turnW {α : Type} (asg : CV → Rho → Store → (Rho → Store → Prop) → Prop) (tests : Rho → Store → (Bool → Store → Prop) → Prop) (leaf : Rho → Store → α → (Rho → Store → α → Prop) → Prop) : CV → Rho → Store → α → (Rho → Store → α → Prop) → Prop :=
  fun y ρ S a Q => asg y ρ S fun ρ' S' => tests ρ' S' fun b S'' => if b = true then leaf ρ' S'' a Q else Q ρ' S'' a
inductive LInv {α : Type} (B : Bs) (f T : Fz) (C : Acc B α) (D I : Addr) (env : Env) (N : List Str) (x : CV) (items : List CV) (W : List CV → Rho → Store → α → (Rho → Store → α → Prop) → Prop) (Q : Rho → Store → α → Prop) (k : Nat) (s : Shared) : Prop
  | mk (i : Nat) (f2 : Fz) (ρ2 : Rho) (S2 : Store) (a2 : α) (o : Obj) (hk : k = items.length - i) (hi : i ≤ items.length) (l : Fz.le f f2) (X : St B f2 T ((I, .obj o) :: (D, C.co a2) :: (FrL env N ρ2 ++ S2)) s) (it : ItAt B f2 s.heap I x i) (hx : iterX S2 x = some items) (w : W (items.drop i) ρ2 S2 a2 Q) :
    LInv B f T C D I env N x items W Q k s
noncomputable def LFin {α : Type} (B : Bs) (f T : Fz) (C : Acc B α) (D I : Addr) (env : Env) (N : List Str) (x : CV) (items : List CV) (W : List CV → Rho → Store → α → (Rho → Store → α → Prop) → Prop) (Q : Rho → Store → α → Prop) (k : Nat) (c : Code) : Fin → Shared → Prop := fun fin s' =>
  match fin with
  | .done fl => GoodC B f T C D env N Q (.ok fl) s'
  | .again c' => c' = c ∧ ∃ m, m < k ∧ LInv B f T C D I env N x items W Q m s'
theorem comp_quiet {c : Code} {e : Expr} {d : Nat} {i D : Value} {env : Env} (hc : c = .compLoop e d i D env) (he : ∃ elt gens scope pos, e = .ListComp elt gens scope pos ∨ ∃ k, e = .DictComp k elt gens scope pos) : c.quiet = true := by
  obtain ⟨elt, gens, scope, pos, h | ⟨k, h⟩⟩ := he <;> subst hc h <;> rfl
theorem comp_den {B : Bs} {A : Around} {c : Code} {e : Expr} {d : Nat} {i D : Value} {env : Env} {s : Shared} {P : Fin → Shared → Prop} {E : Value → Shared → Prop} (hc : c = .compLoop e d i D env) (he : ∃ elt gens scope pos, e = .ListComp elt gens scope pos ∨ ∃ k, e = .DictComp k elt gens scope pos)
    (h : wpAny (model B.prog B.w) A ((compTurn e d i D env).onRaise (fun x => do noteFrame x env; theTreesLotGoes x)) P E s) : wpAny (model B.prog B.w) (A.under c) ((model B.prog B.w).den c) P E s := by
  obtain ⟨elt, gens, scope, pos, h | ⟨k, h⟩⟩ := he <;> subst hc h <;> exact ‹wpAny _ _ _ _ _ _›
theorem loop_rule {α : Type} {C : Acc B α} {D : Addr} {p : Pos} {t : Expr} {ifs : List Expr} {inner : Sem Unit} {I : Addr} {c : Code} {e : Expr} {d : Nat} (hc : c = .compLoop e d (.ref I) (.ref D) env) (he : ∃ elt gens scope pos, e = .ListComp elt gens scope pos ∨ ∃ k, e = .DictComp k elt gens scope pos)
    (hturn : compTurn e d (.ref I) (.ref D) env = turnS p t ifs inner (.ref I) env c)
    {asg : CV → Rho → Store → (Rho → Store → Prop) → Prop} {tests : Rho → Store → (Bool → Store → Prop) → Prop} {leaf : Rho → Store → α → (Rho → Store → α → Prop) → Prop} {x : CV} {items : List CV} {gd : Store → Prop}
    (hgd : ∀ S, gd S → iterX S x = some items)
    (ha : ∀ y ρ S Q, asg y ρ S Q → AOk B n env N ρ S (assign t env) y Q)
    (ht : ∀ ρ S Q, tests ρ S Q → TOk B n (FrL env N ρ) S (forIn ifs true fun c r => if r = true then do let ok ← isTrue c env (eval c env); pure (ForInStep.yield ok) else pure (ForInStep.yield r)) Q)
    (hi : ∀ ρ S a Q, leaf ρ S a Q → IOk B n C D env N ρ S a inner Q) {Q : Rho → Store → α → Prop}
    (R : Room n A) :
    ∀ i ρ S a f T s o, i ≤ items.length → iterX S x = some items → St B f T ((I, .obj o) :: (D, C.co a) :: (FrL env N ρ ++ S)) s → ItAt B f s.heap I x i →
      compW gd (turnW asg tests leaf) (items.drop i) ρ S a Q →
      codeAny (model B.prog B.w) A c (GoodC B f T C D env N Q) s := by
  intro i ρ S a f T s o hile hx X it w
  refine codeAny_loop (comp_quiet hc he) (LInv B f T C D I env N x items (compW gd (turnW asg tests leaf)) Q) (fun k s pp => ?_) _ ⟨i, f, ρ, S, a, o, rfl, hile, Fz.le.refl f, X, it, hx, w⟩
  obtain ⟨i, f2, ρ2, S2, a2, o, hk, hi', l2, X2, it, hx2, w⟩ := pp
  refine comp_den (P := LFin B f T C D I env N x items (compW gd (turnW asg tests leaf)) Q k c) hc he (wpAny_noted ?_)
  rw [hturn]
  unfold turnS
  refine wpAny_bind (wpAny_standAt ?_)
  obtain ⟨d1, d2, d3⟩ := obj_free X2
  have XF : St B f2 T (((D, C.co a2) :: FrL env N ρ2) ++ S2) s := by
    have := X2.sub (S' := (D, C.co a2) :: (FrL env N ρ2 ++ S2)) (List.sublist_cons_self ..)
    simpa using this
  have d3' : I ∉ feet (((D, C.co a2) :: FrL env N ρ2) ++ S2) := by simpa using d3
  by_cases hi2 : i = items.length
  · subst hi2
    refine wpAny_bind (end_rule R.h hx2 XF d1 d3' it rfl fun h' tk kb => ?_)
    rw [List.drop_length] at w
    exact wpAny_pure ⟨rfl, f2, ρ2, S2, a2, l2, X2.dropObj kb, w⟩
  · have hlt : i < items.length := by omega
    refine wpAny_bind (next_rule R.h hx2 XF d1 d3' it (List.getElem?_eq_getElem hlt) fun v' h' tk hv' it' kb => ?_)
    obtain ⟨o', ho'⟩ := it'.get
    have X3 := X2.setObj (tk := tk) kb ho'
    dsimp only
    refine wpAny_bind (letGo_any it' ?_)
    rw [List.drop_eq_getElem_cons hlt] at w
    unfold compW turnW at w
    have X3' : St B f2 T ([(I, .obj o'), (D, C.co a2)] ++ (FrL env N ρ2 ++ S2)) { s with heap := h', toks := tk } := by simpa using X3
    obtain ⟨T3, P3, back⟩ := X3'.parkAll
    refine wpAny_bind (wpAny_mono (ha _ _ _ _ w A f2 T3 _ v' R P3 hv') (fun _ s4 pp => pp.elim fun f4 ρ4 S4 l4 X4 q4 => ?_) fun _ _ e => e.elim)
    refine wpAny_bind (wpAny_mono (ht ρ4 S4 _ q4 A f4 T3 s4 R X4) (fun ok s5 pp => pp.elim fun f5 S5 l5 X5 q5 => ?_) fun _ _ e => e.elim)
    have U := back f5 _ s5 (l4.trans l5) X5
    have fin : ∀ f6 ρ6 S6 a6 s6, Fz.le f2 f6 → St B f6 T ((I, .obj o') :: (D, C.co a6) :: (FrL env N ρ6 ++ S6)) s6 → (gd S6 ∧ compW gd (turnW asg tests leaf) (items.drop (i + 1)) ρ6 S6 a6 Q) → LFin B f T C D I env N x items (compW gd (turnW asg tests leaf)) Q k c (.again c) s6 := by
      intro f6 ρ6 S6 a6 s6 l6 U6 q6
      refine ⟨rfl, items.length - (i + 1), by omega, i + 1, f6, ρ6, S6, a6, o', rfl, by omega, l2.trans l6, U6, it'.at l6 fun ob e => ?_, hgd _ q6.1, q6.2⟩
      have hcc := U6.cell _ (.head _)
      have : o' = ob := by
        have e2 : h'.get? I = some ob := e
        rw [ho'] at e2; cases e2; rfl
      rw [← this]; exact hcc
    rcases ok with _ | _
    · simp only [Bool.false_eq_true, if_false] at q5 ⊢
      refine wpAny_pure (fin f5 ρ4 S5 a2 s5 (l4.trans l5) (by simpa using U) q5)
    · simp only [if_true] at q5 ⊢
      have U' : St B f5 T ((I, .obj o') :: ((D, C.co a2) :: (FrL env N ρ4 ++ S5))) s5 := by simpa using U
      have hI5 := U'.cell _ (.head _)
      have PP := U'.park hI5
      obtain ⟨u1, u2, u3⟩ := obj_free U'
      refine wpAny_bind (wpAny_mono (hi ρ4 S5 a2 _ q5 A f5 _ s5 R PP) (fun _ s6 pp => pp.elim fun f6 ρ6 S6 a6 l6 X6 q6 => ?_) fun _ _ e => e.elim)
      have U6 : St B f6 T ((I, .obj o') :: ((D, C.co a6) :: (FrL env N ρ6 ++ S6))) s6 := St.unpark (s := s5) u2 (c := .obj o') (f := f5) hI5 hI5 rfl l6 X6
      exact wpAny_pure (fin f6 ρ6 S6 a6 s6 ((l4.trans l5).trans l6) U6 q6)
end
end Lend
namespace Lend
noncomputable def accL (B : Bs) : Acc B (List CV) := ⟨.list, fun _ _ => rfl⟩
noncomputable def accD (B : Bs) : Acc B (List (Int × CV)) := ⟨.dict, fun _ _ => rfl⟩
section
variable {B : Bs} {G : Gl} {n m : Nat} {F S : Store} {A : Around} {f g T T' : Fz} {s : Shared} {env : Env} {N : List Str} {ρ : Rho}
theorem emitL_ok (G : Gl) {elt : Expr} {D : Addr} {acc : List CV} {Q : Rho → Store → List CV → Prop} (h : EOk B n (FrL env N ρ) S (eval elt env) fun v S' => acc.length ≤ small ∧ Q ρ S' (acc ++ [v])) :
    IOk B n (accL B) D env N ρ S acc (emitL elt (.ref D) env) Q := by
  intro A f T s R X
  unfold emitL
  obtain ⟨us, nn, g0, uv⟩ := X.cell _ (.head _)
  have P := X.park g0
  have dT : T D = none := (X.dis D (by rw [feet_cons]; exact List.mem_append_left _ (foot_self ..))).2
  refine EOk.go R P h fun f1 v x S1 s1 l1 X1 va q1 => ?_
  have U : St B f1 T ((D, .list acc) :: (FrL env N ρ ++ S1)) s1 := St.unpark (s := s) dT (c := .list acc) (f := f) ⟨us, nn, g0, uv⟩ g0 rfl l1 X1
  have U' : St B f1 T (FrL env N ρ ++ ((D, .list acc) :: S1)) s1 := U.perm List.perm_middle.symm
  have hl : lk ((D, CO.list acc) :: S1) D = some (.list acc) := by simp [lk]
  have hk : kindM G ((D, CO.list acc) :: S1) (.loc D) (Str.ofString "append") = some (.blt "list" "list.append") := by
    unfold kindM
    dsimp only
    rw [hl]
    show listId _ = _
    unfold listId
    rw [if_pos rfl]
  have hm : methW G false (.loc D) (Str.ofString "append") [x] ((D, .list acc) :: S1) (fun _ S2 => S2 = (D, .list (acc ++ [x])) :: S1) := by
    unfold methW
    dsimp only
    rw [hl]
    show listMethW _ _ _ _ _ _
    unfold listMethW
    rw [if_pos rfl]
    exact ⟨q1.1, by simp [up]⟩
  refine wpAny_bind (wpAny_mono (blt_call hk PySem.F.slot_list_append hm U' (.loc D) (.cons va .nil)) (fun r s2 pp => pp.elim fun f2 y S2 l2 X2 _ e => ?_) fun _ _ e => e)
  subst e
  exact wpAny_pure ⟨f2, ρ, S1, _, l1.trans l2, X2.perm List.perm_middle, q1.2⟩
set_option tactic.hygienic true in
theorem emitD_ok {k v : Expr} {D : Addr} {acc : List (Int × CV)} {Q : Rho → Store → List (Int × CV) → Prop}
    (h : EOk B n (FrL env N ρ) S (eval k env) fun kv S1 => EOk B n (FrL env N ρ) S1 (eval v env) fun v S2 => match kv with | .int j => acc.length ≤ small ∧ Q ρ S2 (putK acc j v) | _ => False) :
    IOk B n (accD B) D env N ρ S acc (emitD k v D env) Q := by
  intro A f T s R X
  unfold emitD
  obtain ⟨lo, va0, d0, kv0⟩ := X.cell _ (.head _)
  obtain ⟨o, g0, hio⟩ := Heap.dictOf_iff.mp d0
  have P := X.park g0
  have dT : T D = none := (X.dis D (by rw [feet_cons]; exact List.mem_append_left _ (foot_self ..))).2
  refine EOk.go R P h fun f1 kv x S1 s1 l1 X1 va q1 => ?_
  refine EOk.go R X1 q1.hold fun f2 vv y S2 s2 l2 X2 vb q2 => ?_
  have U : St B f2 T ((D, .dict acc) :: (FrL env N ρ ++ S2)) s2 := St.unpark (s := s) dT (c := .dict acc) (f := f) ⟨lo, va0, d0, kv0⟩ g0 rfl (l1.trans l2) X2
  cases va <;> first | exact q2.elim | skip
  rename_i j t
  obtain ⟨q3, q4⟩ := q2
  obtain ⟨_, va1, d1, kv1⟩ := U.cell _ (.head _)
  have L := kv1.length
  refine wpAny_bind (wpAny_standAt (wpAny_holding (wpAny_dictSet_pairs (knd := intKind B.prog B.w) (intKind_is _ _ j t) d1 (fun h' d' hs => ?_) (by rw [L, sizeL]; unfold small at q3; omega))))
  exact ⟨f2, ρ, S2, _, l1.trans l2, U.change (c' := .dict (putK acc j y)) (t := s2.toks + 1) hs (foot_self _ _) rfl ⟨lo, _, d', stored_put kv1 (dictOf_nodup d1) vb⟩, q4⟩
noncomputable def TsOk (B : Bs) (n : Nat) (F S : Store) (env : Env) : List Expr → (Bool → Store → Prop) → Prop
  | [], Q => Q true S
  | c :: r, Q => TOk B n F S (isTrue c env (eval c env)) fun b S1 => if b = true then TsOk B n F S1 env r Q else Q false S1
theorem tests_off {E : Value → Shared → Prop} {R : Bool → Shared → Prop} : ∀ (ifs : List Expr) (s : Shared), R false s → wpAny (model B.prog B.w) A (forIn ifs false fun c r => if r = true then do let ok ← isTrue c env (eval c env); pure (ForInStep.yield ok) else pure (ForInStep.yield r)) R E s
  | [], s, h => wpAny_pure h
  | c :: r, s, h => by
    rw [List.forIn_cons]
    simp only [Bool.false_eq_true, if_false]
    exact wpAny_bind (wpAny_pure (tests_off r s h))
theorem tests_ok : ∀ {ifs : List Expr} {S : Store} {Q : Bool → Store → Prop}, TsOk B n F S env ifs Q → TOk B n F S (forIn ifs true fun c r => if r = true then do let ok ← isTrue c env (eval c env); pure (ForInStep.yield ok) else pure (ForInStep.yield r)) Q
  | [], S, Q, h => fun A f T s R X => wpAny_pure ⟨f, S, Fz.le.refl f, X, h⟩
  | c :: r, S, Q, h => fun A f T s R X => by
    rw [List.forIn_cons]
    simp only [if_true]
    refine wpAny_bind (wpAny_bind (wpAny_mono (h A f T s R X) (fun b s1 pp => pp.elim fun f1 S1 l1 X1 q1 => ?_) fun _ _ e => e))
    rcases b with _ | _
    · exact wpAny_pure (tests_off r s1 ⟨f1, S1, l1, X1, q1⟩)
    · exact wpAny_pure (TOk.at (tests_ok q1) R l1 X1)
theorem start_rule {e : Expr} {d : Nat} {gc : Comprehension} {I : Addr} {acc : Value} {x : CV} {i : Nat} {R : Result → Shared → Prop} (hg : (clausesOf e)[d]? = some gc) (ha : gc.is_async = 0)
    (he : ∃ elt gens scope pos, e = .ListComp elt gens scope pos ∨ ∃ k, e = .DictComp k elt gens scope pos) (it : ItAt B f s.heap I x i)
    (h : codeAny (model B.prog B.w) A (.compLoop e d (.ref I) acc env) R s) : codeAny (model B.prog B.w) A (.compStart e d (.ref I) acc env) R s := by
  have hq : (Code.compLoop e d (.ref I) acc env).quiet = true := by
    obtain ⟨elt, gens, scope, pos, h | ⟨k, h⟩⟩ := he <;> subst h <;> rfl
  have key : wpAny (model B.prog B.w) A ((compStart e d (.ref I) acc env).onRaise (fun x => do noteFrame x env; standAt theWindowsPlace))
      (fun fin s' => match fin with | .done f => R (.ok f) s' | .again c' => c'.quiet = true ∧ codeAny (model B.prog B.w) A c' R s') (fun e s' => R (.error e) s') s := by
    refine wpAny_notedAt ?_
    unfold compStart
    rw [hg]
    have ha' : ((some gc).elim false fun x => x.is_async != 0) = false := by simp [ha]
    rw [ha']
    show wpAny _ _ (ask >>= _) _ _ s
    refine wpAny_bind (wpAny_askSetting (wpAny_ite ?_))
    split
    · first
        | exact wpAny_bind (wpAny_pure (wpAny_pure (And.intro hq h)))
        | exact wpAny_pure (And.intro hq h)
    · first
        | exact wpAny_bind (wpAny_rule (wpAny_bind (wpAny_standAt (wpAny_bind (iter_self it (wpAny_pure (And.intro hq h)))))))
        | (refine wpAny_bind (wpAny_rule ?_); show wpAny _ _ (standAt gc.iter.pos >>= _) _ _ s; exact wpAny_bind (wpAny_standAt (wpAny_bind (iter_self it (wpAny_pure (And.intro hq h))))))
  obtain ⟨elt, gens, scope, pos, h1 | ⟨k, h1⟩⟩ := he <;> subst h1 <;> exact codeAny_of_tree key
end
end Lend
namespace Lend
noncomputable def closL (env : Env) : List (Str × NameKind) → List (Str × Addr) → List (Str × Addr)
  | [], cs => cs
  | (n, k) :: r, cs => closL env r (if k = .free then (n, (env.cells.lookup n).getD 0) :: cs else cs)
theorem closL_append (env : Env) : ∀ (names : List (Str × NameKind)) (cs : List (Str × Addr)), closL env names cs = closL env names [] ++ cs
  | [], cs => rfl
  | (n, k) :: r, cs => by
    unfold closL
    rw [closL_append env r (if k = .free then _ :: cs else cs), closL_append env r (if k = .free then [_] else [])]
    split <;> simp
theorem closL_names (env : Env) : ∀ (names : List (Str × NameKind)), (closL env names []).map (·.1) = ((names.filter (·.2 == .free)).map (·.1)).reverse
  | [] => rfl
  | (n, k) :: r => by
    unfold closL
    rw [closL_append, List.map_append, closL_names env r]
    by_cases h : k = .free
    · subst h; simp
    · have : (k == NameKind.free) = false := by simpa using h
      simp [h, this]
set_option tactic.hygienic true in
theorem closL_mem (env : Env) : ∀ (names : List (Str × NameKind)) (p : Str × Addr), (∀ q ∈ names, q.2 = .free → ∃ c, env.cells.lookup q.1 = some c) → p ∈ closL env names [] → (p.1, NameKind.free) ∈ names ∧ env.cells.lookup p.1 = some p.2
  | [], p, _, h => by cases h
  | (n, k) :: r, p, hc, h => by
    unfold closL at h
    rw [closL_append] at h
    rcases List.mem_append.mp h with h1 | h1
    · obtain ⟨a, b⟩ := closL_mem env r p (fun q hq => hc q (.tail _ hq)) h1
      exact ⟨.tail _ a, b⟩
    · split at h1
      · rename_i hk
        subst hk
        obtain ⟨c, e⟩ := hc (n, .free) (.head _) rfl
        have h2 := List.mem_singleton.mp h1
        subst h2
        exact ⟨.head _, by simp only at e ⊢; rw [e]; rfl⟩
      · cases h1
theorem closure_is (env : Env) : ∀ (names : List (Str × NameKind)) (cs : List (Str × Addr)), (∀ q ∈ names, q.2 = .free → ∃ c, env.cells.lookup q.1 = some c) →
    (forIn names cs fun x cs => do
      let (name, kind) := x
      if kind == .free then pure (ForInStep.yield ((name, ← cellOf env name) :: cs)) else pure (ForInStep.yield cs)) = (pure (closL env names cs) : Sem _)
  | [], cs, _ => rfl
  | (n, k) :: r, cs, hc => by
    rw [List.forIn_cons]
    unfold closL
    by_cases h : k = .free
    · subst h
      obtain ⟨c, e⟩ := hc (n, .free) (.head _) rfl
      simp only at e
      have e2 : cellOf env n = pure c := by unfold cellOf; rw [e]
      simp only [beq_self_eq_true, if_true, e2, pure_bind, e, Option.getD_some]
      exact closure_is env r _ fun q hq => hc q (.tail _ hq)
    · have hb : (k == NameKind.free) = false := by simpa using h
      simp only [hb, Bool.false_eq_true, if_false, pure_bind, if_neg h]
      exact closure_is env r _ fun q hq => hc q (.tail _ hq)
theorem sub_perm {α : Type} [DecidableEq α] : ∀ (cl l : List α), cl.Nodup → (∀ a ∈ cl, a ∈ l) → ∃ r, l.Perm (cl ++ r)
  | [], l, _, _ => ⟨l, .refl _⟩
  | a :: cl, l, hn, hs => by
    obtain ⟨h1, h2⟩ := List.nodup_cons.mp hn
    obtain ⟨r, hr⟩ := sub_perm cl (l.erase a) h2 fun b hb => (List.mem_erase_of_ne (by rintro rfl; exact h1 hb)).mpr (hs b (.tail _ hb))
    exact ⟨r, (List.perm_cons_erase (hs a (.head _))).trans (hr.cons a)⟩
theorem lookup_map {φ : Str → NameKind → NameKind} : ∀ (names : List (Str × NameKind)) (x : Str), (names.map fun p => (p.1, φ p.1 p.2)).lookup x = (names.lookup x).map (φ x)
  | [], _ => rfl
  | (n, k) :: r, x => by
    rw [List.map_cons, List.lookup_cons, List.lookup_cons]
    rcases h : x == n with _ | _
    · exact lookup_map r x
    · rw [beq_iff_eq.mp h]; rfl
theorem mem_lookup : ∀ {l : List (Str × NameKind)} {x : Str} {k : NameKind}, (l.map (·.1)).Nodup → (x, k) ∈ l → l.lookup x = some k := by
  intro l x k
  induction l with
  | nil => intro _ h; cases h
  | cons p r ih =>
    intro hn hm
    obtain ⟨y, k'⟩ := p
    simp only [List.map_cons, List.nodup_cons] at hn
    rw [List.lookup_cons]
    rcases List.mem_cons.mp hm with e | hm
    · cases e; simp
    · have : (x == y) = false := beq_eq_false_iff_ne.mpr fun e => hn.1 (List.mem_map.mpr ⟨(x, k), hm, e⟩)
      rw [this]; exact ih hn.2 hm
set_option tactic.hygienic true in
theorem lookup_memK : ∀ {l : List (Str × NameKind)} {x : Str} {k : NameKind}, l.lookup x = some k → (x, k) ∈ l
  | [], x, k, h => by cases h
  | (y, d) :: r, x, k, h => by
    rw [List.lookup_cons] at h
    split at h
    · rename_i e; cases h; rw [beq_iff_eq.mp e]; exact .head _
    · exact .tail _ (lookup_memK h)
theorem lookup_has : ∀ {l : List (Str × Addr)} {x : Str}, x ∈ l.map (·.1) → ∃ c, l.lookup x = some c
  | [], x, h => by cases h
  | (y, d) :: r, x, h => by
    rw [List.lookup_cons]
    rcases e : x == y with _ | _
    · rcases List.mem_cons.mp h with h | h
      · exact absurd h (beq_eq_false_iff_ne.mp e)
      · exact lookup_has h
    · exact ⟨d, rfl⟩
noncomputable def isOwn (k : NameKind) : Bool := k == .local || k == .cell
noncomputable def ownN (scope : Scope) : List Str := (scope.names.filter fun p => isOwn p.2).map (·.1)
theorem valN_skip {N : List Str} {x : Str} : ∀ {nn : List Str} {ρ : Rho}, x ∉ nn → valN (nn ++ N) ρ x = valN N (ρ.drop nn.length) x
  | [], ρ, _ => rfl
  | y :: nn, [], h => by
    have : valN N ([] : Rho) x = none := by cases N <;> rfl
    simp [valN, this]
  | y :: nn, v :: ρ, h => by
    simp only [List.cons_append, valN, List.length_cons, List.drop_succ_cons]
    have hne : ¬ x = y := fun e => h (by rw [e]; exact .head _)
    rw [if_neg hne]
    exact valN_skip fun hm => h (.tail _ hm)
set_option tactic.hygienic true in
theorem valN_none {N : List Str} {x : Str} {ρ : Rho} : ∀ {nn : List Str}, x ∈ nn → valN (nn ++ N) (List.replicate nn.length none ++ ρ) x = none
  | [], h => by cases h
  | y :: nn, h => by
    simp only [List.cons_append, List.length_cons, List.replicate_succ, valN]
    split
    · rfl
    · rename_i e
      rcases List.mem_cons.mp h with h | h
      · exact absurd h e
      · exact valN_none h
structure CompN (kinds : Str → Option NameKind) (scope : Scope) : Prop where
  nod : (scope.names.map (·.1)).Nodup
  kind : scope.kind = .function
  free : ∀ p ∈ scope.names, p.2 = .free → kinds p.1 = some .cell ∨ kinds p.1 = some .free
section
variable {B : Bs} {G : Gl} {n m : Nat} {F S : Store} {A : Around} {f g T T' : Fz} {s : Shared} {env : Env} {N : List Str} {ρ : Rho}
theorem CompN.closure {scope : Scope} (W : EnvW env) (h : CompN env.kindOf scope) : closureFor scope env = pure (closL env scope.names []) := by
  have := closure_is env scope.names [] fun q hq hf => W.has _ (h.free q hq hf)
  unfold closureFor
  exact (congrArg (fun m => m >>= fun cs => pure cs) this).trans (by simp)
theorem relabel_lookup {scope : Scope} {x : Str} : (relabel scope env).names.lookup x = (scope.names.lookup x).map fun k => if (k == .free && env.scope.kind == .function && env.kindOf x == some .cell) = true then .cell else k := by
  have := lookup_map (φ := fun n k => if (k == .free && env.scope.kind == .function && env.kindOf n == some .cell) = true then .cell else k) scope.names x
  rw [← this]
  unfold relabel
  congr 1
  refine List.map_congr_left fun p _ => ?_
  obtain ⟨n, k⟩ := p
  simp only
  split <;> rfl
theorem newEnv_comp (W : EnvW env) {scope : Scope} (hc : CompN env.kindOf scope) (X : St B f T S s) {Q : Env → Shared → Prop}
    (h : ∀ (C : Addr) (new : List (Str × Addr)) s', new.map (·.1) = ((scope.names.filter (·.2 == .cell)).map (·.1)).reverse → St B f T ((new.map fun p => (p.2, CO.cell none)) ++ ((C, .ns fun _ => none) :: S)) s' →
      EnvW (compEnvC scope (new ++ closL env scope.names []) C env) →
      Q { scope := scope, locals := C, globals := env.globals, cells := new ++ closL env scope.names [], qual := env.qual, func := none, code := env.code, frame := env.frame, builtins := env.builtins } s') :
    wpAny (model B.prog B.w) A (newFunctionEnv scope env.globals (closL env scope.names []) [] env.qual none .none (some env)) Q noE s := by
  unfold newFunctionEnv
  refine wpAny_bind (wpAny_alloc ?_)
  have X1 := X.pushC (o := { cls := .type "dict", data := .dict #[] }) (c := .ns fun _ => none) (t := s.toks) rfl rfl ⟨_, Heap.Ns.new .., fun x V h => by cases h⟩
  refine wpAny_bind (cells_loop (W := scope) scope.names (closL env scope.names []) _ _ X1 (fun _ _ => rfl) _ fun new s1 hnew X2 => ?_)
  have hcl := closL_mem env scope.names
  have hfr : ∀ q ∈ scope.names, q.2 = .free → ∃ c, env.cells.lookup q.1 = some c := fun q hq hf => W.has _ (hc.free q hq hf)
  have hmemn : ∀ p ∈ new, (p.1, NameKind.cell) ∈ scope.names := fun p hp => by
    have : p.1 ∈ new.map (·.1) := List.mem_map_of_mem hp
    rw [hnew, List.mem_reverse] at this
    obtain ⟨q, hq, e⟩ := List.mem_map.mp this
    obtain ⟨h1, h2⟩ := List.mem_filter.mp hq
    have h3 := beq_iff_eq.mp h2
    rw [← e, ← h3]
    exact h1
  have hW : EnvW (compEnvC scope (new ++ closL env scope.names []) s.heap.objs.size env) := by
    have kof : ∀ x, Env.kindOf (compEnvC scope (new ++ closL env scope.names []) s.heap.objs.size env) x = (scope.names.lookup x).map fun k => if (k == .free && env.scope.kind == .function && env.kindOf x == some .cell) = true then .cell else k := fun x => relabel_lookup
    refine ⟨hc.kind, W.glob, W.blt, ?_, fun x hx => ?_, fun p hp => ?_⟩
    · show ((new ++ closL env scope.names []).map (·.1)).Nodup
      rw [List.map_append, hnew, closL_names]
      refine List.nodup_append.mpr ⟨(List.reverse_perm _).nodup_iff.mpr (hc.nod.sublist ((List.filter_sublist).map _)), (List.reverse_perm _).nodup_iff.mpr (hc.nod.sublist ((List.filter_sublist).map _)), fun a ha b hb e => ?_⟩
      subst e
      obtain ⟨p, hp, e1⟩ := List.mem_map.mp (List.mem_reverse.mp ha)
      obtain ⟨q, hq, e2⟩ := List.mem_map.mp (List.mem_reverse.mp hb)
      obtain ⟨p1, p2⟩ := List.mem_filter.mp hp
      obtain ⟨q1, q2⟩ := List.mem_filter.mp hq
      have l1 := mem_lookup hc.nod (x := p.1) (k := p.2) p1
      have l2 := mem_lookup hc.nod (x := q.1) (k := q.2) q1
      rw [e1] at l1
      rw [e2] at l2
      rw [l1] at l2
      have c1 := beq_iff_eq.mp p2
      have c2 := beq_iff_eq.mp q2
      rw [c1, c2] at l2
      cases l2
    · rw [kof] at hx
      have hx' : scope.names.lookup x = some .cell ∨ scope.names.lookup x = some .free := by
        rcases e : scope.names.lookup x with _ | k
        · rw [e] at hx; simp at hx
        · cases k <;> simp [e] at hx ⊢
      refine lookup_has ?_
      show x ∈ (new ++ closL env scope.names []).map (·.1)
      rw [List.map_append, hnew, closL_names]
      rcases hx' with hx | hx
      · exact List.mem_append_left _ (List.mem_reverse.mpr (List.mem_map.mpr ⟨(x, .cell), List.mem_filter.mpr ⟨lookup_memK hx, by simp⟩, rfl⟩))
      · exact List.mem_append_right _ (List.mem_reverse.mpr (List.mem_map.mpr ⟨(x, .free), List.mem_filter.mpr ⟨lookup_memK hx, by simp⟩, rfl⟩))
    · rw [kof]
      have hp' : p ∈ new ∨ p ∈ closL env scope.names [] := List.mem_append.mp hp
      rcases hp' with hp | hp
      · rw [mem_lookup hc.nod (hmemn p hp)]; simp
      · rw [mem_lookup hc.nod (hcl p hfr hp).1]
        simp only [Option.map_some]
        intro e
        split at e <;> cases e
  refine wpAny_bind (wpAny_pure ?_)
  exact wpAny_pure (h _ new s1 hnew X2 hW)
end
end Lend
namespace Lend
theorem perm_in {α : Type} (new cl rest cells S : List α) (C D I L : α) (h : cells.Perm (cl ++ rest)) : (new ++ (C :: D :: I :: ((L :: cells) ++ S))).Perm ((L :: rest) ++ (I :: D :: ((C :: (new ++ cl)) ++ S))) := by
  classical
  have h := List.perm_iff_count.mp h
  refine List.perm_iff_count.mpr fun x => ?_
  have := h x
  simp only [List.count_append, List.count_cons] at this ⊢
  omega
theorem perm_out {α : Type} (new cl rest cells S : List α) (C D L : α) (h : cells.Perm (cl ++ rest)) : ((L :: rest) ++ (D :: ((C :: (new ++ cl)) ++ S))).Perm (new ++ (C :: D :: ((L :: cells) ++ S))) := by
  classical
  have h := List.perm_iff_count.mp h
  refine List.perm_iff_count.mpr fun x => ?_
  have := h x
  simp only [List.count_append, List.count_cons] at this ⊢
  omega
section
variable {B : Bs} {G : Gl} {n m : Nat} {F S : Store} {A : Around} {f g T T' : Fz} {s : Shared} {env : Env} {N : List Str} {ρ : Rho}
theorem closL_nodup {scope : Scope} (hc : CompN env.kindOf scope) : (closL env scope.names []).Nodup := by
  have : ((closL env scope.names []).map (·.1)).Nodup := by
    rw [closL_names]
    exact (List.reverse_perm _).nodup_iff.mpr (hc.nod.sublist ((List.filter_sublist).map _))
  exact List.Pairwise.of_map (fun x => x.1) (fun a b h e => h (by rw [e])) this
theorem ownN_not {scope : Scope} (hc : CompN env.kindOf scope) {x : Str} (h : (x, NameKind.free) ∈ scope.names) : x ∉ ownN scope := by
  intro hx
  obtain ⟨p, hp, e⟩ := List.mem_map.mp hx
  obtain ⟨p1, p2⟩ := List.mem_filter.mp hp
  have l1 := mem_lookup hc.nod (x := p.1) (k := p.2) p1
  rw [e, mem_lookup hc.nod h] at l1
  injection l1 with l1
  rw [← l1] at p2
  cases p2
theorem cells_close {scope : Scope} (W : EnvW env) (hc : CompN env.kindOf scope) {ρ2 : Rho} (hk : ρ2.drop (ownN scope).length = ρ) : cellsL (ownN scope ++ N) ρ2 (closL env scope.names []) = cellsL N ρ (closL env scope.names []) := by
  unfold cellsL
  refine List.map_congr_left fun p hp => ?_
  have := (closL_mem env scope.names p (fun q hq hf => W.has _ (hc.free q hq hf)) hp).1
  rw [valN_skip (ownN_not hc this), hk]
set_option tactic.hygienic true in
theorem comp_rule {α : Type} {C : Acc B α} {e : Expr} {scope : Scope} {pos : Pos} {gc : Comprehension} {gs : List Comprehension} {first newAcc : Sem Value} {use : Option (Value → Sem Unit)} {a0 : α} (BO : B.Ok)
    (W : EnvW env) (hc : CompN env.kindOf scope) (hcl : clausesOf e = gc :: gs) (hfs : ∀ x, foldedSetIterable gc.iter env x = pure x)
    (hacc : ∀ (s : Shared) (R : Value → Shared → Prop), (∀ o, o.isFreed = false → ((s.heap.objs.size == sysModules) = false → ∀ f, CIs B f (s.heap.push o) s.heap.objs.size (C.co a0)) → R (.ref s.heap.objs.size) { s with heap := s.heap.push o }) → wpAny (model B.prog B.w) A newAcc R noE s)
    {K : CV → List CV → Rho → Store → α → (Rho → Store → α → Prop) → Prop}
    (hloop : ∀ cenv, EnvW cenv → cenv.scope = relabel scope env → ∀ x items ρ' S' f T s o I D Q, iterX S' x = some items → K x items ρ' S' a0 Q → St B f T ((I, .obj o) :: (D, C.co a0) :: (FrL cenv (ownN scope ++ N) ρ' ++ S')) s → ItAt B f s.heap I x 0 →
      codeAny (model B.prog B.w) A (.compStart e 0 (.ref I) (.ref D) cenv) (GoodC B f T C D cenv (ownN scope ++ N) Q) s)
    {P : Store → α → Prop}
    (h : EOk B n (FrL env N ρ) S first fun x S1 => match iterX S1 x with | some items => K x items (List.replicate (ownN scope).length none ++ ρ) S1 a0 (fun ρ' S' a' => ρ'.drop (ownN scope).length = ρ ∧ P S' a') | none => False)
    (R : Room n A) (X : St B f T (FrL env N ρ ++ S) s) {Q' : Value → Shared → Prop}
    (fin : ∀ f' D a' S' Cn gn s', Fz.le f f' → St B f' T ((Cn, .ns gn) :: (D, C.co a') :: (FrL env N ρ ++ S')) s' → P S' a' → compPost (model B.prog B.w) A noE use Q' (.ref D) Cn (.ok .next) s') :
    wpAny (model B.prog B.w) A (comprehension e scope env pos newAcc false first use) Q' noE s := by
  refine wpAny_comprehension_free hcl hfs (hc.closure W) hc.kind (fun p hp hl => by rw [← hl]; exact mem_lookup hc.nod hp) (wpAny_mono (h A f T s R X) (fun v s1 pp => pp.elim fun f1 x S1 l1 X1 va q1 => ?_) fun _ _ e => e)
  try dsimp only at q1
  split at q1
  · rename_i items hx
    refine iter_rule hx X1 va fun o ho it => ?_
    have Y1 := X1.pushC (o := o) (c := .obj o) (t := s1.toks) ho rfl (Heap.get?_push_size _ ho)
    refine hacc _ _ fun o2 ho2 hci => ?_
    have Y2 := Y1.pushC (o := o2) (c := C.co a0) (t := s1.toks) ho2 (C.plain _ _) (hci (Y1.notMod BO (Nat.le_refl _)) f1)
    refine newEnv_comp W hc Y2 fun Cn new s3 hnew Y3 hW => ?_
    obtain ⟨rest, hperm⟩ := sub_perm (closL env scope.names []) env.cells (closL_nodup hc) (fun p hp => lookup_mem (closL_mem env scope.names p (fun q hq hf => W.has _ (hc.free q hq hf)) hp).2)
    have hpc : ∀ ρ, (cellsL N ρ env.cells).Perm (cellsL N ρ (closL env scope.names []) ++ cellsL N ρ rest) := fun ρ => by
      unfold cellsL
      rw [← List.map_append]
      exact hperm.map _
    have e1 : nsOf (compEnvC scope (new ++ closL env scope.names []) Cn env) (ownN scope ++ N) (List.replicate (ownN scope).length none ++ ρ) = fun _ => none := by
      funext y
      unfold nsOf
      split
      · rename_i hk
        have hk' : (relabel scope env).names.lookup y = some .local := hk
        rw [relabel_lookup] at hk'
        have hl : scope.names.lookup y = some .local := by
          rcases e : scope.names.lookup y with _ | k
          · rw [e] at hk'; cases hk'
          · rw [e] at hk'
            simp only [Option.map_some] at hk'
            split at hk'
            · cases hk'
            · exact hk'
        exact valN_none (List.mem_map.mpr ⟨(y, .local), List.mem_filter.mpr ⟨lookup_memK hl, rfl⟩, rfl⟩)
      · rfl
    have e2 : cellsL (ownN scope ++ N) (List.replicate (ownN scope).length none ++ ρ) new = new.map fun p => (p.2, CO.cell none) := by
      unfold cellsL
      refine List.map_congr_left fun p hp => ?_
      have : p.1 ∈ new.map (·.1) := List.mem_map_of_mem hp
      rw [hnew, List.mem_reverse] at this
      obtain ⟨q, hq, e⟩ := List.mem_map.mp this
      obtain ⟨h1, h2⟩ := List.mem_filter.mp hq
      have hm : p.1 ∈ ownN scope := List.mem_map.mpr ⟨q, List.mem_filter.mpr ⟨h1, by unfold isOwn; rw [h2, Bool.or_true]⟩, e⟩
      rw [valN_none hm]
    have e3 := cells_close (N := N) (ρ := ρ) W hc (ρ2 := List.replicate (ownN scope).length none ++ ρ) (by simp)
    have Y4 := Y3.perm (perm_in _ _ _ _ S1 _ _ _ (env.locals, CO.ns (nsOf env N ρ)) (hpc ρ))
    obtain ⟨T', Y5, back⟩ := Y4.parkAll
    have Y6 : St B f1 T' ((s1.heap.objs.size, .obj o) :: ((s1.heap.push o).objs.size, C.co a0) :: (FrL (compEnvC scope (new ++ closL env scope.names []) Cn env) (ownN scope ++ N) (List.replicate (ownN scope).length none ++ ρ) ++ S1)) s3 := by
      have : FrL (compEnvC scope (new ++ closL env scope.names []) Cn env) (ownN scope ++ N) (List.replicate (ownN scope).length none ++ ρ) = (Cn, CO.ns fun _ => none) :: ((new.map fun p => (p.2, CO.cell none)) ++ cellsL N ρ (closL env scope.names [])) := by
        show (Cn, CO.ns (nsOf _ _ _)) :: cellsL _ _ (new ++ closL env scope.names []) = _
        rw [e1]
        unfold cellsL at e2 e3 ⊢
        rw [List.map_append, e2, e3]
      rw [this]
      exact Y5
    have it3 : ItAt B f1 s3.heap s1.heap.objs.size x 0 := by
      refine it.at (Fz.le.refl _) fun ob e => ?_
      have hc1 := Y6.cell _ (.head _)
      have : o = ob := by
        rw [Heap.get?_push_size _ ho] at e; cases e; rfl
      rw [← this]; exact hc1
    refine codeAny_mono (hloop (compEnvC scope (new ++ closL env scope.names []) Cn env) hW rfl x items _ S1 f1 T' s3 o _ _ _ hx q1 Y6 it3) fun r s4 pp => ?_
    obtain ⟨hr, f2, ρ2, S2, a2, l2, X2, hk, hP⟩ := pp
    subst hr
    have Z := back f2 _ s4 l2 X2
    have e4 := cells_close (N := N) (ρ := ρ) W hc (ρ2 := ρ2) hk
    have Z2 : St B f2 T (cellsL (ownN scope ++ N) ρ2 new ++ ((Cn, CO.ns (nsOf (compEnvC scope (new ++ closL env scope.names []) Cn env) (ownN scope ++ N) ρ2)) :: ((s1.heap.push o).objs.size, C.co a2) :: (FrL env N ρ ++ S2))) s4 := by
      refine Z.perm ?_
      have : FrL (compEnvC scope (new ++ closL env scope.names []) Cn env) (ownN scope ++ N) ρ2 = (Cn, CO.ns (nsOf (compEnvC scope (new ++ closL env scope.names []) Cn env) (ownN scope ++ N) ρ2)) :: (cellsL (ownN scope ++ N) ρ2 new ++ cellsL N ρ (closL env scope.names [])) := by
        show (Cn, CO.ns (nsOf _ _ _)) :: cellsL _ _ (new ++ closL env scope.names []) = _
        unfold cellsL at e4 ⊢
        rw [List.map_append, e4]
      rw [this]
      exact perm_out _ _ _ _ S2 _ _ (env.locals, CO.ns (nsOf env N ρ)) (hpc ρ)
    exact fin f2 _ a2 S2 Cn _ s4 (l1.trans l2) (Z2.sub (List.sublist_append_right ..)) hP
  · exact q1.elim
end
end Lend
namespace Lend
section
variable {B : Bs} {G : Gl} {n m : Nat} {F S : Store} {A : Around} {f g T T' : Fz} {s : Shared} {env : Env} {N : List Str} {ρ : Rho}
theorem St.dropC {I : Addr} {c : CO} {h' : Heap} {tk : Nat} {X : Store} (x : St B f T ((I, c) :: X) s) (hf : foot I c = [I]) (k : ∀ b ob, b ≠ I → s.heap.get? b = some ob → h'.get? b = some ob) : St B f T X { s with heap := h', toks := tk } := by
  have hd := x.dis I (by rw [feet_cons]; exact List.mem_append_left _ (foot_self ..))
  have sep := x.sep
  rw [feet_cons] at sep
  have hX : I ∉ feet X := fun hb' => (List.nodup_append.mp sep).2.2 I (foot_self ..) I hb' rfl
  have ne : ∀ b ob, f b = some ob → b ≠ I := fun b ob e => ne_sn e hd.1
  have nT : ∀ b ob, T b = some ob → b ≠ I := fun b ob e => ne_sn e hd.2
  have y := x.sub (S' := X) (List.sublist_cons_self ..)
  refine ⟨y.gens, y.os, y.base, fun b ob e => k _ _ (ne b ob e) (x.fin b ob e), fun b ob e => ⟨k _ _ (nT b ob e) (x.tin b ob e).1, (x.tin b ob e).2⟩, fun p hp => ?_, y.dis, y.sep⟩
  refine (x.cell p (.tail _ hp)).keep (Fz.le.refl f) fun b hb => ?_
  obtain ⟨ob, hob⟩ := (x.cell p (.tail _ hp)).lt b hb
  have : b ≠ I := by rintro rfl; exact hX (mem_feet.mpr ⟨p, hp, hb⟩)
  rw [hob, k _ _ this hob]
theorem freezeL {D : Addr} {a : List CV} {X : Store} (x : St B f T ((D, .list a) :: X) s) : ∃ f', Fz.le f f' ∧ St B f' T X s ∧ VIs B f' (.ref D) (.flist a) := by
  obtain ⟨us, nn, g0, uv⟩ := x.cell _ (.head _)
  obtain ⟨y, l⟩ := x.freeze g0
  exact ⟨_, l, y, .flist (Fz.put_self ..) (uv.mono l)⟩
theorem freezeD {D : Addr} {a : List (Int × CV)} {X : Store} (x : St B f T ((D, .dict a) :: X) s) : ∃ f', Fz.le f f' ∧ St B f' T X s ∧ VIs B f' (.ref D) (.fdict a) := by
  obtain ⟨lo, va, d, kv⟩ := x.cell _ (.head _)
  obtain ⟨o, ho, hio⟩ := Heap.dictOf_iff.mp d
  obtain ⟨y, l⟩ := x.freeze ho
  exact ⟨_, l, y, .fdict (Fz.put_self ..) lo hio (kv.mono l)⟩
set_option tactic.hygienic true in
theorem inner_ok {α : Type} {C : Acc B α} {D : Addr} {e : Expr} {t2 iter2 : Expr} {ifs2 : List Expr} {inner : Sem Unit} {a : α}
    (he : ∃ elt gens scope pos, e = .ListComp elt gens scope pos ∨ ∃ k, e = .DictComp k elt gens scope pos) (hg : (clausesOf e)[1]? = some ⟨t2, iter2, ifs2, 0⟩) (hfs : ∀ x, foldedSetIterable iter2 env x = pure x)
    (hturn : ∀ I, compTurn e 1 (.ref I) (.ref D) env = turnS iter2.pos t2 ifs2 inner (.ref I) env (.compLoop e 1 (.ref I) (.ref D) env))
    {asg : CV → Rho → Store → (Rho → Store → Prop) → Prop} {tests : Rho → Store → (Bool → Store → Prop) → Prop} {leaf : Rho → Store → α → (Rho → Store → α → Prop) → Prop}
    (ha : ∀ y ρ S Q, asg y ρ S Q → AOk B n env N ρ S (assign t2 env) y Q)
    (ht : ∀ ρ S Q, tests ρ S Q → TsOk B n (FrL env N ρ) S env ifs2 Q)
    (hi : ∀ ρ S a Q, leaf ρ S a Q → IOk B n C D env N ρ S a inner Q) {Q : Rho → Store → α → Prop}
    (h : EOk B n (FrL env N ρ) S (eval iter2 env) fun x S1 => match iterX S1 x with | some items => compW (stays S1 x) (turnW asg tests leaf) items ρ S1 a Q | none => False) :
    IOk B n C D env N ρ S a (innerS e 1 (.ref D) ⟨t2, iter2, ifs2, 0⟩ env) Q := by
  intro A f T s R X
  unfold innerS
  obtain ⟨o0, g0⟩ := (X.cell _ (.head _)).lt D (foot_self ..)
  have P := X.park g0
  have cD := X.cell _ (.head _)
  have dT : T D = none := (X.dis D (by rw [feet_cons]; exact List.mem_append_left _ (foot_self ..))).2
  refine EOk.go R P h fun f1 v x S1 s1 l1 X1 va q1 => ?_
  have U : St B f1 T ((D, C.co a) :: (FrL env N ρ ++ S1)) s1 := St.unpark (s := s) dT (f := f) cD g0 (C.plain _ _) l1 X1
  refine wpAny_bind (wpAny_standAt (wpAny_bind (wpAny_of_eq (hfs v) ?_)))
  try dsimp only at q1
  split at q1
  · rename_i items hx
    refine wpAny_bind (wpAny_holding (iter_rule (F := (D, C.co a) :: FrL env N ρ) hx (by simpa using U) va fun o ho it => ?_))
    have Y := U.pushC (o := o) (c := .obj o) (t := s1.toks) ho rfl (Heap.get?_push_size _ ho)
    refine wpAny_bind (wpAny_runOwn ?_)
    refine start_rule hg rfl he it ?_
    refine codeAny_mono (loop_rule (Q := Q) rfl he (hturn _) (gd := stays S1 x) (x := x) (items := items) (fun S hS => by rw [stays_iter hS, hx]) ha (fun ρ S Q h => tests_ok (ht ρ S Q h)) hi R.mark 0 ρ S1 a f1 T _ o (Nat.zero_le _) hx Y it (by rw [List.drop_zero]; exact q1)) fun r s2 ⟨hr, f2, ρ2, S2, a2, l2, X2, q2⟩ => ?_
    subst hr
    exact wpAny_pure ⟨f2, ρ2, S2, a2, l1.trans l2, X2, q2⟩
  · exact q1.elim
theorem newList_acc (s : Shared) (R : Value → Shared → Prop) (h : ∀ o, o.isFreed = false → ((s.heap.objs.size == sysModules) = false → ∀ f, CIs B f (s.heap.push o) s.heap.objs.size ((accL B).co [])) → R (.ref s.heap.objs.size) { s with heap := s.heap.push o }) :
    wpAny (model B.prog B.w) A (newList []) R noE s :=
  wpAny_newList (h _ rfl fun _ f => ⟨#[], 0, Heap.get?_push_size _ rfl, .nil⟩) (by decide)
theorem newDict_acc (s : Shared) (R : Value → Shared → Prop) (h : ∀ o, o.isFreed = false → ((s.heap.objs.size == sysModules) = false → ∀ f, CIs B f (s.heap.push o) s.heap.objs.size ((accD B).co [])) → R (.ref s.heap.objs.size) { s with heap := s.heap.push o }) :
    wpAny (model B.prog B.w) A newDict R noE s := by
  simp only [newDict, newObj]
  exact wpAny_bind (wpAny_alloc (wpAny_pure (h _ rfl fun lo f => ⟨lo, [], Heap.DictOf.new _, .nil⟩)))
noncomputable def CompK {α : Type} (B : Bs) (n : Nat) (C : Acc B α) (a0 : α) (e : Expr) (scope : Scope) (env : Env) (N : List Str) (K : CV → List CV → Rho → Store → α → (Rho → Store → α → Prop) → Prop) : Prop :=
  ∀ A, Room n A → ∀ cenv, EnvW cenv → cenv.scope = relabel scope env → ∀ x items ρ' S' f T s o I D Q, iterX S' x = some items → K x items ρ' S' a0 Q → St B f T ((I, .obj o) :: (D, C.co a0) :: (FrL cenv (ownN scope ++ N) ρ' ++ S')) s → ItAt B f s.heap I x 0 →
      codeAny (model B.prog B.w) A (.compStart e 0 (.ref I) (.ref D) cenv) (GoodC B f T C D cenv (ownN scope ++ N) Q) s
theorem comp_eval {α : Type} {C : Acc B α} {val : α → CV} {e : Expr} {scope : Scope} {pos : Pos} {gc : Comprehension} {gs : List Comprehension} {first newAcc : Sem Value} {a0 : α} (BO : B.Ok)
    (W : EnvW env) (hc : CompN env.kindOf scope) (hcl : clausesOf e = gc :: gs) (hfs : ∀ x, foldedSetIterable gc.iter env x = pure x)
    (hacc : ∀ A (s : Shared) (R : Value → Shared → Prop), (∀ o, o.isFreed = false → ((s.heap.objs.size == sysModules) = false → ∀ f, CIs B f (s.heap.push o) s.heap.objs.size (C.co a0)) → R (.ref s.heap.objs.size) { s with heap := s.heap.push o }) → wpAny (model B.prog B.w) A newAcc R noE s)
    (hval : ∀ f T D a X s, St B f T ((D, C.co a) :: X) s → ∃ f', Fz.le f f' ∧ St B f' T X s ∧ VIs B f' (.ref D) (val a))
    {K : CV → List CV → Rho → Store → α → (Rho → Store → α → Prop) → Prop} (hloop : CompK B n C a0 e scope env N K) {Q : CV → Store → Prop}
    (h : EOk B n (FrL env N ρ) S first fun x S1 => match iterX S1 x with | some items => K x items (List.replicate (ownN scope).length none ++ ρ) S1 a0 (fun ρ' S' a' => ρ'.drop (ownN scope).length = ρ ∧ Q (val a') S') | none => False) :
    EOk B n (FrL env N ρ) S (comprehension e scope env pos newAcc false first) Q := by
  intro A f T s R X
  refine comp_rule (use := none) BO W hc hcl hfs (hacc A) (hloop A R) (P := fun S' a' => Q (val a') S') h R X fun f' D a' S' Cn gn s' l Y q => ?_
  obtain ⟨mm, hn, _⟩ := Y.cell _ (.head _)
  refine ⟨mm, hn, fun h' hs => ?_⟩
  have Z := Y.dropC (h' := h') (tk := s'.toks) rfl fun b ob hb e => by rw [hs.2 b hb]; exact e
  obtain ⟨f2, l2, Z2, hv⟩ := hval _ _ _ _ _ _ Z
  exact ⟨f2, _, S', l.trans l2, Z2, hv, q⟩
theorem comp_use {α : Type} {C : Acc B α} {val : α → CV} {e : Expr} {scope : Scope} {pos : Pos} {gc : Comprehension} {gs : List Comprehension} {first newAcc : Sem Value} {a0 : α} (BO : B.Ok)
    (W : EnvW env) (hc : CompN env.kindOf scope) (hcl : clausesOf e = gc :: gs) (hfs : ∀ x, foldedSetIterable gc.iter env x = pure x)
    (hacc : ∀ A (s : Shared) (R : Value → Shared → Prop), (∀ o, o.isFreed = false → ((s.heap.objs.size == sysModules) = false → ∀ f, CIs B f (s.heap.push o) s.heap.objs.size (C.co a0)) → R (.ref s.heap.objs.size) { s with heap := s.heap.push o }) → wpAny (model B.prog B.w) A newAcc R noE s)
    (hval : ∀ f T D a X s, St B f T ((D, C.co a) :: X) s → ∃ f', Fz.le f f' ∧ St B f' T X s ∧ VIs B f' (.ref D) (val a))
    {K : CV → List CV → Rho → Store → α → (Rho → Store → α → Prop) → Prop} (hloop : CompK B n C a0 e scope env N K) {Q : Rho → Store → Prop} {x : Str} {i : Nat} {p : Pos}
    (hk : env.kindOf x = some .local ∨ env.kindOf x = some .cell ∨ env.kindOf x = some .free) (hi : idxN N x = some i)
    (h : EOk B n (FrL env N ρ) S first fun x S1 => match iterX S1 x with | some items => K x items (List.replicate (ownN scope).length none ++ ρ) S1 a0 (fun ρ' S' a' => ρ'.drop (ownN scope).length = ρ ∧ i < ρ.length ∧ Q (ρ.set i (some (val a'))) S') | none => False)
    (R : Room n A) (X : St B f T (FrL env N ρ ++ S) s) :
    wpAny (model B.prog B.w) A (comprehension e scope env pos newAcc false first (some fun v => assignAll v [assign (.Name x p) env])) (fun _ => APst B f T env N Q ()) noE s := by
  refine comp_rule BO W hc hcl hfs (hacc A) (hloop A R) (P := fun S' a' => i < ρ.length ∧ Q (ρ.set i (some (val a'))) S') h R X fun f' D a' S' Cn gn s' l Y q => ?_
  have Y1 := Y.perm (List.Perm.swap ..)
  obtain ⟨f2, l2, Z2, hv⟩ := hval _ _ _ _ _ _ Y1
  have Z3 : St B f2 T (FrL env N ρ ++ ((Cn, .ns gn) :: S')) s' := Z2.perm List.perm_middle.symm
  show wpAny _ _ (assign (.Name x p) env (.ref D)) _ _ _
  refine wpAny_assign_Name (store_rule W Z3 hk hi q.1 hv fun s2 V => ?_)
  have V2 := V.perm List.perm_middle
  obtain ⟨mm, hn, _⟩ := V2.cell _ (.head _)
  refine ⟨mm, hn, fun h' hs => ?_⟩
  have Z := V2.dropC (h' := h') (tk := s2.toks) rfl fun b ob hb e => by rw [hs.2 b hb]; exact e
  exact ⟨f2, _, S', l.trans l2, Z, q.2⟩
end
end Lend
namespace Lend
set_option genSizeOf false
set_option genInjectivity false
structure Cx where
  scope : Scope
  N : List Str
  own : List (Nat × Nat)
  frz : List (Nat × List Str)
noncomputable def isVar (k : Option NameKind) : Bool := k == some .local || k == some .cell || k == some .free
noncomputable def cName (C : Cx) (x : Str) : RE :=
  if (x == Str.ofString "__classdict__" || x == ("__debug__" : Str)) = true then .stuck
  else if isVar (C.scope.names.lookup x) = true then (match idxN C.N x with | some i => .loc i | none => .stuck)
  else if C.scope.names.lookup x = some .globalImplicit then .glob x else .stuck
noncomputable def isOwnAt (C : Cx) (p : Pos) : Bool := C.own.any fun q => q.1 == p.line && q.2 == p.col
noncomputable def intC : Const → Option Int
  | .int i => some i
  | _ => none
noncomputable def intE : Expr → Option Int
  | .Constant c _ _ => intC c
  | _ => none
noncomputable def intKeys : List (Option Expr) → Option (List Int)
  | [] => some []
  | k :: r => (k.bind intE).bind fun i => (intKeys r).map (i :: ·)
set_option tactic.hygienic true in
theorem intE_inv {e : Expr} {i : Int} (h : intE e = some i) : ∃ kk kp, e = .Constant (.int i) kk kp := by
  cases e <;> first | exact none_some h | skip
  rename_i c kk kp
  replace h : intC c = some i := h
  cases c <;> first | exact none_some h | (cases h; exact ⟨_, _, rfl⟩)
noncomputable def relabelS (scope outer : Scope) : Scope :=
  { scope with names := scope.names.map fun (n, k) => if (k == .free && outer.kind == .function && outer.names.lookup n == some .cell) then (n, .cell) else (n, k) }
noncomputable def compB (outer scope : Scope) : Bool := decide ((scope.names.map (·.1)).Nodup) && scope.kind == .function && scope.names.all fun p => p.2 != .free || (outer.names.lookup p.1 == some .cell || outer.names.lookup p.1 == some .free)
noncomputable def inner (C : Cx) (scope : Scope) : Cx := { scope := relabelS scope C.scope, N := ownN scope ++ C.N, own := C.own, frz := C.frz }
noncomputable def noSet : Expr → Bool
  | .Set .. => false
  | _ => true
noncomputable def tgIdx (C : Cx) : Expr → Option Nat
  | .Name x _ => if isVar (C.scope.names.lookup x) = true then idxN C.N x else none
  | _ => none
noncomputable def tgIdxs (C : Cx) : List Expr → Option (List Nat)
  | [] => some []
  | e :: r => (tgIdx C e).bind fun i => (tgIdxs C r).map (i :: ·)
noncomputable def asAttr : Expr → Option (Expr × Str × Pos)
  | .Attribute o name p => some (o, name, p)
  | _ => none
theorem asAttr_inv {f o : Expr} {x : Str} {p : Pos} (h : asAttr f = some (o, x, p)) : f = .Attribute o x p := by
  cases f <;> first | exact none_some h | (cases h; rfl)
noncomputable def asName : Expr → Option (Str × Pos)
  | .Name x p => some (x, p)
  | _ => none
theorem asName_inv {f : Expr} {q : Str × Pos} (h : asName f = some q) : f = .Name q.1 q.2 := by
  cases f <;> first | exact none_some h | (cases h; rfl)
noncomputable def asCut : Expr → Option (Expr × Pos)
  | .Slice lo up st p => (match lo with | none => (match st with | none => (match up with | some e => some (e, p) | none => none) | some _ => none) | some _ => none)
  | _ => none
set_option tactic.hygienic true in
theorem asCut_inv {f e : Expr} {p : Pos} (h : asCut f = some (e, p)) : f = .Slice none (some e) none p := by
  cases f <;> first | exact none_some h | skip
  rename_i lo up st p
  cases lo <;> cases st <;> cases up <;> first | exact none_some h | (cases h; rfl)
noncomputable def optE {α : Type} (o : Option α) (r : α → RE) : RE := match o with | some v => r v | none => .stuck
noncomputable def optT {α : Type} (o : Option α) (r : α → RT) : RT := match o with | some v => r v | none => .stuck
mutual
noncomputable def cE : Nat → Cx → Expr → RE
  | 0, _, _ => .stuck
  | n + 1, C, e => match e with
    | .Constant c _ _ => optE (cvC c) .const
    | .Name x _ => cName C x
    | .BoolOp op es _ => (match es with
      | [] => .stuck
      | e :: es => (match op with | .And => .and ((e :: es).map (cE n C)) | .Or => .or ((e :: es).map (cE n C))))
    | .BinOp l op r pos => if (op == .Add && isOwnAt C pos) = true then .cat (cE n C l) (cE n C r) else .bin op (cE n C l) (cE n C r)
    | .UnaryOp op x _ => (match op with | .USub => .neg (cE n C x) | .Not => .not (cE n C x) | .Invert => .stuck | .UAdd => .stuck)
    | .IfExp c a b _ => .ite (cE n C c) (cE n C a) (cE n C b)
    | .List es pos => if es.all noStar = true then .list (isOwnAt C pos) (es.map (cE n C)) else .stuck
    | .Tuple es _ pos => if es.all noStar = true then .tup (es.map (cE n C)) else .stuck
    | .Dict keys values pos => optE (intKeys keys) fun ks => if (decide (ks.length = values.length) && decide (ks.length ≤ 15)) = true then .dict (isOwnAt C pos) ks (values.map (cE n C)) else .stuck
    | .Compare l ops rs _ => (match ops with
      | [] => .stuck
      | op :: ops => (match rs with
        | [] => .stuck
        | a :: rs => (match ops with
          | [] => (match rs with | [] => if behindInMarks op a = false then .cmp op (cE n C l) (cE n C a) else .stuck | _ :: _ => .stuck)
          | op' :: ops => (match ops with
            | [] => (match rs with
              | [] => .stuck
              | b :: rs => (match rs with | [] => if behindInMarks op' b = false then .cmp2 op op' (cE n C l) (cE n C a) (cE n C b) else .stuck | _ :: _ => .stuck))
            | _ :: _ => .stuck))))
    | .Call f args kws pos => (match kws with
      | [] => if (notAttr f && args.all noStar) = true then .call (isOwnAt C pos) (cE n C f) (args.map (cE n C)) else optE (asAttr f) fun p =>
        if (notCall p.1 && args.all noStar && decide (args.length < 30) && p.2.2.endLine == pos.line) = true then .meth (isOwnAt C pos) (cE n C p.1) p.2.1 (args.map (cE n C)) else .stuck
      | _ :: _ => .stuck)
    | .Attribute o name _ => if notCall o = true then .attr (cE n C o) name else .stuck
    | .Subscript v s _ => if isSlice s = false then .sub (cE n C v) (cE n C s) else optE (asName v) fun _ => optE (asCut s) fun p => .cut (cE n C v) (cE n C p.1)
    | .ListComp elt gs scope _ => (match gs with
      | [] => .stuck
      | g :: gs => (match gs with
        | [] => if (g.is_async == 0 && compB C.scope scope && noSet g.iter) = true then
            .lcomp (ownN scope).length (cE n (inner C scope) elt) (cE n C g.iter) (cT n (inner C scope) g.target) (g.ifs.map (cE n (inner C scope))) [] else .stuck
        | g2 :: gs => (match gs with
          | [] => if (g.is_async == 0 && g2.is_async == 0 && compB C.scope scope && noSet g.iter && noSet g2.iter) = true then
              .lcomp (ownN scope).length (cE n (inner C scope) elt) (cE n C g.iter) (cT n (inner C scope) g.target) (g.ifs.map (cE n (inner C scope)))
                [.mk (cE n (inner C scope) g2.iter) (cT n (inner C scope) g2.target) (g2.ifs.map (cE n (inner C scope)))] else .stuck
          | _ :: _ => .stuck)))
    | .DictComp k v gs scope _ => (match gs with
      | [] => .stuck
      | g :: gs => (match gs with
        | [] => if (g.is_async == 0 && compB C.scope scope && noSet g.iter) = true then
            .dcomp (ownN scope).length (cE n (inner C scope) k) (cE n (inner C scope) v) (cE n C g.iter) (cT n (inner C scope) g.target) (g.ifs.map (cE n (inner C scope))) else .stuck
        | _ :: _ => .stuck))
    | _ => .stuck
noncomputable def cT : Nat → Cx → Expr → RT
  | 0, _, _ => .stuck
  | n + 1, C, e => match e with
    | .Name x p => optT (tgIdx C (.Name x p)) .name
    | .Tuple es _ _ => optT (tgIdxs C es) .tup
    | .Attribute o name _ => .attr (cE n C o) name
    | .Subscript o i _ => .sub (cE n C o) (cE n C i)
    | _ => .stuck
end
section
variable {B : Bs} {G : Gl} {lv m : Nat} {F S : Store} {A : Around} {f g T T' : Fz} {s : Shared} {env : Env} {ρ : Rho}
noncomputable def ESnd (B : Bs) (G : Gl) (lv : Nat) (C : Cx) (e : Expr) (r : RE) : Prop := ∀ env ρ S Q, EnvW env → env.scope = C.scope → wpE G r ρ S Q → EOk B lv (FrL env C.N ρ) S (eval e env) Q
noncomputable def TSnd (B : Bs) (G : Gl) (lv : Nat) (C : Cx) (e : Expr) (r : RE) : Prop := ∀ env ρ S Q, EnvW env → env.scope = C.scope → wpT G r ρ S Q → TOk B lv (FrL env C.N ρ) S (isTrue e env (eval e env)) Q
noncomputable def ASnd (B : Bs) (G : Gl) (lv : Nat) (C : Cx) (e : Expr) (r : RT) : Prop := ∀ env ρ S x Q, EnvW env → env.scope = C.scope → wpAsg G r x ρ S Q → AOk B lv env C.N ρ S (assign e env) x Q
theorem wpT_of {r : RE} {ρ : Rho} {S : Store} {Q : Bool → Store → Prop} : wpT G r ρ S Q = wpE G r ρ S (fun x S1 => (match truth x with | some b => Q b S1 | none => False)) := by
  rfl
theorem TOk.mono {t : Sem Bool} {Q Q' : Bool → Store → Prop} (h : TOk B lv F S t Q) (k : ∀ x S, Q x S → Q' x S) : TOk B lv F S t Q' := fun A f T s R X =>
  wpAny_mono (h A f T s R X) (fun _ _ p => p.mono (Fz.le.refl f) k) fun _ _ e => e
theorem isVar_or {k : Option NameKind} (h : isVar k = true) : k = some .local ∨ k = some .cell ∨ k = some .free := by
  unfold isVar at h
  simpa [or_assoc] using h
set_option tactic.hygienic true in
theorem name_snd (BO : B.Ok) (GO : GlOk B G) {C : Cx} {x : Str} {p : Pos} : ESnd B G lv C (.Name x p) (cName C x) := by
  intro env ρ S Q W hs h
  have hk : ∀ k, C.scope.names.lookup x = k → env.kindOf x = k := fun k e => by unfold Env.kindOf; rw [hs]; exact e
  unfold cName at h
  split at h
  · exact False.elim h
  · rename_i hd
    simp only [Bool.or_eq_true, not_or, Bool.not_eq_true] at hd
    split at h
    · rename_i hv
      have hv' := isVar_or hv
      rw [← hk _ rfl] at hv'
      cases hi : idxN C.N x with
      | none => rw [hi] at h; exact False.elim h
      | some i =>
        rw [hi] at h
        replace h : (match nth ρ i with | some v => Q v S | none => False) := h
        cases hV : nth ρ i with
        | none => rw [hV] at h; exact False.elim h
        | some V => rw [hV] at h; exact name_ok W hv' hi (nth_get hV) hd.1 hd.2 h
    · split at h
      · rename_i hg
        replace h : (match G.gl x with | some v => Q v S | _ => False) := h
        cases hV : G.gl x with
        | none => rw [hV] at h; exact False.elim h
        | some V => rw [hV] at h; exact fun _ _ _ _ _ X => glob_rule BO GO W _ X (hk _ hg) hV hd.2 h
      · exact False.elim h
theorem items_snd {C : Cx} {n : Nat} (ih : ∀ e, ESnd B G lv C e (cE n C e)) (W : EnvW env) (hs : env.scope = C.scope) {pos : Pos} : ∀ {es : List Expr} {S : Store} {Q : List CV → Store → Prop}, es.all noStar = true → wpEs G (es.map (cE n C)) ρ S Q → LOk B lv (FrL env C.N ρ) S (spliced (backTo pos (starEach es env))) Q
  | [], S, Q, _, h => items_nil h
  | e :: es, S, Q, hn, h => by
    rw [List.all_cons, Bool.and_eq_true] at hn
    replace h : wpE G (cE n C _) ρ S _ := h
    exact items_cons hn.1 ((ih e env ρ S _ W hs h).mono fun x S1 h1 => items_snd ih W hs hn.2 h1)
set_option tactic.hygienic true in
theorem and_snd {C : Cx} {n : Nat} (ih : ∀ e, ESnd B G lv C e (cE n C e)) (W : EnvW env) (hs : env.scope = C.scope) {pos : Pos} {K : Bool → Store → Prop} {Q : CV → Store → Prop} (hK : ∀ b S, K b S → Q (.bool b) S) :
    ∀ {es : List Expr} {e : Expr} {S : Store}, wpB G true ((e :: es).map (cE n C)) ρ S K → EOk B lv (FrL env C.N ρ) S (eval (.BoolOp .And (e :: es) pos) env) Q
  | [], e, S, h => by
    replace h : wpE G (cE n C _) ρ S _ := h
    exact bool_one hK (all := true) (ih e env ρ S _ W hs h)
  | e2 :: es, e, S, h => by
    replace h : wpE G (cE n C _) ρ S _ := h
    refine and_more hK ((ih e env ρ S _ W hs h).mono fun x S1 h1 => ?_)
    rcases hb : truth x with _ | b
    · rw [hb] at h1; exact h1.elim
    · rw [hb] at h1
      dsimp only at h1 ⊢
      split at h1
      · rename_i e1; rw [if_pos e1]; exact and_snd ih W hs hK h1
      · rename_i e1; rw [if_neg e1]; exact h1
set_option tactic.hygienic true in
theorem or_snd {C : Cx} {n : Nat} (ih : ∀ e, ESnd B G lv C e (cE n C e)) (W : EnvW env) (hs : env.scope = C.scope) {pos : Pos} {K : Bool → Store → Prop} {Q : CV → Store → Prop} (hK : ∀ b S, K b S → Q (.bool b) S) :
    ∀ {es : List Expr} {e : Expr} {S : Store}, wpB G false ((e :: es).map (cE n C)) ρ S K → EOk B lv (FrL env C.N ρ) S (eval (.BoolOp .Or (e :: es) pos) env) Q
  | [], e, S, h => by
    replace h : wpE G (cE n C _) ρ S _ := h
    exact bool_one hK (all := false) (ih e env ρ S _ W hs h)
  | e2 :: es, e, S, h => by
    replace h : wpE G (cE n C _) ρ S _ := h
    refine or_more hK ((ih e env ρ S _ W hs h).mono fun x S1 h1 => ?_)
    rcases hb : truth x with _ | b
    · rw [hb] at h1; exact h1.elim
    · rw [hb] at h1
      dsimp only at h1 ⊢
      split at h1
      · rename_i e1; rw [if_pos e1]; exact or_snd ih W hs hK h1
      · rename_i e1; rw [if_neg e1]; exact h1
theorem t_and_snd {C : Cx} {n : Nat} (ih : ∀ e, TSnd B G lv C e (cE n C e)) (W : EnvW env) (hs : env.scope = C.scope) {pos : Pos} {w : Sem Value} {K : Bool → Store → Prop} :
    ∀ {es : List Expr} {S : Store}, wpB G true (es.map (cE n C)) ρ S K → TOk B lv (FrL env C.N ρ) S (isTrue (.BoolOp .And es pos) env w) K
  | [], S, h => t_and_nil h
  | e :: es, S, h => by
    replace h : wpE G (cE n C _) ρ S _ := h
    have h' : wpT G (cE n C e) ρ S fun b S1 => if b = true then wpB G true (es.map (cE n C)) ρ S1 K else K (!true) S1 := by rw [wpT_of]; exact h
    refine t_and (TOk.mono (ih e env ρ S _ W hs h') fun b S1 h1 => ?_)
    cases b
    · exact h1
    · exact t_and_snd ih W hs h1
theorem t_or_snd {C : Cx} {n : Nat} (ih : ∀ e, TSnd B G lv C e (cE n C e)) (W : EnvW env) (hs : env.scope = C.scope) {pos : Pos} {w : Sem Value} {K : Bool → Store → Prop} :
    ∀ {es : List Expr} {S : Store}, wpB G false (es.map (cE n C)) ρ S K → TOk B lv (FrL env C.N ρ) S (isTrue (.BoolOp .Or es pos) env w) K
  | [], S, h => t_or_nil h
  | e :: es, S, h => by
    replace h : wpE G (cE n C _) ρ S _ := h
    have h' : wpT G (cE n C e) ρ S fun b S1 => if b = false then wpB G false (es.map (cE n C)) ρ S1 K else K (!false) S1 := by rw [wpT_of]; exact h
    refine t_or (TOk.mono (ih e env ρ S _ W hs h') fun b S1 h1 => ?_)
    cases b
    · exact t_or_snd ih W hs h1
    · exact h1
theorem tests_snd {C : Cx} {n : Nat} (ih : ∀ e, TSnd B G lv C e (cE n C e)) (W : EnvW env) (hs : env.scope = C.scope) : ∀ {ifs : List Expr} {S : Store} {Q : Bool → Store → Prop}, wpTs G (ifs.map (cE n C)) ρ S Q → TsOk B lv (FrL env C.N ρ) S env ifs Q
  | [], S, Q, h => h
  | e :: r, S, Q, h => by
    replace h : wpE G (cE n C _) ρ S _ := h
    refine TOk.mono (ih e env ρ S _ W hs h) fun b S1 h1 => ?_
    cases b
    · exact h1
    · exact tests_snd ih W hs h1
theorem intKeys_nil {keys : List (Option Expr)} (h : intKeys keys = some []) : keys = [] := by
  rcases keys with _ | ⟨k, r⟩
  · rfl
  · obtain ⟨i, _, h⟩ := Option.bind_eq_some_iff.mp h
    obtain ⟨_, _, e⟩ := Option.map_eq_some_iff.mp h
    cases e
theorem keys_shape (env : Env) (pos : Pos) : ∀ {keys : List (Option Expr)} {values : List Expr} {ks : List Int}, intKeys keys = some ks → ks.length = values.length →
    ∃ pairs : List (Sem Value × Sem Value), (evalEachOpt keys env).zip ((evalEach values env).map fun v => do let x ← v; standAt pos; pure x) = pairs.map (fun p => (some p.1, p.2)) ∧ pairs.length = ks.length ∧
      ∀ (C : Cx) (n : Nat) ρ S (Q : List (Int × CV) → Store → Prop), (∀ e, ESnd B G lv C e (cE n C e)) → EnvW env → env.scope = C.scope → wpEs G (values.map (cE n C)) ρ S (fun xs S1 => Q (ks.zip xs) S1) → POk B lv (FrL env C.N ρ) S (evalPairs pairs) Q
  | [], [], ks, h, hl => by
    cases h
    exact ⟨[], rfl, rfl, fun C n ρ S Q ih W hs h => pairs_nil h⟩
  | [], _ :: _, ks, h, hl => by cases h; simp at hl
  | k :: keys, values, ks, h, hl => by
    obtain ⟨i, hi, h⟩ := Option.bind_eq_some_iff.mp h
    obtain ⟨e, rfl, hi⟩ := Option.bind_eq_some_iff.mp hi
    obtain ⟨kk, kp, rfl⟩ := intE_inv hi
    obtain ⟨ks', h', rfl⟩ := Option.map_eq_some_iff.mp h
    rcases values with _ | ⟨v, values⟩
    · simp at hl
    · obtain ⟨pairs, e1, e2, e3⟩ := keys_shape env pos (values := values) h' (by simpa using hl)
      refine ⟨(eval (.Constant (.int i) kk kp) env, (do let x ← eval v env; standAt pos; pure x)) :: pairs, ?_, by simp [e2], fun C n ρ S Q ih W hs h => ?_⟩
      · show _ :: (evalEachOpt _ env).zip ((evalEach values env).map _) = _
        rw [e1]; rfl
      · replace h : wpE G (cE n C _) ρ S _ := h
        refine pairs_cons ((ih v env ρ S _ W hs h).mono fun x S1 h1 => ?_)
        exact e3 C n ρ S1 _ ih W hs h1
theorem tgIdx_name {C : Cx} {x : Str} {p : Pos} {i : Nat} (h : tgIdx C (.Name x p) = some i) : isVar (C.scope.names.lookup x) = true ∧ idxN C.N x = some i := by
  replace h : (if isVar (C.scope.names.lookup x) = true then idxN C.N x else none) = some i := h
  by_cases hv : isVar (C.scope.names.lookup x) = true
  · rw [if_pos hv] at h; exact ⟨hv, h⟩
  · rw [if_neg hv] at h; cases h
theorem tgIdx_inv {C : Cx} {e : Expr} {i : Nat} (h : tgIdx C e = some i) : ∃ x p, e = .Name x p := by
  cases e <;> first | exact none_some h | exact ⟨_, _, rfl⟩
theorem tg_sets {C : Cx} (W : EnvW env) (hs : env.scope = C.scope) : ∀ {es : List Expr} {is : List Nat}, tgIdxs C es = some is → AllSets B env C.N ((assignEach es env).map (·.2)) is ∧ (assignEach es env).findIdx? (·.1) = none
  | [], is, h => by cases h; exact ⟨.nil, rfl⟩
  | e :: r, is, h => by
    obtain ⟨i, hi, h⟩ := Option.bind_eq_some_iff.mp h
    obtain ⟨js, hj, rfl⟩ := Option.map_eq_some_iff.mp h
    obtain ⟨a, b⟩ := tg_sets W hs (es := r) hj
    obtain ⟨x, p, rfl⟩ := tgIdx_inv hi
    obtain ⟨hv, hi⟩ := tgIdx_name hi
    have hv' : env.kindOf x = some .local ∨ env.kindOf x = some .cell ∨ env.kindOf x = some .free := by unfold Env.kindOf; rw [hs]; exact isVar_or hv
    refine ⟨.cons (sets_name W hv' hi) a, ?_⟩
    show List.findIdx? _ ((false, assign (.Name x p) env) :: assignEach r env) = none
    rw [List.findIdx?_cons, b]; rfl
end
end Lend
namespace Lend
section
variable {B : Bs} {G : Gl} {lv m : Nat} {F S : Store} {A : Around} {f g T T' : Fz} {s : Shared} {env : Env} {ρ : Rho}
noncomputable def leafL (G : Gl) (elt : RE) : Rho → Store → List CV → (Rho → Store → List CV → Prop) → Prop := fun ρ S acc Q => wpE G elt ρ S fun v S' => acc.length ≤ small ∧ Q ρ S' (acc ++ [v])
noncomputable def leafD (G : Gl) (key val : RE) : Rho → Store → List (Int × CV) → (Rho → Store → List (Int × CV) → Prop) → Prop := fun ρ S acc Q =>
  wpE G key ρ S fun kv S3 => wpE G val ρ S3 fun v S4 => (match kv with | .int j => acc.length ≤ small ∧ Q ρ S4 (putK acc j v) | _ => False)
theorem noSet_fold {e : Expr} (h : noSet e = true) (x : Value) : foldedSetIterable e env x = pure x := by
  cases e <;> first | rfl | cases h
theorem inner_scope {C : Cx} {scope : Scope} {cenv : Env} (hs : env.scope = C.scope) (hc : cenv.scope = relabel scope env) : cenv.scope = (inner C scope).scope := by
  rw [hc]
  show relabelS scope env.scope = relabelS scope C.scope
  rw [hs]
structure Ih (B : Bs) (G : Gl) (lv n : Nat) : Prop where
  e : ∀ C e, ESnd B G lv C e (cE n C e)
  t : ∀ C e, TSnd B G lv C e (cE n C e)
  a : ∀ C e, ASnd B G lv C e (cT n C e)
theorem leafL_ok {C : Cx} {n : Nat} (ih : Ih B G lv n) {elt : Expr} (W : EnvW env) (hs : env.scope = C.scope) {D : Addr} {acc : List CV} {Q : Rho → Store → List CV → Prop} (h : leafL G (cE n C elt) ρ S acc Q) :
    IOk B lv (accL B) D env C.N ρ S acc (emitL elt (.ref D) env) Q := emitL_ok G (ih.e C elt env ρ S _ W hs h)
theorem compK_L1 {C : Cx} {n : Nat} (ih : Ih B G lv n) (hs : env.scope = C.scope) {elt t iter : Expr} {ifs : List Expr} {scope : Scope} {pos : Pos} :
    CompK B lv (accL B) [] (.ListComp elt [⟨t, iter, ifs, 0⟩] scope pos) scope env C.N (fun x items ρ S a Q => compW (stays S x) (turnW (wpAsg G (cT n (inner C scope) t)) (wpTs G (ifs.map (cE n (inner C scope)))) (wpGs G [] (leafL G (cE n (inner C scope) elt)))) items ρ S a Q) := by
  intro A R cenv W hc x items ρ S f T s o I D Q hx w X it
  have hs' := inner_scope hs hc
  refine start_rule rfl rfl ⟨_, _, _, _, .inl rfl⟩ it ?_
  refine loop_rule (N := (inner C scope).N) (Q := Q) rfl ⟨_, _, _, _, .inl rfl⟩ (turn_L1 ..) (gd := stays S x) (fun S' hS => by rw [stays_iter hS, hx]) (fun y ρ S Q h => ih.a _ t cenv ρ S y Q W hs' h) (fun ρ S Q h => tests_ok (tests_snd (ih.t _) W hs' h)) (fun ρ S a Q h => ?_) R 0 ρ S [] f T s o (Nat.zero_le _) hx X it (by rw [List.drop_zero]; exact w)
  exact leafL_ok ih W hs' h
theorem compK_L2 {C : Cx} {n : Nat} (ih : Ih B G lv n) (hs : env.scope = C.scope) {elt t iter t2 iter2 : Expr} {ifs ifs2 : List Expr} {scope : Scope} {pos : Pos} (h2 : noSet iter2 = true) :
    CompK B lv (accL B) [] (.ListComp elt [⟨t, iter, ifs, 0⟩, ⟨t2, iter2, ifs2, 0⟩] scope pos) scope env C.N (fun x items ρ S a Q => compW (stays S x) (turnW (wpAsg G (cT n (inner C scope) t)) (wpTs G (ifs.map (cE n (inner C scope))))
      (wpGs G [.mk (cE n (inner C scope) iter2) (cT n (inner C scope) t2) (ifs2.map (cE n (inner C scope)))] (leafL G (cE n (inner C scope) elt)))) items ρ S a Q) := by
  intro A R cenv W hc x items ρ S f T s o I D Q hx w X it
  have hs' := inner_scope hs hc
  refine start_rule rfl rfl ⟨_, _, _, _, .inl rfl⟩ it ?_
  refine loop_rule (N := (inner C scope).N) (Q := Q) rfl ⟨_, _, _, _, .inl rfl⟩ (turn_L2 ..) (gd := stays S x) (fun S' hS => by rw [stays_iter hS, hx]) (fun y ρ S Q h => ih.a _ t cenv ρ S y Q W hs' h) (fun ρ S Q h => tests_ok (tests_snd (ih.t _) W hs' h)) (fun ρ S a Q h => ?_) R 0 ρ S [] f T s o (Nat.zero_le _) hx X it (by rw [List.drop_zero]; exact w)
  refine inner_ok (asg := wpAsg G (cT n (inner C scope) t2)) (tests := wpTs G (ifs2.map (cE n (inner C scope)))) (leaf := wpGs G [] (leafL G (cE n (inner C scope) elt))) ⟨_, _, _, _, .inl rfl⟩ rfl (fun x => noSet_fold h2 x) (fun I => turn_L3 ..) (fun y ρ S Q h => ih.a _ t2 cenv ρ S y Q W hs' h) (fun ρ S Q h => tests_snd (ih.t _) W hs' h) (fun ρ S a Q h => ?_) (ih.e _ iter2 cenv ρ S _ W hs' h)
  exact leafL_ok ih W hs' h
theorem compK_D1 {C : Cx} {n : Nat} (ih : Ih B G lv n) (hs : env.scope = C.scope) {k v t iter : Expr} {ifs : List Expr} {scope : Scope} {pos : Pos} :
    CompK B lv (accD B) [] (.DictComp k v [⟨t, iter, ifs, 0⟩] scope pos) scope env C.N (fun x items ρ S a Q => compW (stays S x) (turnW (wpAsg G (cT n (inner C scope) t)) (wpTs G (ifs.map (cE n (inner C scope)))) (leafD G (cE n (inner C scope) k) (cE n (inner C scope) v))) items ρ S a Q) := by
  intro A R cenv W hc x items ρ S f T s o I D Q hx w X it
  have hs' := inner_scope hs hc
  refine start_rule rfl rfl ⟨_, _, _, _, .inr ⟨_, rfl⟩⟩ it ?_
  refine loop_rule (N := (inner C scope).N) (Q := Q) rfl ⟨_, _, _, _, .inr ⟨_, rfl⟩⟩ (turn_D1 ..) (gd := stays S x) (fun S' hS => by rw [stays_iter hS, hx]) (fun y ρ S Q h => ih.a _ t cenv ρ S y Q W hs' h) (fun ρ S Q h => tests_ok (tests_snd (ih.t _) W hs' h)) (fun ρ S a Q h => ?_) R 0 ρ S [] f T s o (Nat.zero_le _) hx X it (by rw [List.drop_zero]; exact w)
  exact emitD_ok ((ih.e _ k cenv ρ S _ W hs' h).mono fun kv S1 h1 => ih.e _ v cenv ρ S1 _ W hs' h1)
theorem compB_N {C : Cx} {scope : Scope} (hs : env.scope = C.scope) (h : compB C.scope scope = true) : CompN env.kindOf scope := by
  unfold compB at h
  simp only [Bool.and_eq_true, decide_eq_true_eq, List.all_eq_true] at h
  obtain ⟨⟨h1, h2⟩, h3⟩ := h
  refine ⟨h1, by simpa using h2, fun p hp hf => ?_⟩
  have := h3 p hp
  unfold Env.kindOf
  rw [hs]
  rw [hf] at this
  simpa using this
theorem lcomp_h {C : Cx} {n : Nat} {k : Nat} {elt it : RE} {t : RT} {ifs : List RE} {gs : List RG} {Q : CV → Store → Prop} (h : wpE G (.lcomp k elt it t ifs gs) ρ S Q) :
    wpE G it ρ S fun x S1 => match iterX S1 x with | some items => (fun x items ρ S a Q => compW (stays S x) (turnW (wpAsg G t) (wpTs G ifs) (wpGs G gs (leafL G elt))) items ρ S a Q) x items (List.replicate k none ++ ρ) S1 [] (fun ρ' S' a' => ρ'.drop k = ρ ∧ Q (.flist a') S') | none => False := by
  exact h
theorem dcomp_h {C : Cx} {n : Nat} {k : Nat} {key val it : RE} {t : RT} {ifs : List RE} {Q : CV → Store → Prop} (h : wpE G (.dcomp k key val it t ifs) ρ S Q) :
    wpE G it ρ S fun x S1 => match iterX S1 x with | some items => (fun x items ρ S a Q => compW (stays S x) (turnW (wpAsg G t) (wpTs G ifs) (leafD G key val)) items ρ S a Q) x items (List.replicate k none ++ ρ) S1 [] (fun ρ' S' a' => ρ'.drop k = ρ ∧ Q (.fdict a') S') | none => False := by
  exact h
theorem ih_zero : Ih B G lv 0 where
  e := fun C e env ρ S Q W hs h => False.elim h
  t := fun C e env ρ S Q W hs h => False.elim h
  a := fun C e env ρ S x Q W hs h => False.elim h
theorem wp_if {c : Prop} [Decidable c] {a : RE} {Q : CV → Store → Prop} (h : wpE G (if c then a else .stuck) ρ S Q) : c ∧ wpE G a ρ S Q := by
  by_cases hc : c
  · rw [if_pos hc] at h; exact ⟨hc, h⟩
  · rw [if_neg hc] at h; exact False.elim h
theorem wp_ite {c : Prop} [Decidable c] {a b : RE} {Q : CV → Store → Prop} (h : wpE G (if c then a else b) ρ S Q) : (c ∧ wpE G a ρ S Q) ∨ (¬ c ∧ wpE G b ρ S Q) := by
  by_cases hc : c
  · rw [if_pos hc] at h; exact .inl ⟨hc, h⟩
  · rw [if_neg hc] at h; exact .inr ⟨hc, h⟩
theorem wp_opt {α : Type} {o : Option α} {r : α → RE} {Q : CV → Store → Prop} (h : wpE G (optE o r) ρ S Q) : ∃ v, o = some v ∧ wpE G (r v) ρ S Q := by
  rcases o with _ | v
  · exact False.elim h
  · exact ⟨v, rfl, h⟩
theorem wp_optT {α : Type} {o : Option α} {r : α → RT} {x : CV} {Q : Rho → Store → Prop} (h : wpAsg G (optT o r) x ρ S Q) : ∃ v, o = some v ∧ wpAsg G (r v) x ρ S Q := by
  rcases o with _ | v
  · exact False.elim h
  · exact ⟨v, rfl, h⟩
theorem a_succ {n : Nat} (BO : B.Ok) (GO : GlOk B G) (ih : Ih B G lv n) (C : Cx) (e : Expr) : ASnd B G lv C e (cT (n + 1) C e) := by
  intro env ρ S x Q W hs h
  cases e with
  | Name y p =>
    obtain ⟨i, hi, h⟩ := wp_optT h
    have hi := tgIdx_name hi
    have hv' : env.kindOf y = some .local ∨ env.kindOf y = some .cell ∨ env.kindOf y = some .free := by unfold Env.kindOf; rw [hs]; exact isVar_or hi.1
    exact a_name W hv' hi.2 h
  | Tuple es k p =>
    obtain ⟨is, hi, h⟩ := wp_optT h
    obtain ⟨a, b⟩ := tg_sets (B := B) W hs hi
    exact a_tup a b h
  | Attribute o nm p => exact a_attr BO GO (ih.e C _ env ρ S _ W hs h)
  | Subscript o i p => exact a_sub ((ih.e C _ env ρ S _ W hs h).mono fun x S1 h1 => ih.e C _ env ρ S1 _ W hs h1)
  | _ => exact False.elim h
end
end Lend
namespace Lend
section
variable {B : Bs} {G : Gl} {lv m : Nat} {F S : Store} {A : Around} {f g T T' : Fz} {s : Shared} {env : Env} {ρ : Rho}
structure Hyp (B : Bs) (G : Gl) (m : Nat) : Prop where
  bo : B.Ok
  go : GlOk B G
  mo : MtOk B G
  fo : FnsOk B G m
theorem lcomp_ev {C : Cx} {k : Nat} {elt it : RE} {t : RT} {ifs : List RE} {gs : List RG} {e : Expr} {scope : Scope} {pos : Pos} {gc : Comprehension} {gcs : List Comprehension} {Q : CV → Store → Prop} (BO : B.Ok) (W : EnvW env) (hs : env.scope = C.scope) (hb : compB C.scope scope = true)
    (hcl : clausesOf e = gc :: gcs) (hns : noSet gc.iter = true) (hk : k = (ownN scope).length)
    (hK : CompK B lv (accL B) [] e scope env C.N (fun x items ρ S a Q => compW (stays S x) (turnW (wpAsg G t) (wpTs G ifs) (wpGs G gs (leafL G elt))) items ρ S a Q))
    (hi : ∀ S Q, wpE G it ρ S Q → EOk B lv (FrL env C.N ρ) S (eval gc.iter env) Q)
    (h : wpE G (.lcomp k elt it t ifs gs) ρ S Q) : EOk B lv (FrL env C.N ρ) S (comprehension e scope env pos (newList []) false (eval gc.iter env)) Q := by
  subst hk
  exact comp_eval (val := .flist) BO W (compB_N hs hb) hcl (fun x => noSet_fold hns x) (fun A s R h => newList_acc s R h) (fun f T D a X s x => freezeL x) hK (hi _ _ (lcomp_h (C := C) (n := 0) h))
theorem dcomp_ev {C : Cx} {k : Nat} {key val it : RE} {t : RT} {ifs : List RE} {e : Expr} {scope : Scope} {pos : Pos} {gc : Comprehension} {gcs : List Comprehension} {Q : CV → Store → Prop} (BO : B.Ok) (W : EnvW env) (hs : env.scope = C.scope) (hb : compB C.scope scope = true)
    (hcl : clausesOf e = gc :: gcs) (hns : noSet gc.iter = true) (hk : k = (ownN scope).length)
    (hK : CompK B lv (accD B) [] e scope env C.N (fun x items ρ S a Q => compW (stays S x) (turnW (wpAsg G t) (wpTs G ifs) (leafD G key val)) items ρ S a Q))
    (hi : ∀ S Q, wpE G it ρ S Q → EOk B lv (FrL env C.N ρ) S (eval gc.iter env) Q)
    (h : wpE G (.dcomp k key val it t ifs) ρ S Q) : EOk B lv (FrL env C.N ρ) S (comprehension e scope env pos newDict false (eval gc.iter env)) Q := by
  subst hk
  exact comp_eval (val := .fdict) BO W (compB_N hs hb) hcl (fun x => noSet_fold hns x) (fun A s R h => newDict_acc s R h) (fun f T D a X s x => freezeD x) hK (hi _ _ (dcomp_h (C := C) (n := 0) h))
set_option tactic.hygienic true in
theorem e_succ {n : Nat} (H : Hyp B G m) (hm : m ≤ lv + 2) (ih : Ih B G (lv + 2) n) (C : Cx) (e : Expr) : ESnd B G (lv + 2) C e (cE (n + 1) C e) := by
  intro env ρ S Q W hs h
  cases e with
  | Constant c k p =>
    obtain ⟨v, hv, h⟩ := wp_opt h
    exact const_ok hv h
  | Name x p => exact name_snd H.bo H.go env ρ S Q W hs h
  | BoolOp op es p =>
    rcases es with _ | ⟨e, es⟩
    · exact False.elim h
    · cases op with
      | And => exact and_snd (ih.e C) W hs (K := fun b S' => Q (.bool b) S') (fun _ _ q => q) h
      | Or => exact or_snd (ih.e C) W hs (K := fun b S' => Q (.bool b) S') (fun _ _ q => q) h
  | BinOp l op r pos =>
    rcases wp_ite h with ⟨hb, h'⟩ | ⟨hb, h'⟩ <;> (clear h; have h := h'; clear h')
    · rw [Bool.and_eq_true] at hb
      have hop := eq_of_beq hb.1
      subst hop
      exact cat_ok ((ih.e C _ env ρ S _ W hs h).mono fun x S1 h1 => (ih.e C _ env ρ S1 _ W hs h1).mono fun y S2 h2 => by
        split at h2
        · exact h2
        · exact h2.elim)
    · exact bin_ok ((ih.e C _ env ρ S _ W hs h).mono fun x S1 h1 => ih.e C _ env ρ S1 _ W hs h1)
  | UnaryOp op x p =>
    cases op with
    | USub => exact neg_ok (ih.e C _ env ρ S _ W hs h)
    | Not => exact not_ok (ih.e C _ env ρ S _ W hs h)
    | Invert => exact False.elim h
    | UAdd => exact False.elim h
  | IfExp c a b p =>
    have h' : wpT G (cE n C c) ρ S fun t S1 => if t = true then wpE G (cE n C a) ρ S1 Q else wpE G (cE n C b) ρ S1 Q := by rw [wpT_of]; exact h
    refine ite_ok (TOk.mono (ih.t C _ env ρ S _ W hs h') fun b S1 h1 => ?_)
    cases b
    · exact ih.e C _ env ρ S1 _ W hs h1
    · exact ih.e C _ env ρ S1 _ W hs h1
  | List es pos =>
    obtain ⟨hn, h⟩ := wp_if h
    exact list_ok (items_snd (ih.e C) W hs hn h)
  | Tuple es k pos =>
    obtain ⟨hn, h⟩ := wp_if h
    exact tup_ok (items_snd (ih.e C) W hs hn h)
  | Dict keys values pos =>
    obtain ⟨ks, hks, h⟩ := wp_opt h
    obtain ⟨hl, h⟩ := wp_if h
    rw [Bool.and_eq_true, decide_eq_true_eq, decide_eq_true_eq] at hl
    obtain ⟨hl, hl15⟩ := hl
    obtain ⟨pairs, e1, e2, e3⟩ := keys_shape (B := B) (G := G) (lv := lv + 2) env pos hks hl
    by_cases h0 : ks = []
    · subst h0
      have hv0 : values = [] := List.length_eq_zero_iff.mp hl.symm
      subst hv0
      have hk0 := intKeys_nil hks
      subst hk0
      exact dict_nil H.bo h
    · exact dict_ok (own := isOwnAt C pos) H.bo e1 (by rintro rfl; exact h0 (List.length_eq_zero_iff.mp e2.symm)) (by rw [e2]; exact hl15) (e3 C n ρ S (fun kvs S1 => newDictW (isOwnAt C pos) (mergeK [] kvs) S1 Q) (ih.e C) W hs h)
  | Compare l ops rs p =>
    rcases ops with _ | ⟨op, ops⟩
    · exact False.elim h
    · rcases rs with _ | ⟨a, rs⟩
      · exact False.elim h
      · rcases ops with _ | ⟨op', ops⟩
        · rcases rs with _ | ⟨_, _⟩
          · obtain ⟨hb, h⟩ := wp_if h
            exact cmp_ok hb ((ih.e C _ env ρ S _ W hs h).mono fun x S1 h1 => ih.e C _ env ρ S1 _ W hs h1)
          · exact False.elim h
        · rcases ops with _ | ⟨_, _⟩
          · rcases rs with _ | ⟨b, rs⟩
            · exact False.elim h
            · rcases rs with _ | ⟨_, _⟩
              · obtain ⟨hb, h⟩ := wp_if h
                refine cmp2_ok hb ((ih.e C _ env ρ S _ W hs h).mono fun x S1 h1 => (ih.e C _ env ρ S1 _ W hs h1).mono fun y S2 h2 => ?_)
                split at h2
                · rename_i e1; first | (rw [e1]; exact ih.e C _ env ρ S2 _ W hs h2) | exact ih.e C _ env ρ S2 _ W hs h2
                · rename_i e1; first | (rw [e1]; exact h2) | exact h2
                · exact h2.elim
              · exact False.elim h
          · exact False.elim h
  | Call f args kws pos =>
    rcases kws with _ | ⟨_, _⟩
    · rcases wp_ite h with ⟨hb, h⟩ | ⟨hb, h⟩
      · rw [Bool.and_eq_true] at hb
        exact call_ok H.bo H.fo hm hb.1 hb.2 ((ih.e C _ env ρ S _ W hs h).mono fun x S1 h1 => items_snd (ih.e C) W hs hb.2 h1)
      · obtain ⟨⟨o, name, apos⟩, ha, h⟩ := wp_opt h
        obtain rfl := asAttr_inv ha
        obtain ⟨hb, h⟩ := wp_if h
        rw [Bool.and_eq_true, Bool.and_eq_true, Bool.and_eq_true, decide_eq_true_eq] at hb
        obtain ⟨⟨⟨b1, b2⟩, b3⟩, b4⟩ := hb
        exact meth_ok H.bo H.mo H.fo hm b1 b2 b3 b4 ((ih.e C _ env ρ S _ W hs h).mono fun x S1 h1 => ⟨h1.1, items_snd (ih.e C) W hs b2 h1.2⟩)
    · exact False.elim h
  | Attribute o nm p =>
    obtain ⟨hb, h⟩ := wp_if h
    exact attr_ok H.bo H.go hb (ih.e C _ env ρ S _ W hs h)
  | Subscript v s p =>
    rcases wp_ite h with ⟨hb, h⟩ | ⟨hb, h⟩
    · exact sub_ok H.bo H.go hb ((ih.e C _ env ρ S _ W hs h).mono fun x S1 h1 => ih.e C _ env ρ S1 _ W hs h1)
    · obtain ⟨⟨x, q⟩, hv, h⟩ := wp_opt h
      obtain ⟨⟨hi, r⟩, hc, h⟩ := wp_opt h
      obtain rfl := asName_inv hv
      obtain rfl := asCut_inv hc
      exact cut_ok ((ih.e C _ env ρ S _ W hs h).mono fun x S1 h1 => ih.e C _ env ρ S1 _ W hs h1)
  | ListComp elt gs scope p =>
    rcases gs with _ | ⟨g, gs⟩
    · exact False.elim h
    · obtain ⟨t, it, ifs, as⟩ := g
      rcases gs with _ | ⟨g2, gs⟩
      · obtain ⟨hb, h⟩ := wp_if h
        rw [Bool.and_eq_true, Bool.and_eq_true] at hb
        obtain rfl := eq_of_beq hb.1.1
        exact lcomp_ev H.bo W hs hb.1.2 rfl hb.2 rfl (compK_L1 ih hs) (fun S Q h => ih.e C _ env ρ S Q W hs h) h
      · obtain ⟨t2, it2, ifs2, as2⟩ := g2
        rcases gs with _ | ⟨_, _⟩
        · obtain ⟨hb, h⟩ := wp_if h
          rw [Bool.and_eq_true, Bool.and_eq_true, Bool.and_eq_true, Bool.and_eq_true] at hb
          obtain rfl := eq_of_beq hb.1.1.1.1
          obtain rfl := eq_of_beq hb.1.1.1.2
          exact lcomp_ev H.bo W hs hb.1.1.2 rfl hb.1.2 rfl (compK_L2 ih hs hb.2) (fun S Q h => ih.e C _ env ρ S Q W hs h) h
        · exact False.elim h
  | DictComp k v gs scope p =>
    rcases gs with _ | ⟨g, gs⟩
    · exact False.elim h
    · obtain ⟨t, it, ifs, as⟩ := g
      rcases gs with _ | ⟨_, _⟩
      · obtain ⟨hb, h⟩ := wp_if h
        rw [Bool.and_eq_true, Bool.and_eq_true] at hb
        obtain rfl := eq_of_beq hb.1.1
        exact dcomp_ev H.bo W hs hb.1.2 rfl hb.2 rfl (compK_D1 ih hs) (fun S Q h => ih.e C _ env ρ S Q W hs h) h
      · exact False.elim h
  | _ => exact False.elim h
inductive TForm : Expr → Prop
  | not (x : Expr) (p : Pos) : TForm (.UnaryOp .Not x p)
  | bool (op : BoolOp) (es : List Expr) (p : Pos) : TForm (.BoolOp op es p)
  | ite (c a b : Expr) (p : Pos) : TForm (.IfExp c a b p)
  | cmp (l : Expr) (ops : List CmpOp) (rs : List Expr) (p : Pos) : TForm (.Compare l ops rs p)
  | plain (e : Expr) (h : ∀ env w, isTrue e env w = (do let v ← w; standAt e.pos; holding [v] (truthy v))) : TForm e
theorem tform (e : Expr) : TForm e := by
  cases e with
  | UnaryOp op x p => cases op <;> first | exact .not .. | exact .plain _ fun _ _ => rfl
  | BoolOp op es p => exact .bool ..
  | IfExp c a b p => exact .ite ..
  | Compare l ops rs p => exact .cmp ..
  | _ => exact .plain _ fun _ _ => rfl
set_option tactic.hygienic true in
theorem t_succ {n : Nat} (H : Hyp B G m) (hm : m ≤ lv + 2) (ih : Ih B G (lv + 2) n) (C : Cx) (e : Expr) : TSnd B G (lv + 2) C e (cE (n + 1) C e) := by
  intro env ρ S Q W hs h
  rw [wpT_of] at h
  rcases tform e with ⟨x, pos⟩ | ⟨op, es, pos⟩ | ⟨c, a, b, pos⟩ | ⟨l, ops, rs, pos⟩ | ⟨_, he⟩
  · refine t_not (ih.t C x env ρ S _ W hs ?_)
    rw [wpT_of]
    exact h
  · rcases es with _ | ⟨e, es⟩
    · exact False.elim h
    · cases op with
      | And => exact t_and_snd (ih.t C) W hs h
      | Or => exact t_or_snd (ih.t C) W hs h
  · have h' : wpT G (cE n C c) ρ S fun t S1 => if t = true then wpE G (cE n C a) ρ S1 (fun x S1 => match truth x with | some b => Q b S1 | none => False) else wpE G (cE n C b) ρ S1 (fun x S1 => match truth x with | some b => Q b S1 | none => False) := by rw [wpT_of]; exact h
    refine t_ite ((ih.t C c env ρ S _ W hs h').mono fun t S1 h1 => ?_)
    cases t
    · refine ih.t C b env ρ S1 _ W hs ?_
      rw [wpT_of]; exact h1
    · refine ih.t C a env ρ S1 _ W hs ?_
      rw [wpT_of]; exact h1
  · rcases ops with _ | ⟨op, ops⟩
    · exact False.elim h
    · rcases rs with _ | ⟨a, rs⟩
      · exact False.elim h
      · rcases ops with _ | ⟨op', ops⟩
        · rcases rs with _ | ⟨_, _⟩
          · obtain ⟨hb, h⟩ := wp_if h
            refine t_cmp hb ((ih.e C _ env ρ S _ W hs h).mono fun x S1 h1 => (ih.e C _ env ρ S1 _ W hs h1).mono fun y S2 h2 => ?_)
            split at h2
            · rename_i e1; first | (rw [e1]; exact h2) | exact h2
            · exact h2.elim
          · exact False.elim h
        · rcases ops with _ | ⟨_, _⟩
          · rcases rs with _ | ⟨b, rs⟩
            · exact False.elim h
            · rcases rs with _ | ⟨_, _⟩
              · obtain ⟨hb, h⟩ := wp_if h
                refine t_cmp2 hb ((ih.e C _ env ρ S _ W hs h).mono fun x S1 h1 => (ih.e C _ env ρ S1 _ W hs h1).mono fun y S2 h2 => ?_)
                split at h2
                · rename_i e1
                  (try rw [e1])
                  refine (ih.e C _ env ρ S2 _ W hs h2).mono fun z S3 h3 => ?_
                  split at h3
                  · rename_i e3; first | (rw [e3]; exact h3) | exact h3
                  · exact h3.elim
                · rename_i e1; first | (rw [e1]; exact h2) | exact h2
                · exact h2.elim
              · exact False.elim h
          · exact False.elim h
  · exact t_plain (he env) (e_succ H hm ih C e env ρ S _ W hs h)
theorem ih_all (H : Hyp B G m) (hm : m ≤ lv + 2) : ∀ n, Ih B G (lv + 2) n
  | 0 => ih_zero
  | n + 1 => ⟨e_succ H hm (ih_all H hm n), t_succ H hm (ih_all H hm n), a_succ H.bo H.go (ih_all H hm n)⟩
end
end Lend
namespace Lend
noncomputable def swName (sc : Scope) (line : Nat) : Expr → Option Str
  | .Name id pos => if (sc.names.lookup id == some .local && pos.line == line) = true then some id else none
  | _ => none
theorem fm_eq {ts : List Expr} {p q : Expr → Option Str} (h : ∀ e, p e = q e) : List.filterMap p ts = List.filterMap q ts := by rw [show p = q from funext h]
theorem any_eq {ts : List Expr} {p : Expr → Bool} (h : ∀ e, p e = !noStar e) : ts.any p = !(ts.all noStar) := by
  rw [List.not_all_eq_any_not, show p = fun e => !noStar e from funext h]
noncomputable def swapT (sc : Scope) (ts vs : List Expr) : Option (Option (List Str)) :=
    if !(ts.length == 2 || ts.length == 3) || vs.length != ts.length || sc.kind != .function then some none
    else if vs.all noStar = false then some none
    else
      let line := (ts.head?.map (·.pos.line)).getD 0
      let names := ts.filterMap (swName sc line)
      if names.length != ts.length || names.eraseDups.length != names.length then some none
      else if vs.all (foldedForSure 8) then some none
      else if vs.all (constantsAlone 8) then none
      else some (some names)
noncomputable def asTup : Expr → Option (List Expr)
  | .Tuple ts _ _ => some ts
  | _ => none
noncomputable def tgs : Expr → Option (Option (List Expr))
  | .Tuple ts _ _ => some (some ts)
  | .List _ _ => some none
  | _ => none
noncomputable def swapC (sc : Scope) (t v : Expr) : Option (Option (List Str)) := match asTup v with
  | none => some none
  | some vs => (match tgs t with
    | none => some none
    | some o => (match o with
      | none => none
      | some ts => swapT sc ts vs))
noncomputable def nameIdxs (C : Cx) : List Str → Option (List Nat)
  | [] => some []
  | x :: r => (if isVar (C.scope.names.lookup x) = true then idxN C.N x else none).bind fun i => (nameIdxs C r).map (i :: ·)
noncomputable def frzAt (C : Cx) (line : Nat) : List Str := match C.frz with
  | l => ((l.filter fun p => p.1 == line).map (·.2)).flatten
noncomputable def frzS (C : Cx) : List Str → List RS
  | [] => []
  | x :: r => (match idxN C.N x with | some i => .freeze i | none => .stuck) :: frzS C r
noncomputable def stLine : Stmt → Nat
  | .Expr _ p => p.line
  | .Assign _ _ p => p.line
  | .Return _ p => p.line
  | .If _ _ _ p => p.line
  | .While _ _ _ p => p.line
  | .For _ _ _ _ p => p.line
  | _ => 0
noncomputable def asgC (n : Nat) (C : Cx) (t v : Expr) : RS := match asName t with
  | none => .asg (cT n C t) (cE n C v)
  | some q => (match tgIdx C (.Name q.1 q.2) with | some _ => .asg (cT n C t) (cE n C v) | none => .stuck)
noncomputable def cAsg (n : Nat) (C : Cx) (t v : Expr) : RS :=
  if noStar t = false then .stuck
  else if notComp v = true then (match swapC C.scope t v with
    | some none => .asg (cT n C t) (cE n C v)
    | some (some names) => (match nameIdxs C names with | some is => .asg (.swap is) (cE n C v) | none => .stuck)
    | none => .stuck)
  else asgC n C t v
mutual
noncomputable def cS : Nat → Cx → Stmt → RS
  | 0, _, _ => .stuck
  | n + 1, C, s => match s with
    | .Expr e _ => if notComp e = true then .expr (cE n C e) else .stuck
    | .Assign ts v _ => (match ts with
      | [] => .stuck
      | t :: ts => (match ts with | [] => cAsg n C t v | _ :: _ => .stuck))
    | .Return v _ => (match v with | some e => .ret (some (cE n C e)) | none => .ret none)
    | .If c a b _ => .ite (cE n C c) (cSs n C a) (cSs n C b)
    | .While c b els _ => (match els with | [] => .while (cE n C c) (cSs n C b) | _ :: _ => .stuck)
    | .For t it b els _ => (match els with | [] => if noSet it = true then .for (cT n C t) (cE n C it) (cSs n C b) else .stuck | _ :: _ => .stuck)
    | _ => .stuck
noncomputable def cSs : Nat → Cx → List Stmt → List RS
  | 0, _, _ => [.stuck]
  | _ + 1, _, [] => []
  | n + 1, C, s :: r => frzS C (frzAt C (stLine s)) ++ cS n C s :: cSs n C r
end
section
variable {B : Bs} {G : Gl} {lv m : Nat} {F S : Store} {A : Around} {f g T T' : Fz} {s : Shared} {env : Env} {N : List Str} {ρ : Rho}
theorem swap_none {a : Option (List Str)} {r : Option (List Str)} {x : Sem (Option (List Str))} (h : some a = some r) (e : x = pure a) : x = pure r := by cases h; exact e
inductive TV : Expr → Prop
  | tup (ts : List Expr) (k : Nat) (p : Pos) : TV (.Tuple ts k p)
  | lst (ts : List Expr) (p : Pos) : TV (.List ts p)
  | oth (t : Expr) (h : ∀ v env, swappedStores [t] v env = pure none) (e : tgs t = none) : TV t
theorem tv (t : Expr) : TV t := by
  cases t <;> first | exact .tup .. | exact .lst .. | exact .oth _ (fun _ _ => rfl) rfl
inductive VV : Expr → Prop
  | tup (ts : List Expr) (k : Nat) (p : Pos) : VV (.Tuple ts k p)
  | oth (v : Expr) (h : ∀ ts k p env, swappedStores [.Tuple ts k p] v env = pure none) (h' : ∀ ts p env, swappedStores [.List ts p] v env = pure none) (e : asTup v = none) : VV v
theorem vv (v : Expr) : VV v := by
  cases v <;> first | exact .tup .. | exact .oth _ (fun _ _ _ _ => rfl) (fun _ _ _ => rfl) rfl
theorem swapC_t {sc : Scope} {t v : Expr} (h : tgs t = none) : swapC sc t v = some none := by
  unfold swapC; rw [h]; rcases asTup v with _ | _ <;> rfl
theorem swapC_v {sc : Scope} {t v : Expr} (h : asTup v = none) : swapC sc t v = some none := by
  unfold swapC; rw [h]
theorem swap_chain {b1 c1 b2 c2 d4 d5 : Bool} {N N' : List Str} {g : List Str → Bool} {U : Sem (Option (List Str))} {r : Option (List Str)} (h1 : b1 = c1) (h2 : b2 = !c2) (hN : N = N')
    (h : (if c1 then some none else if c2 = false then some none else if g N' then some none else if d4 then some none else if d5 then none else some (some N')) = some r) :
    (if b1 then pure none else if b2 then pure none else if g N then pure none else if d4 then pure none else if d5 then U else pure (some N)) = (pure r : Sem (Option (List Str))) := by
  subst h1 h2 hN
  generalize g N = b3 at h ⊢
  rcases b1 with _ | _
  · rcases c2 with _ | _
    · exact swap_none h rfl
    · rcases b3 with _ | _
      · rcases d4 with _ | _
        · rcases d5 with _ | _
          · exact swap_none h rfl
          · exact none_some h
        · exact swap_none h rfl
      · exact swap_none h rfl
  · exact swap_none h rfl
theorem swap_tt {sc : Scope} {ts vs : List Expr} {k k' : Nat} {p p' : Pos} {r : Option (List Str)} (h : swapT sc ts vs = some r) (hs : env.scope = sc) (hk : sc.kind = .function) : swappedStores [.Tuple ts k p] (.Tuple vs k' p') env = pure r := by
  have hb : env.blockKind = sc.kind := by unfold Env.blockKind; rw [hs, hk]; rfl
  have hkof : ∀ x, env.kindOf x = sc.names.lookup x := fun x => by unfold Env.kindOf; rw [hs]
  exact swap_chain (g := fun names => names.length != ts.length || names.eraseDups.length != names.length) (by rw [hb]) (any_eq (by intro e; cases e <;> rfl)) (fm_eq (by intro e; cases e <;> first | rfl | (unfold swName; dsimp only; rw [hkof]))) h
theorem swap_ok {sc : Scope} {t v : Expr} {r : Option (List Str)} (h : swapC sc t v = some r) (hs : env.scope = sc) (hk : sc.kind = .function) : swappedStores [t] v env = pure r := by
  rcases tv t with ⟨ts, k, p⟩ | ⟨ts, p⟩ | ⟨_, ht, e⟩
  · rcases vv v with ⟨vs, k', p'⟩ | ⟨_, hv, _, e⟩
    · exact swap_tt h hs hk
    · exact swap_none ((swapC_v e).symm.trans h) (hv ..)
  · rcases vv v with ⟨vs, k', p'⟩ | ⟨_, _, hv, e⟩
    · exact none_some h
    · exact swap_none ((swapC_v e).symm.trans h) (hv ..)
  · exact swap_none ((swapC_t e).symm.trans h) (ht ..)
end
end Lend
namespace Lend
set_option tactic.hygienic true in
theorem valN_set : ∀ {N : List Str} {ρ : Rho} {i : Nat} {v : Option CV} {x : Str}, valN N (ρ.set i v) x = if idxN N x = some i ∧ i < ρ.length then v else valN N ρ x
  | [], ρ, i, v, x => by simp [valN, idxN]
  | y :: N, [], i, v, x => by simp [valN]
  | y :: N, u :: ρ, 0, v, x => by
    simp only [List.set_cons_zero, valN, idxN]
    split
    · simp
    · rename_i h
      have : (idxN N x).map (· + 1) ≠ some 0 := by cases idxN N x <;> simp
      rw [if_neg (fun h => this h.1)]
  | y :: N, u :: ρ, i + 1, v, x => by
    simp only [List.set_cons_succ, valN, idxN]
    split
    · simp
    · rw [valN_set]
      have : ((idxN N x).map (· + 1) = some (i + 1) ∧ i + 1 < (u :: ρ).length) ↔ (idxN N x = some i ∧ i < ρ.length) := by
        cases idxN N x <;> simp
      simp only [this]
section
variable {B : Bs} {G : Gl} {lv n m : Nat} {F S : Store} {A : Around} {f g T T' : Fz} {s : Shared} {env : Env} {N : List Str} {ρ ρ' : Rho}
theorem feet_cellsL : ∀ (l : List (Str × Addr)), feet (cellsL N ρ l) = l.map (·.2)
  | [] => rfl
  | p :: r => by
    show feet ((p.2, CO.cell (valN N ρ p.1)) :: cellsL N ρ r) = _
    rw [feet_cons, feet_cellsL r]; rfl
theorem feet_FrL : feet (FrL env N ρ) = env.locals :: env.cells.map (·.2) := by
  unfold FrL
  rw [feet_cons, feet_cellsL]; rfl
set_option tactic.hygienic true in
theorem St.reframe (X : St B f T (FrL env N ρ ++ S) s) (h : ∀ x V', valN N ρ' x = some V' → ∃ V, valN N ρ x = some V ∧ ∀ v, VIs B f v V → VIs B f v V') : St B f T (FrL env N ρ' ++ S) s := by
  have hf : feet (FrL env N ρ' ++ S) = feet (FrL env N ρ ++ S) := by rw [feet_append, feet_append, feet_FrL, feet_FrL]
  refine ⟨X.gens, X.os, X.base, X.fin, X.tin, fun p hp => ?_, fun b hb => X.dis b (hf ▸ hb), hf ▸ X.sep⟩
  rcases List.mem_append.mp hp with hp | hp
  · unfold FrL at hp
    rcases List.mem_cons.mp hp with rfl | hp
    · obtain ⟨mm, hn, hg⟩ := X.cell (env.locals, CO.ns (nsOf env N ρ)) (List.mem_append_left _ (.head _))
      refine ⟨mm, hn, fun x V' e => ?_⟩
      unfold nsOf at e
      split at e
      · rename_i hk
        obtain ⟨V, e1, e2⟩ := h x V' e
        obtain ⟨v, a, b⟩ := hg x V (by unfold nsOf; rw [if_pos hk]; exact e1)
        exact ⟨v, a, e2 v b⟩
      · cases e
    · obtain ⟨q, hq, rfl⟩ := List.mem_map.mp hp
      obtain ⟨ov, hn, hg⟩ := X.cell (q.2, CO.cell (valN N ρ q.1)) (List.mem_append_left _ (.tail _ (List.mem_map_of_mem (f := fun p : Str × Addr => (p.2, CO.cell (valN N ρ p.1))) hq)))
      refine ⟨ov, hn, fun V' e => ?_⟩
      obtain ⟨V, e1, e2⟩ := h q.1 V' e
      obtain ⟨u, a, b⟩ := hg V e1
      exact ⟨u, a, e2 u b⟩
  · exact X.cell p (List.mem_append_right _ hp)
theorem loc_val {v : Value} {a : Addr} (h : VIs B f v (.loc a)) : v = .ref a := by obtain ⟨_, rfl⟩ := h.inv; rfl
set_option tactic.hygienic true in
theorem SOk.freeze {i : Nat} {t : Sem Flow} {Q : Fl → Rho → Store → Prop} (h : freezeW ρ i S fun ρ' S' => SOk B n env N ρ' S' t Q) : SOk B n env N ρ S t Q := by
  intro A f T s R X
  have re : ∀ {a : Addr} {V : CV} {f' : Fz} {S' : Store}, ρ[i]? = some (some (.loc a)) → VIs B f' (.ref a) V → St B f' T (FrL env N ρ ++ S') s → St B f' T (FrL env N (ρ.set i (some V)) ++ S') s := fun {a V f' S'} hi hv Y => by
    refine Y.reframe fun x V' e => ?_
    rw [valN_set] at e
    split at e
    · rename_i hx
      cases e
      exact ⟨_, valN_idx hx.1 hi, fun v hv' => by rw [loc_val hv']; exact hv⟩
    · exact ⟨V', e, fun v h => h⟩
  unfold freezeW at h
  split at h
  · rename_i a hi
    split at h
    · rename_i xs hl
      obtain ⟨f', l, Y, hv⟩ := freezeL (X.front hl)
      exact SOk.at h R l (re (nth_get hi) hv Y)
    · rename_i kvs hl
      obtain ⟨f', l, Y, hv⟩ := freezeD (X.front hl)
      exact SOk.at h R l (re (nth_get hi) hv Y)
    · exact h.elim
  · exact h.elim
theorem frz_snd {C : Cx} {rs : List RS} {t : Sem Flow} {Q : Fl → Rho → Store → Prop} (hr : ∀ ρ S, wpSs G rs ρ S Q → SOk B lv env C.N ρ S t Q) : ∀ (xs : List Str) (ρ : Rho) (S : Store), wpSs G (frzS C xs ++ rs) ρ S Q → SOk B lv env C.N ρ S t Q
  | [], ρ, S, h => hr ρ S h
  | x :: xs, ρ, S, h => by
    rcases hi : idxN C.N x with _ | i
    · exact False.elim (by unfold frzS at h; rw [hi] at h; exact h)
    · replace h : wpSs G (.freeze i :: (frzS C xs ++ rs)) ρ S Q := by unfold frzS at h; rw [hi] at h; exact h
      replace h : freezeW ρ i S fun ρ' S' => wpSs G (frzS C xs ++ rs) ρ' S' Q := h
      refine SOk.freeze (i := i) ?_
      unfold freezeW at h ⊢
      split at h
      · split at h
        · exact frz_snd hr xs _ _ h
        · exact frz_snd hr xs _ _ h
        · exact h.elim
      · exact h.elim
set_option tactic.hygienic true in
theorem idxs_sets {C : Cx} (W : EnvW env) (hs : env.scope = C.scope) : ∀ {names : List Str} {is : List Nat}, nameIdxs C names = some is → AllSets B env C.N (names.map fun x => bindName env x) is
  | [], is, h => by cases h; exact .nil
  | x :: r, is, h => by
    unfold nameIdxs at h
    obtain ⟨i, hi, h⟩ := Option.bind_eq_some_iff.mp h
    obtain ⟨js, hj, rfl⟩ := Option.map_eq_some_iff.mp h
    split at hi
    · rename_i hv
      have hv' : env.kindOf x = some .local ∨ env.kindOf x = some .cell ∨ env.kindOf x = some .free := by unfold Env.kindOf; rw [hs]; exact isVar_or hv
      exact .cons (sets_bind W hv' hi) (idxs_sets W hs hj)
    · cases hi
theorem exec_use {x : Str} {p : Pos} {v : Expr} {pos : Pos} (hs : swapsWith v (some (.Name x p)) pos.line env = pure true) :
    exec (.Assign [.Name x p] v pos) env = (standAt pos >>= fun _ => evalThenUse v env (fun v => assignAll v [assign (.Name x p) env]) >>= fun _ => pure .next) := by
  have e : exec (.Assign [.Name x p] v pos) env = (standAt pos >>= fun _ => swapsWith v (some (.Name x p)) pos.line env >>= fun b =>
      if b = true then evalThenUse v env (fun v => assignAll v [assign (.Name x p) env]) >>= fun _ => pure .next
      else eval v env >>= fun v' => swappedStores [.Name x p] v env >>= fun sw => assignStores env v' sw [assign (.Name x p) env]) := rfl
  rw [e, hs]; rfl
theorem swaps_t {t : Expr} {F : Str → Pos → Bool} {w : Expr → Sem Bool} (h1 : ∀ x p, w (.Name x p) = pure (F x p)) (h2 : ∀ e, asName e = none → w e = pure false) : ∃ b, w t = pure b ∧ (b = true → ∃ x p, t = .Name x p) := by
  rcases h : asName t with _ | xp
  · exact ⟨false, h2 t h, fun h => Bool.noConfusion h⟩
  · exact ⟨F xp.1 xp.2, by rw [asName_inv h]; exact h1 _ _, fun _ => ⟨_, _, asName_inv h⟩⟩
theorem swaps_is {v : Expr} {t : Expr} {l : Nat} : ∃ b, swapsWith v (some t) l env = pure b ∧ (b = true → ∃ x p, t = .Name x p) := by
  rcases hv : notComp v with _ | _
  · cases v <;> first | exact Bool.noConfusion hv | exact swaps_t (w := fun t => swapsWith _ (some t) l env) (fun x p => rfl) (fun e h => by cases e <;> first | rfl | exact some_none h)
  · exact ⟨false, no_swap hv, fun h => Bool.noConfusion h⟩
theorem asg_fun {C : Cx} {k : Nat} {x : Str} {p : Pos} {i : Nat} (hi : tgIdx C (.Name x p) = some i) (Q : Rho → Store → Prop) :
    (fun y S1 => wpAsg G (cT (k + 1) C (.Name x p)) y ρ S1 Q) = fun y S1 => i < ρ.length ∧ Q (ρ.set i (some y)) S1 := by
  funext y S1
  have : cT (k + 1) C (.Name x p) = .name i := by
    show optT (tgIdx C (.Name x p)) RT.name = _
    rw [hi]; rfl
  rw [this]; rfl
theorem use_L {C : Cx} {k0 : Nat} {elt it : RE} {t : RT} {ifs : List RE} {gs : List RG} {el : Expr} {gens : List Comprehension} {scope : Scope} {q pos p : Pos} {x : Str} {i : Nat} {gc : Comprehension} {gcs : List Comprehension} {Q : Fl → Rho → Store → Prop} (BO : B.Ok) (W : EnvW env) (hs : env.scope = C.scope) (hb : compB C.scope scope = true)
    (hcl : gens = gc :: gcs) (has : gc.is_async = 0) (hns : noSet gc.iter = true) (hk : k0 = (ownN scope).length)
    (hK : CompK B lv (accL B) [] (.ListComp el gens scope q) scope env C.N (fun x items ρ S a Q => compW (stays S x) (turnW (wpAsg G t) (wpTs G ifs) (wpGs G gs (leafL G elt))) items ρ S a Q))
    (hit : ∀ S Q, wpE G it ρ S Q → EOk B lv (FrL env C.N ρ) S (eval gc.iter env) Q)
    (hv : env.kindOf x = some .local ∨ env.kindOf x = some .cell ∨ env.kindOf x = some .free) (hi : idxN C.N x = some i) (hsw : swapsWith (.ListComp el gens scope q) (some (.Name x p)) pos.line env = pure true)
    (h : wpE G (.lcomp k0 elt it t ifs gs) ρ S fun y S1 => i < ρ.length ∧ Q .next (ρ.set i (some y)) S1) : SOk B lv env C.N ρ S (exec (.Assign [.Name x p] (.ListComp el gens scope q) pos) env) Q := by
  intro A f T s R X
  subst hk hcl
  rw [exec_use hsw]
  have e : evalThenUse (.ListComp el (gc :: gcs) scope q) env (fun v => assignAll v [assign (.Name x p) env]) = (comprehension (.ListComp el (gc :: gcs) scope q) scope env (firstIterPos (gc :: gcs) q) (newList []) false (eval gc.iter env) (some fun v => assignAll v [assign (.Name x p) env]) >>= fun _ => pure ()) := by
    obtain ⟨a, b, c, d⟩ := gc
    simp only at has
    subst has
    rfl
  rw [e]
  refine wpAny_bind (wpAny_standAt (wpAny_bind (wpAny_bind (wpAny_mono (comp_use (val := .flist) BO W (compB_N hs hb) rfl (fun x => noSet_fold hns x) (fun A s R h => newList_acc s R h) (fun f T D a X s x => freezeL x) hK (Q := fun ρ S => Q .next ρ S) hv hi (hit _ _ (lcomp_h (C := C) (n := 0) h)) R X) (fun v s1 pp => pp.elim fun f1 ρ1 S1 l1 X1 q1 => ?_) fun _ _ e => e))))
  exact wpAny_pure (wpAny_pure ⟨f1, ρ1, S1, .next, l1, X1, trivial, q1⟩)
theorem use_D {C : Cx} {k0 : Nat} {key val it : RE} {t : RT} {ifs : List RE} {ke ve : Expr} {gens : List Comprehension} {scope : Scope} {q pos p : Pos} {x : Str} {i : Nat} {gc : Comprehension} {gcs : List Comprehension} {Q : Fl → Rho → Store → Prop} (BO : B.Ok) (W : EnvW env) (hs : env.scope = C.scope) (hb : compB C.scope scope = true)
    (hcl : gens = gc :: gcs) (has : gc.is_async = 0) (hns : noSet gc.iter = true) (hk : k0 = (ownN scope).length)
    (hK : CompK B lv (accD B) [] (.DictComp ke ve gens scope q) scope env C.N (fun x items ρ S a Q => compW (stays S x) (turnW (wpAsg G t) (wpTs G ifs) (leafD G key val)) items ρ S a Q))
    (hit : ∀ S Q, wpE G it ρ S Q → EOk B lv (FrL env C.N ρ) S (eval gc.iter env) Q)
    (hv : env.kindOf x = some .local ∨ env.kindOf x = some .cell ∨ env.kindOf x = some .free) (hi : idxN C.N x = some i) (hsw : swapsWith (.DictComp ke ve gens scope q) (some (.Name x p)) pos.line env = pure true)
    (h : wpE G (.dcomp k0 key val it t ifs) ρ S fun y S1 => i < ρ.length ∧ Q .next (ρ.set i (some y)) S1) : SOk B lv env C.N ρ S (exec (.Assign [.Name x p] (.DictComp ke ve gens scope q) pos) env) Q := by
  intro A f T s R X
  subst hk hcl
  rw [exec_use hsw]
  have e : evalThenUse (.DictComp ke ve (gc :: gcs) scope q) env (fun v => assignAll v [assign (.Name x p) env]) = (comprehension (.DictComp ke ve (gc :: gcs) scope q) scope env (firstIterPos (gc :: gcs) q) newDict false (eval gc.iter env) (some fun v => assignAll v [assign (.Name x p) env]) >>= fun _ => pure ()) := by
    obtain ⟨a, b, c, d⟩ := gc
    simp only at has
    subst has
    rfl
  rw [e]
  refine wpAny_bind (wpAny_standAt (wpAny_bind (wpAny_bind (wpAny_mono (comp_use (val := .fdict) BO W (compB_N hs hb) rfl (fun x => noSet_fold hns x) (fun A s R h => newDict_acc s R h) (fun f T D a X s x => freezeD x) hK (Q := fun ρ S => Q .next ρ S) hv hi (hit _ _ (dcomp_h (C := C) (n := 0) h)) R X) (fun v s1 pp => pp.elim fun f1 ρ1 S1 l1 X1 q1 => ?_) fun _ _ e => e))))
  exact wpAny_pure (wpAny_pure ⟨f1, ρ1, S1, .next, l1, X1, trivial, q1⟩)
end
end Lend
namespace Lend
section
variable {B : Bs} {G : Gl} {lv m : Nat} {F S : Store} {A : Around} {f g T T' : Fz} {s : Shared} {env : Env} {N : List Str} {ρ ρ' : Rho}
noncomputable def SSnd (B : Bs) (G : Gl) (lv : Nat) (C : Cx) (st : Stmt) (r : RS) : Prop := ∀ env ρ S Q, EnvW env → env.scope = C.scope → wpS G r ρ S Q → SOk B lv env C.N ρ S (exec st env) Q
noncomputable def BSnd (B : Bs) (G : Gl) (lv : Nat) (C : Cx) (ss : List Stmt) (r : List RS) : Prop := ∀ env ρ S Q, EnvW env → env.scope = C.scope → wpSs G r ρ S Q → SOk B lv env C.N ρ S (execs ss env) Q
theorem swapC_comp {sc : Scope} {t v : Expr} (h : notComp v = false) : swapC sc t v = some none := by
  cases v <;> first | exact Bool.noConfusion h | exact swapC_v rfl
theorem asg_plain {n : Nat} {C : Cx} (ih : Ih B G lv n) (W : EnvW env) (hs : env.scope = C.scope) {t v : Expr} {pos : Pos} {Q : Fl → Rho → Store → Prop} (hns : noStar t = true) (hsw : swapsWith v (some t) pos.line env = pure false) (hst : swapC C.scope t v = some none)
    (h : wpS G (.asg (cT n C t) (cE n C v)) ρ S Q) : SOk B lv env C.N ρ S (exec (.Assign [t] v pos) env) Q := by
  have hk : C.scope.kind = .function := by rw [← hs]; exact W.kind
  exact s_asg hns hsw (swap_ok hst hs hk) ((ih.e C v env ρ S _ W hs h).mono fun x S1 h1 => ih.a C t env ρ S1 x _ W hs h1)
theorem comp_cases {P : Expr → Prop} {v : Expr} (h : notComp v = false) (hL : ∀ a b c d, P (.ListComp a b c d)) (hS : ∀ a b c d, P (.SetComp a b c d)) (hD : ∀ a b c d e, P (.DictComp a b c d e)) : P v := by
  cases v <;> first | exact Bool.noConfusion h | exact hL _ _ _ _ | exact hS _ _ _ _ | exact hD _ _ _ _ _
theorem asgT {n : Nat} {C : Cx} {t v : Expr} {Q : Fl → Rho → Store → Prop} (h : wpS G (asgC n C t v) ρ S Q) : wpS G (.asg (cT n C t) (cE n C v)) ρ S Q ∧ ∀ x p, t = .Name x p → ∃ i, tgIdx C (.Name x p) = some i := by
  rcases hx : asName t with _ | q
  · refine ⟨?_, fun x p e => by subst e; exact some_none hx⟩
    unfold asgC at h; rw [hx] at h; exact h
  · unfold asgC at h
    rw [hx] at h
    dsimp only at h
    rw [← asName_inv hx] at h
    rcases hi : tgIdx C t with _ | i
    · rw [hi] at h; exact False.elim h
    · rw [hi] at h; exact ⟨h, fun x p e => ⟨i, by rw [← e, hi]⟩⟩
theorem ws_if {c : Prop} [Decidable c] {a b : RS} {Q : Fl → Rho → Store → Prop} (h : wpS G (if c then a else b) ρ S Q) : (c ∧ wpS G a ρ S Q) ∨ (¬ c ∧ wpS G b ρ S Q) := by
  by_cases hc : c
  · rw [if_pos hc] at h; exact .inl ⟨hc, h⟩
  · rw [if_neg hc] at h; exact .inr ⟨hc, h⟩
theorem asg_snd {n : Nat} (H : Hyp B G m) (hm : m ≤ lv + 2) (C : Cx) (t v : Expr) (pos : Pos) : SSnd B G (lv + 2) C (.Assign [t] v pos) (cAsg n C t v) := by
  intro env ρ S Q W hs h
  have ih := ih_all H hm n
  have hk : C.scope.kind = .function := by rw [← hs]; exact W.kind
  rcases ws_if h with ⟨_, h⟩ | ⟨hns, h⟩
  · exact False.elim h
  have hns : noStar t = true := Bool.not_eq_false _ ▸ hns
  rcases ws_if h with ⟨hnc, h⟩ | ⟨hnc, h⟩
  · rcases hst : swapC C.scope t v with _ | o
    · rw [hst] at h; exact False.elim h
    · rw [hst] at h
      rcases o with _ | names
      · exact asg_plain ih W hs hns (no_swap hnc) hst h
      · rcases hi : nameIdxs C names with _ | is
        · dsimp only at h; rw [hi] at h; exact False.elim h
        · dsimp only at h
          rw [hi] at h
          exact s_swap W hns (no_swap hnc) (swap_ok hst hs hk) (idxs_sets W hs hi) ((ih.e C v env ρ S _ W hs h).mono fun x S1 h1 => h1)
  · have hnc : notComp v = false := Bool.not_eq_true _ ▸ hnc
    obtain ⟨b, hb, hbt⟩ := swaps_is (env := env) (v := v) (t := t) (l := pos.line)
    have hst := swapC_comp (sc := C.scope) (t := t) hnc
    have h := asgT h
    rcases b with _ | _
    · exact asg_plain ih W hs hns hb hst h.1
    · obtain ⟨x, p, rfl⟩ := hbt rfl
      obtain ⟨i, hi⟩ := h.2 x p rfl
      have hi' := tgIdx_name hi
      have hv' : env.kindOf x = some .local ∨ env.kindOf x = some .cell ∨ env.kindOf x = some .free := by unfold Env.kindOf; rw [hs]; exact isVar_or hi'.1
      replace h := h.1
      cases n with
      | zero => exact False.elim h
      | succ k =>
        have ih := ih_all H hm k
        replace h : wpE G (cE (k + 1) C v) ρ S fun y S1 => wpAsg G (cT (k + 1) C (.Name x p)) y ρ S1 fun ρ' S2 => Q .next ρ' S2 := h
        rw [asg_fun hi] at h
        exact comp_cases (P := fun v => swapsWith v (some (.Name x p)) pos.line env = pure true → wpE G (cE (k + 1) C v) ρ S (fun y S1 => i < ρ.length ∧ Q .next (ρ.set i (some y)) S1) → SOk B (lv + 2) env C.N ρ S (exec (.Assign [.Name x p] v pos) env) Q) hnc
          (fun elt gs scope q hb h => by
            rcases gs with _ | ⟨⟨t1, it, ifs, as⟩, _ | ⟨⟨t2, it2, ifs2, as2⟩, _ | _⟩⟩
            · exact False.elim h
            · obtain ⟨hbb, h⟩ := wp_if h
              rw [Bool.and_eq_true, Bool.and_eq_true] at hbb
              obtain rfl := eq_of_beq hbb.1.1
              exact use_L H.bo W hs hbb.1.2 rfl rfl hbb.2 rfl (compK_L1 ih hs) (fun S Q h => ih.e C _ env ρ S Q W hs h) hv' hi'.2 hb h
            · obtain ⟨hbb, h⟩ := wp_if h
              rw [Bool.and_eq_true, Bool.and_eq_true, Bool.and_eq_true, Bool.and_eq_true] at hbb
              obtain rfl := eq_of_beq hbb.1.1.1.1
              obtain rfl := eq_of_beq hbb.1.1.1.2
              exact use_L H.bo W hs hbb.1.1.2 rfl rfl hbb.1.2 rfl (compK_L2 ih hs hbb.2) (fun S Q h => ih.e C _ env ρ S Q W hs h) hv' hi'.2 hb h
            · exact False.elim h)
          (fun _ _ _ _ _ h => False.elim h)
          (fun ke ve gs scope q hb h => by
            rcases gs with _ | ⟨⟨t1, it, ifs, as⟩, _ | _⟩
            · exact False.elim h
            · obtain ⟨hbb, h⟩ := wp_if h
              rw [Bool.and_eq_true, Bool.and_eq_true] at hbb
              obtain rfl := eq_of_beq hbb.1.1
              exact use_D H.bo W hs hbb.1.2 rfl rfl hbb.2 rfl (compK_D1 ih hs) (fun S Q h => ih.e C _ env ρ S Q W hs h) hv' hi'.2 hb h
            · exact False.elim h)
          hb h
theorem s_all (H : Hyp B G m) (hm : m ≤ lv + 2) : ∀ n, (∀ C st, SSnd B G (lv + 2) C st (cS n C st)) ∧ ∀ C ss, BSnd B G (lv + 2) C ss (cSs n C ss)
  | 0 => ⟨fun C st env ρ S Q W hs h => False.elim h, fun C ss env ρ S Q W hs h => False.elim h⟩
  | n + 1 => by
    obtain ⟨ihS, ihB⟩ := s_all H hm n
    have ih := ih_all H hm n
    refine ⟨fun C st env ρ S Q W hs h => ?_, fun C ss env ρ S Q W hs h => ?_⟩
    · cases st with
      | Expr e p =>
        rcases ws_if h with ⟨hc, h⟩ | ⟨_, h⟩
        · exact s_expr W hc (ih.e C _ env ρ S _ W hs h)
        · exact False.elim h
      | Assign ts v p =>
        rcases ts with _ | ⟨t, ts⟩
        · exact False.elim h
        · rcases ts with _ | ⟨_, _⟩
          · exact asg_snd H hm C _ _ _ env ρ S Q W hs h
          · exact False.elim h
      | Return v p => cases v with
        | some e => exact s_ret (ih.e C _ env ρ S _ W hs h)
        | none => exact s_ret0 h
      | If c a b p =>
        replace h : wpT G (cE n C c) ρ S fun t S1 => if t = true then wpSs G (cSs n C a) ρ S1 Q else wpSs G (cSs n C b) ρ S1 Q := h
        refine s_if ((ih.t C _ env ρ S _ W hs h).mono fun b S1 h1 => ?_)
        cases b
        · exact ihB C _ env ρ S1 Q W hs h1
        · exact ihB C _ env ρ S1 Q W hs h1
      | While c b els p => cases els with
        | nil => exact s_while (fun ρ S Q h => ih.t C _ env ρ S Q W hs h) (fun ρ S Q h => ihB C _ env ρ S Q W hs h) h
        | cons _ _ => exact False.elim h
      | For t it b els p => cases els with
        | nil =>
          rcases ws_if h with ⟨hn, h⟩ | ⟨_, h⟩
          · exact s_for (asg := wpAsg G (cT n C _)) (body := wpSs G (cSs n C _)) (fun x => noSet_fold hn x) (fun y ρ S Q h => ih.a C _ env ρ S y Q W hs h) (fun ρ S Q h => ihB C _ env ρ S Q W hs h) (ih.e C _ env ρ S _ W hs h)
          · exact False.elim h
        | cons _ _ => exact False.elim h
      | _ => exact False.elim h
    · rcases ss with _ | ⟨st, r⟩
      · exact s_nil h
      · refine frz_snd (fun ρ S h => ?_) _ ρ S h
        refine s_cons ((ihS C st env ρ S _ W hs h).mono fun fl ρ' S' h1 => ?_)
        rcases fl with _ | v
        · exact ihB C r env ρ' S' Q W hs h1
        · exact h1
theorem body_ok (H : Hyp B G m) (hm : m ≤ lv + 2) (n : Nat) (C : Cx) (ss : List Stmt) {ρ : Rho} {S : Store} {Q : Fl → Rho → Store → Prop} (W : EnvW env) (hs : env.scope = C.scope) (h : wpSs G (cSs n C ss) ρ S Q) : SOk B (lv + 2) env C.N ρ S (execs ss env) Q :=
  (s_all H hm n).2 C ss env ρ S Q W hs h
end
end Lend
namespace Lend
noncomputable def fdOf (K : Frag) (a : Addr) : FuncData := match K.lookup a with
  | some ⟨_, _, .func fd, _⟩ => fd
  | _ => default
noncomputable def bodyOf (fd : FuncData) : List Stmt := match fd.body with
  | .stmts ss => ss
  | _ => []
noncomputable def ownP : List (Nat × Nat) := [(117, 12), (130, 12), (139, 21), (167, 24), (171, 22), (274, 15), (296, 11), (331, 10), (384, 19), (384, 23), (387, 39), (389, 15), (400, 10), (407, 33), (407, 37), (407, 41), (429, 11), (441, 40)]
noncomputable def frzP : List (Nat × List Str) := [(121, ["found"]), (135, ["found"]), (333, ["ops"]), (399, ["here"]), (401, ["found"]), (405, ["due"]), (414, ["blocks", "deeds", "ends"]), (431, ["some"]), (447, ["known"])]
noncomputable def cxOf (fd : FuncData) : Cx := { scope := fd.scope, N := ownN fd.scope, own := ownP, frz := frzP }
noncomputable def isStmts : FuncBody → Bool
  | .stmts _ => true
  | _ => false
noncomputable def fnChk (K : Frag) (fd : FuncData) (names N : List Str) : Bool :=
  codeIn K fd.code fd.qualname && isStmts fd.body && fd.closure.isEmpty && decide (fd.globals = mainGlobals) && decide (fd.builtins = builtinsNs) && !fd.scope.isCoroutine && !fd.scope.isGenerator && fd.scope.kind == .function &&
  decide ((fd.scope.names.map (·.1)).Nodup) && fd.scope.names.all (fun p => p.2 != .free) && decide (ownN fd.scope = N) && names.all fun x => (fd.scope.names.lookup x == some .local || fd.scope.names.lookup x == some .cell) && (idxN N x).any (· < N.length)
structure FnF (K : Frag) (fa : Addr) (names : List Str) (N : List Str) (rs : List RS) : Prop where
  look : K.lookup fa = some ⟨.type "function", none, .func (fdOf K fa), #[]⟩
  chk : fnChk K (fdOf K fa) names N = true
  res : cSs 60 (cxOf (fdOf K fa)) (bodyOf (fdOf K fa)) = rs
theorem fn_of {B : Bs} {G : Gl} {m lv : Nat} (BO : B.Ok) (H : Hyp B G m) (hm : m ≤ lv + 2) {fa : Addr} {names N : List Str} {rs : List RS} (Fn : FnF B.K fa names N rs) {args dx : List CV} {dv : List Value} {S : Store} {Q : CV → Store → Prop}
    (hdx : ∀ f, VsIs B f dv dx) (hlen : names.length = args.length + dx.length) (hbind : ∀ s vs, B.K.In s.heap → vs.length = args.length → BindsTo s (fdOf B.K fa) ⟨vs, []⟩ (names.zip (vs ++ dv)))
    (h : wpSs G rs (bindR N (List.replicate N.length none) (names.zip (args ++ dx))) S fun fl _ S' => match fl with | .ret v => Q v S' | .next => Q .none S') : FnOk B (lv + 3) fa args S Q := by
  have hc := Fn.chk
  unfold fnChk at hc
  simp only [Bool.and_eq_true, decide_eq_true_eq, Bool.not_eq_true', List.all_eq_true, List.isEmpty_iff] at hc
  obtain ⟨⟨⟨⟨⟨⟨⟨⟨⟨⟨⟨c1, c2⟩, c3⟩, c4⟩, c5⟩, c6⟩, c7⟩, c8⟩, c9⟩, c10⟩, c11⟩, c12⟩ := hc
  have hbody : (fdOf B.K fa).body = .stmts (bodyOf (fdOf B.K fa)) := by
    unfold bodyOf
    cases e : (fdOf B.K fa).body <;> rw [e] at c2 <;> first | rfl | cases c2
  have hkeep : keepIn B.K (.ref fa) = true := by
    unfold keepIn
    dsimp only
    rw [Fn.look]
  refine fn_enter (n := lv + 2) BO Fn.look hkeep c1 hbody c3 c4 c5 c6 c7 (by simpa using c8) c9 (fun p hp => by simpa using c10 p hp) hdx hlen hbind (N := N) (fun x hx => ?_) fun env W hs => ?_
  · have := c12 x hx
    simp only [Bool.or_eq_true, beq_iff_eq] at this
    refine ⟨this.1, ?_⟩
    have h2 := this.2
    rcases hi : idxN N x with _ | i
    · rw [hi] at h2; cases h2
    · rw [hi] at h2; exact ⟨i, rfl, by simpa using h2⟩
  · have := body_ok (lv := lv) H hm 60 (cxOf (fdOf B.K fa)) (bodyOf (fdOf B.K fa)) (ρ := bindR N (List.replicate N.length none) (names.zip (args ++ dx))) (S := S) (Q := fun fl _ S' => match fl with | .ret v => Q v S' | .next => Q .none S') W hs (by rw [Fn.res]; exact h)
    have hN : (cxOf (fdOf B.K fa)).N = N := c11
    rw [hN] at this
    exact this
end Lend
namespace Lend
noncomputable def r62 : List RS := [(.ret (some (.cmp .Eq (.sub (.loc 0) (.const (.int 0))) (.const (.str (Str.ofString "i"))))))]
noncomputable def r69 : List RS := [(.ret (some (.ite (.call false (.glob (Str.ofString "is_signed")) [(.loc 0)]) (.bin .Sub (.const (.int 0)) (.bin .Pow (.const (.int 2)) (.bin .Sub (.sub (.glob (Str.ofString "BITS")) (.loc 0)) (.const (.int 1))))) (.const (.int 0)))))]
noncomputable def r76 : List RS := [(.ret (some (.ite (.call false (.glob (Str.ofString "is_signed")) [(.loc 0)]) (.bin .Sub (.bin .Pow (.const (.int 2)) (.bin .Sub (.sub (.glob (Str.ofString "BITS")) (.loc 0)) (.const (.int 1)))) (.const (.int 1))) (.bin .Sub (.bin .Pow (.const (.int 2)) (.sub (.glob (Str.ofString "BITS")) (.loc 0))) (.const (.int 1))))))]
noncomputable def r83 : List RS := [(.ret (some (.cmp2 .LtE .LtE (.call false (.glob (Str.ofString "least")) [(.loc 0)]) (.loc 1) (.call false (.glob (Str.ofString "greatest")) [(.loc 0)]))))]
noncomputable def r90 : List RS := [(.asg (.name 2) (.call false (.glob (Str.ofString "least")) [(.loc 0)])),
    (.ret (some (.bin .Add (.loc 2) (.bin .Mod (.bin .Sub (.loc 1) (.loc 2)) (.bin .Pow (.const (.int 2)) (.sub (.glob (Str.ofString "BITS")) (.loc 0)))))))]
noncomputable def r97 : List RS := [(.ret (some (.call false (.glob (Str.ofString "wrapped")) [(.loc 0), (.call false (.glob (Str.ofString "int")) [(.loc 1)])])))]
noncomputable def r111 : List RS := [(.ite (.cmp .Eq (.loc 0) (.const (.str (Str.ofString "+")))) [(.ret (some (.bin .Add (.loc 1) (.loc 2))))] []),
    (.ite (.cmp .Eq (.loc 0) (.const (.str (Str.ofString "-")))) [(.ret (some (.bin .Sub (.loc 1) (.loc 2))))] []),
    (.ite (.cmp .Eq (.loc 0) (.const (.str (Str.ofString "*")))) [(.ret (some (.bin .Mult (.loc 1) (.loc 2))))] []),
    (.ite (.cmp .Eq (.loc 0) (.const (.str (Str.ofString "&")))) [(.ret (some (.bin .BitAnd (.loc 1) (.loc 2))))] []),
    (.ite (.cmp .Eq (.loc 0) (.const (.str (Str.ofString "|")))) [(.ret (some (.bin .BitOr (.loc 1) (.loc 2))))] []),
    (.ite (.cmp .Eq (.loc 0) (.const (.str (Str.ofString "^")))) [(.ret (some (.bin .BitXor (.loc 1) (.loc 2))))] []),
    (.ite (.cmp .NotIn (.loc 0) (.tup [(.const (.str (Str.ofString "/"))), (.const (.str (Str.ofString "%")))])) [.stuck] []),
    (.ite (.cmp .Eq (.loc 2) (.const (.int 0))) [(.ret (some (.const CV.none)))] []),
    (.ret (some (.ite (.cmp .Eq (.loc 0) (.const (.str (Str.ofString "/")))) (.call false (.glob (Str.ofString "cut_quotient")) [(.loc 1), (.loc 2)]) (.bin .Sub (.loc 1) (.bin .Mult (.loc 2) (.call false (.glob (Str.ofString "cut_quotient")) [(.loc 1), (.loc 2)]))))))]
noncomputable def r118 : List RS := [(.ite (.cmp .In (.loc 1) (.tup [(.const (.str (Str.ofString "<<"))), (.const (.str (Str.ofString ">>")))])) [(.ret (some (.call false (.glob (Str.ofString "shifted")) [(.loc 0), (.loc 1), (.loc 2), (.loc 3)])))] []),
    (.asg (.name 4) (.call false (.glob (Str.ofString "exact")) [(.loc 1), (.loc 2), (.loc 3)])),
    (.ite (.cmp .Is (.loc 4) (.const CV.none)) [(.ret (some (.tup [(.const CV.none), (.const (.bool false))])))] []),
    (.ite (.and [(.cmp .Eq (.loc 1) (.const (.str (Str.ofString "%")))), (.cmp .Eq (.loc 3) (.neg (.const (.int 1)))), (.call false (.glob (Str.ofString "is_signed")) [(.loc 0)])]) [(.ret (some (.tup [(.const (.int 0)), (.cmp .Eq (.loc 2) (.call false (.glob (Str.ofString "least")) [(.loc 0)]))])))] []),
    (.ret (some (.tup [(.call false (.glob (Str.ofString "wrapped")) [(.loc 0), (.loc 4)]), (.not (.call false (.glob (Str.ofString "fits")) [(.loc 0), (.loc 4)]))])))]
noncomputable def r132 : List RS := [(.ite (.cmp .Eq (.loc 0) (.const (.str (Str.ofString "==")))) [(.ret (some (.cmp .Eq (.loc 1) (.loc 2))))] []),
    (.ite (.cmp .Eq (.loc 0) (.const (.str (Str.ofString "!=")))) [(.ret (some (.cmp .NotEq (.loc 1) (.loc 2))))] []),
    (.ite (.cmp .Eq (.loc 0) (.const (.str (Str.ofString "<")))) [(.ret (some (.cmp .Lt (.loc 1) (.loc 2))))] []),
    (.ite (.cmp .Eq (.loc 0) (.const (.str (Str.ofString "<=")))) [(.ret (some (.cmp .LtE (.loc 1) (.loc 2))))] []),
    (.ite (.cmp .Eq (.loc 0) (.const (.str (Str.ofString ">")))) [(.ret (some (.cmp .Gt (.loc 1) (.loc 2))))] []),
    (.ite (.cmp .Eq (.loc 0) (.const (.str (Str.ofString ">=")))) [(.ret (some (.cmp .GtE (.loc 1) (.loc 2))))] []),
    .stuck]
noncomputable def r147 : List RS := [(.asg (.attr (.loc 0) (Str.ofString "name")) (.loc 1)),
    (.asg (.attr (.loc 0) (Str.ofString "arg_count")) (.loc 2)),
    (.asg (.attr (.loc 0) (Str.ofString "locals")) (.call false (.glob (Str.ofString "list")) [(.loc 3)])),
    (.asg (.attr (.loc 0) (Str.ofString "blocks")) (.ite (.cmp .Is (.loc 4) (.const CV.none)) (.list false []) (.loc 4))),
    (.asg (.attr (.loc 0) (Str.ofString "spots")) (.ite (.cmp .Is (.loc 5) (.const CV.none)) (.dict false [] []) (.loc 5)))]
noncomputable def r202 : List RS := [(.asg (.name 1) (.sub (.loc 0) (.const (.int 0)))),
    (.ite (.cmp .Eq (.loc 1) (.const (.str (Str.ofString "goto")))) [(.asg (.name 2) (.list false [(.sub (.loc 0) (.const (.int 1)))]))] [(.ite (.cmp .Eq (.loc 1) (.const (.str (Str.ofString "switch")))) [(.asg (.name 2) (.bin .Add (.lcomp 3 (.loc 2) (.sub (.loc 0) (.const (.int 2))) (.tup [1, 2]) [] []) (.list false [(.sub (.loc 0) (.const (.int 3)))])))] [(.ite (.cmp .Eq (.loc 1) (.const (.str (Str.ofString "call")))) [(.asg (.name 2) (.list false [(.sub (.loc 0) (.const (.int 4)))]))] [(.ite (.cmp .Eq (.loc 1) (.const (.str (Str.ofString "drop")))) [(.asg (.name 2) (.list false [(.sub (.loc 0) (.const (.int 2)))]))] [(.ite (.cmp .Eq (.loc 1) (.const (.str (Str.ofString "assert")))) [(.asg (.name 2) (.list false [(.sub (.loc 0) (.const (.int 4)))]))] [(.asg (.name 2) (.list false []))])])])])]),
    (.asg (.name 4) (.list true [])),
    (.for (.name 3) (.loc 2) [(.ite (.and [(.cmp .IsNot (.loc 3) (.const CV.none)), (.cmp .NotIn (.loc 3) (.loc 4))]) [(.expr (.meth false (.loc 4) (Str.ofString "append") [(.loc 3)]))] [])]),
    (.freeze 4),
    (.ret (some (.loc 4)))]
noncomputable def r209 : List RS := [(.ite (.cmp .Eq (.sub (.loc 0) (.const (.int 0))) (.const (.str (Str.ofString "tuple")))) [(.ret (some (.cmp .Eq (.lcomp 2 (.loc 1) (.sub (.loc 0) (.const (.int 1))) (.name 1) [(.cmp .NotIn (.sub (.loc 1) (.const (.int 0))) (.glob (Str.ofString "PLAIN")))] []) (.list false []))))] []),
    (.ret (some (.cmp .In (.sub (.loc 0) (.const (.int 0))) (.glob (Str.ofString "PLAIN")))))]
noncomputable def r216 : List RS := [(.asg (.name 1) (.dict true [] [])),
    (.for (.tup [2, 3]) (.attr (.loc 0) (Str.ofString "blocks")) [(.for (.name 4) (.loc 2) [(.ite (.and [(.cmp .Eq (.sub (.loc 4) (.const (.int 0))) (.const (.str (Str.ofString "assign")))), (.cmp .Eq (.sub (.sub (.loc 4) (.const (.int 2))) (.const (.int 0))) (.const (.str (Str.ofString "ref"))))]) [(.asg (.sub (.loc 1) (.sub (.sub (.sub (.loc 4) (.const (.int 2))) (.const (.int 3))) (.const (.int 0)))) (.const (.bool true)))] [])])]),
    (.freeze 1),
    (.ret (some (.loc 1)))]
noncomputable def r230 : List RS := [(.asg (.attr (.loc 0) (Str.ofString "known")) (.call true (.glob (Str.ofString "dict")) [(.loc 1)]))]
noncomputable def r237 : List RS := [(.asg (.name 2) (.meth false (.attr (.loc 0) (Str.ofString "known")) (Str.ofString "get") [(.sub (.loc 1) (.const (.int 0)))])),
    (.for (.name 3) (.sub (.loc 1) (.const (.int 1))) [(.ite (.or [(.cmp .Is (.loc 2) (.const CV.none)), (.cmp .NotEq (.sub (.loc 3) (.const (.int 0))) (.const (.str (Str.ofString "field"))))]) [(.ret (some (.const CV.none)))] []),
    (.asg (.name 2) (.sub (.loc 2) (.sub (.loc 3) (.const (.int 1)))))]),
    (.ret (some (.loc 2)))]
noncomputable def r244 : List RS := [(.ite (.cmp .Eq (.sub (.loc 1) (.const (.int 0))) (.const (.str (Str.ofString "const")))) [(.ret (some (.ite (.cmp .In (.sub (.sub (.loc 1) (.const (.int 1))) (.const (.int 0))) (.glob (Str.ofString "PLAIN"))) (.sub (.loc 1) (.const (.int 2))) (.const CV.none))))] []),
    (.ret (some (.meth false (.loc 0) (Str.ofString "at_place") [(.sub (.loc 1) (.const (.int 1)))])))]
noncomputable def r251 : List RS := [(.expr (.meth false (.attr (.loc 0) (Str.ofString "known")) (Str.ofString "pop") [(.sub (.loc 1) (.const (.int 0))), (.const CV.none)]))]
noncomputable def r265 : List RS := [(.ite (.cmp .In (.loc 0) (.glob (Str.ofString "COMPARED"))) [(.ret (some (.call false (.glob (Str.ofString "compared")) [(.loc 0), (.loc 2), (.loc 3)])))] []),
    (.ite (.cmp .Eq (.sub (.loc 1) (.const (.int 0))) (.const (.str (Str.ofString "bool")))) [(.ret (some (.meth false .stuck (Str.ofString "get") [(.loc 0)])))] []),
    (.ret (some (.sub (.call false (.glob (Str.ofString "checked")) [(.sub (.loc 1) (.const (.int 1))), (.loc 0), (.loc 2), (.loc 3)]) (.const (.int 0)))))]
noncomputable def r279 : List RS := [(.asg (.attr (.loc 0) (Str.ofString "body")) (.loc 1)),
    (.asg (.name 2) (.call false (.glob (Str.ofString "lent_locals")) [(.loc 1)])),
    (.asg (.attr (.loc 0) (Str.ofString "followed")) (.dict true [] [])),
    (.for (.name 3) (.call false (.glob (Str.ofString "range")) [(.call false (.glob (Str.ofString "len")) [(.attr (.loc 1) (Str.ofString "locals"))])]) [(.ite (.and [(.call false (.glob (Str.ofString "is_followed")) [(.sub (.sub (.attr (.loc 1) (Str.ofString "locals")) (.loc 3)) (.const (.int 0)))]), (.cmp .NotIn (.loc 3) (.loc 2))]) [(.asg (.sub (.attr (.loc 0) (Str.ofString "followed")) (.loc 3)) (.const (.bool true)))] [])]),
    (.asg (.attr (.loc 0) (Str.ofString "begins")) (.dict true [0] [(.dict false [] [])]))]
noncomputable def r286 : List RS := [(.ite (.cmp .Eq (.sub (.loc 1) (.const (.int 0))) (.const (.str (Str.ofString "const")))) [(.ret (some (.sub (.loc 1) (.const (.int 1)))))] []),
    (.asg (.tup [2, 3]) (.sub (.loc 1) (.const (.int 1)))),
    (.asg (.name 4) (.sub (.sub (.attr (.attr (.loc 0) (Str.ofString "body")) (Str.ofString "locals")) (.loc 2)) (.const (.int 0)))),
    (.for (.name 5) (.loc 3) [(.ite (.or [(.cmp .NotEq (.sub (.loc 5) (.const (.int 0))) (.const (.str (Str.ofString "field")))), (.cmp .NotEq (.sub (.loc 4) (.const (.int 0))) (.const (.str (Str.ofString "tuple"))))]) [(.ret (some (.const CV.none)))] []),
    (.asg (.name 4) (.sub (.sub (.loc 4) (.const (.int 1))) (.sub (.loc 5) (.const (.int 1)))))]),
    (.ret (some (.loc 4)))]
noncomputable def r291 : List RS := [(.asg (.name 3) (.sub (.loc 1) (.const (.int 0)))),
    (.ite (.cmp .Eq (.loc 3) (.const (.str (Str.ofString "use")))) [(.ret (some (.meth false (.loc 2) (Str.ofString "at_operand") [(.sub (.loc 1) (.const (.int 1)))])))] []),
    (.ite (.cmp .Eq (.loc 3) (.const (.str (Str.ofString "tuple")))) [(.asg (.name 4) (.lcomp 2 (.meth false (.loc 4) (Str.ofString "at_operand") [(.loc 1)]) (.sub (.loc 1) (.const (.int 1))) (.name 1) [] [])),
    (.ret (some (.ite (.cmp .In (.const CV.none) (.loc 4)) (.const CV.none) (.call false (.glob (Str.ofString "tuple")) [(.loc 4)]))))] []),
    (.ite (.cmp .In (.loc 3) (.tup [(.const (.str (Str.ofString "binary"))), (.const (.str (Str.ofString "checked")))])) [(.ret (some (.meth false (.loc 0) (Str.ofString "of_two") [(.loc 1), (.loc 2)])))] []),
    (.ite (.cmp .Eq (.loc 3) (.const (.str (Str.ofString "unary")))) [(.ret (some (.meth false (.loc 0) (Str.ofString "of_one") [(.loc 1), (.loc 2)])))] []),
    (.ite (.cmp .Eq (.loc 3) (.const (.str (Str.ofString "cast")))) [(.ret (some (.meth false (.loc 0) (Str.ofString "of_cast") [(.loc 1), (.loc 2)])))] []),
    (.ret (some (.const CV.none)))]
noncomputable def r298 : List RS := [(.asg (.tup [3, 4, 5, 6]) (.loc 1)),
    (.asg (.swap [7, 8, 9]) (.tup [(.meth false (.loc 2) (Str.ofString "at_operand") [(.loc 5)]), (.meth false (.loc 2) (Str.ofString "at_operand") [(.loc 6)]), (.meth false (.loc 0) (Str.ofString "type_of") [(.loc 5)])])),
    (.ite (.or [(.cmp .Is (.loc 7) (.const CV.none)), (.cmp .Is (.loc 8) (.const CV.none)), (.cmp .Is (.loc 9) (.const CV.none)), (.cmp .NotIn (.sub (.loc 9) (.const (.int 0))) (.glob (Str.ofString "PLAIN")))]) [(.ret (some (.const CV.none)))] []),
    (.ite (.cmp .Eq (.loc 3) (.const (.str (Str.ofString "binary")))) [(.ret (some (.call false (.glob (Str.ofString "reckoned_binary")) [(.loc 4), (.loc 9), (.loc 7), (.loc 8)])))] []),
    (.asg (.name 10) (.call false (.glob (Str.ofString "checked")) [(.sub (.loc 9) (.const (.int 1))), (.loc 4), (.loc 7), (.loc 8)])),
    (.ret (some (.ite (.cmp .Is (.sub (.loc 10) (.const (.int 0))) (.const CV.none)) (.const CV.none) (.loc 10))))]
noncomputable def r305 : List RS := [(.asg (.swap [3, 4]) (.tup [(.meth false (.loc 2) (Str.ofString "at_operand") [(.sub (.loc 1) (.const (.int 2)))]), (.meth false (.loc 0) (Str.ofString "type_of") [(.sub (.loc 1) (.const (.int 2)))])])),
    (.ite (.or [(.cmp .Is (.loc 3) (.const CV.none)), (.cmp .Is (.loc 4) (.const CV.none))]) [(.ret (some (.const CV.none)))] []),
    (.ite (.cmp .Eq (.sub (.loc 1) (.const (.int 1))) (.const (.str (Str.ofString "!")))) [(.ret (some (.ite (.cmp .Eq (.sub (.loc 4) (.const (.int 0))) (.const (.str (Str.ofString "bool")))) (.not (.loc 3)) (.call false (.glob (Str.ofString "wrapped")) [(.sub (.loc 4) (.const (.int 1))), (.bin .Sub (.neg (.const (.int 1))) (.loc 3))]))))] []),
    (.ret (some (.call false (.glob (Str.ofString "wrapped")) [(.sub (.loc 4) (.const (.int 1))), (.bin .Sub (.const (.int 0)) (.loc 3))])))]
noncomputable def r312 : List RS := [(.asg (.name 3) (.meth false (.loc 2) (Str.ofString "at_operand") [(.sub (.loc 1) (.const (.int 1)))])),
    (.ite (.or [(.cmp .Is (.loc 3) (.const CV.none)), (.cmp .NotEq (.sub (.sub (.loc 1) (.const (.int 2))) (.const (.int 0))) (.const (.str (Str.ofString "int"))))]) [(.ret (some (.const CV.none)))] []),
    (.ret (some (.call false (.glob (Str.ofString "cast_int")) [(.sub (.sub (.loc 1) (.const (.int 2))) (.const (.int 1))), (.call false (.glob (Str.ofString "int")) [(.loc 3)])])))]
noncomputable def r319 : List RS := [(.ite (.cmp .Eq (.sub (.loc 1) (.const (.int 0))) (.const (.str (Str.ofString "assign")))) [(.asg (.swap [3, 4]) (.tup [(.sub (.loc 1) (.const (.int 1))), (.sub (.loc 1) (.const (.int 2)))])),
    (.asg (.name 5) (.meth false (.loc 0) (Str.ofString "value_of") [(.loc 4), (.loc 2)])),
    (.expr (.meth false (.loc 2) (Str.ofString "forget") [(.loc 3)])),
    (.ite (.and [(.cmp .IsNot (.loc 5) (.const CV.none)), (.cmp .Eq (.sub (.loc 3) (.const (.int 1))) (.tup [])), (.cmp .In (.sub (.loc 3) (.const (.int 0))) (.attr (.loc 0) (Str.ofString "followed")))]) [(.asg (.sub (.attr (.loc 2) (Str.ofString "known")) (.sub (.loc 3) (.const (.int 0)))) (.loc 5))] [])] [(.ite (.cmp .In (.sub (.loc 1) (.const (.int 0))) (.tup [(.const (.str (Str.ofString "live"))), (.const (.str (Str.ofString "dead")))])) [(.expr (.meth false (.loc 2) (Str.ofString "forget") [(.tup [(.sub (.loc 1) (.const (.int 1))), (.tup [])])]))] [])])]
noncomputable def r326 : List RS := [(.asg (.name 2) (.call false (.glob (Str.ofString "Facts")) [(.sub (.attr (.loc 0) (Str.ofString "begins")) (.loc 1))])),
    (.asg (.tup [3, 4]) (.sub (.attr (.attr (.loc 0) (Str.ofString "body")) (Str.ofString "blocks")) (.loc 1))),
    (.for (.name 5) (.loc 3) [(.expr (.meth false (.loc 0) (Str.ofString "step") [(.loc 5), (.loc 2)]))]),
    (.ret (some (.loc 2)))]
noncomputable def r331 : List RS := [(.asg (.name 3) (.sub (.sub (.attr (.attr (.loc 0) (Str.ofString "body")) (Str.ofString "blocks")) (.loc 1)) (.const (.int 1)))),
    (.ite (.cmp .Eq (.sub (.loc 3) (.const (.int 0))) (.const (.str (Str.ofString "call")))) [(.expr (.meth false (.loc 2) (Str.ofString "forget") [(.sub (.loc 3) (.const (.int 3)))]))] []),
    (.ite (.cmp .Eq (.sub (.loc 3) (.const (.int 0))) (.const (.str (Str.ofString "drop")))) [(.expr (.meth false (.loc 2) (Str.ofString "forget") [(.sub (.loc 3) (.const (.int 1)))]))] []),
    (.asg (.name 4) (.meth false (.loc 0) (Str.ofString "known_target") [(.loc 3), (.loc 2)])),
    (.ite (.cmp .IsNot (.loc 4) (.const CV.none)) [(.ret (some (.list false [(.tup [(.loc 4), (.attr (.loc 2) (Str.ofString "known"))])])))] []),
    (.ret (some (.lcomp 2 (.tup [(.loc 1), (.attr (.loc 4) (Str.ofString "known"))]) (.call false (.glob (Str.ofString "successors")) [(.loc 3)]) (.name 1) [] [])))]
noncomputable def r338 : List RS := [(.ite (.cmp .Eq (.sub (.loc 1) (.const (.int 0))) (.const (.str (Str.ofString "switch")))) [(.asg (.name 3) (.meth false (.loc 2) (Str.ofString "at_operand") [(.sub (.loc 1) (.const (.int 1)))])),
    (.ite (.cmp .Is (.loc 3) (.const CV.none)) [(.ret (some (.const CV.none)))] []),
    (.for (.tup [4, 5]) (.sub (.loc 1) (.const (.int 2))) [(.ite (.cmp .Eq (.loc 4) (.loc 3)) [(.ret (some (.loc 5)))] [])]),
    (.ret (some (.sub (.loc 1) (.const (.int 3)))))] []),
    (.ite (.and [(.cmp .Eq (.sub (.loc 1) (.const (.int 0))) (.const (.str (Str.ofString "assert")))), (.cmp .Eq (.meth false (.loc 2) (Str.ofString "at_operand") [(.sub (.loc 1) (.const (.int 1)))]) (.sub (.loc 1) (.const (.int 2))))]) [(.ret (some (.sub (.loc 1) (.neg (.const (.int 1))))))] []),
    (.ret (some (.const CV.none)))]
noncomputable def r343 : List RS := [(.ite (.cmp .NotIn (.loc 1) (.attr (.loc 0) (Str.ofString "begins"))) [(.asg (.sub (.attr (.loc 0) (Str.ofString "begins")) (.loc 1)) (.call false (.glob (Str.ofString "dict")) [(.loc 2)])),
    (.ret (some (.const (.bool true))))] []),
    (.asg (.name 3) (.sub (.attr (.loc 0) (Str.ofString "begins")) (.loc 1))),
    (.asg (.name 4) (.dcomp 2 (.loc 1) (.sub (.loc 5) (.loc 1)) (.loc 3) (.name 1) [(.and [(.cmp .In (.loc 1) (.loc 4)), (.cmp .Eq (.sub (.loc 4) (.loc 1)) (.sub (.loc 5) (.loc 1)))])])),
    (.asg (.sub (.attr (.loc 0) (Str.ofString "begins")) (.loc 1)) (.loc 4)),
    (.ret (some (.cmp .Lt (.call false (.glob (Str.ofString "len")) [(.loc 4)]) (.call false (.glob (Str.ofString "len")) [(.loc 3)]))))]
noncomputable def r350 : List RS := [(.asg (.name 1) (.list true [(.const (.int 0))])),
    (.while (.cmp .NotEq (.loc 1) (.list false [])) [(.asg (.name 2) (.meth false (.loc 1) (Str.ofString "pop") [])),
    (.for (.tup [3, 4]) (.meth false (.loc 0) (Str.ofString "gone_on") [(.loc 2), (.meth false (.loc 0) (Str.ofString "behind") [(.loc 2)])]) [(.ite (.meth false (.loc 0) (Str.ofString "meet") [(.loc 3), (.loc 4)]) [(.expr (.meth false (.loc 1) (Str.ofString "append") [(.loc 3)]))] [])])])]
noncomputable def r392 : List RS := [(.asg (.name 1) (.ite (.cmp .NotEq (.loc 0) (.list false [])) (.sub (.loc 0) (.const (.int 0))) (.const (.int 0)))),
    (.asg (.name 2) (.call false (.glob (Str.ofString "max")) [(.loc 1), (.bin .Sub (.neg (.const (.int 1))) (.loc 1))])),
    (.ret (some (.list true [(.bin .Mult (.loc 2) (.call false (.glob (Str.ofString "int")) [(.cmp .GtE (.loc 2) (.bin .Pow (.const (.int 10)) (.const (.int 18))))])), (.bin .Mod (.bin .Mult (.bin .Add (.bin .Mod (.loc 2) (.const (.int 2147483629))) (.const (.int 17))) (.const (.int 48271))) (.const (.int 2147483647)))])))]
noncomputable def r399 : List RS := [(.ite (.cmp .Gt (.sub (.loc 0) (.const (.int 0))) (.const (.int 0))) [(.asg (.name 2) (.bin .Mod (.sub (.loc 0) (.const (.int 0))) (.loc 1))),
    (.asg (.sub (.loc 0) (.const (.int 0))) (.bin .FloorDiv (.sub (.loc 0) (.const (.int 0))) (.loc 1))),
    (.ret (some (.loc 2)))] []),
    (.asg (.sub (.loc 0) (.const (.int 1))) (.bin .Mod (.bin .Add (.bin .Mult (.sub (.loc 0) (.const (.int 1))) (.const (.int 39373))) (.const (.int 7))) (.const (.int 2147483647)))),
    (.ret (some (.bin .Mod (.bin .FloorDiv (.bin .Mod (.bin .Mult (.sub (.loc 0) (.const (.int 1))) (.sub (.loc 0) (.const (.int 1)))) (.const (.int 2147483629))) (.const (.int 32))) (.loc 1))))]
noncomputable def r406 : List RS := [(.ret (some (.sub (.loc 1) (.call false (.glob (Str.ofString "_law_take")) [(.loc 0), (.call false (.glob (Str.ofString "len")) [(.loc 1)])]))))]
noncomputable def r413 : List RS := [(.ret (some (.tup [(.const (.str (Str.ofString "int"))), (.const (.str (Str.ofString "u8")))])))]
noncomputable def r418 : List RS := [(.asg (.name 1) (.tup [(.const (.str (Str.ofString "tuple"))), (.tup [(.call false (.glob (Str.ofString "_law_u8")) []), (.tup [(.const (.str (Str.ofString "bool")))])])])),
    (.asg (.name 2) (.bin .Add (.bin .Mult (.list false [(.call false (.glob (Str.ofString "_law_u8")) [])]) (.const (.int 4))) (.list false [(.tup [(.const (.str (Str.ofString "bool")))]), (.loc 1), (.tup [(.const (.str (Str.ofString "bool")))]), (.tup [(.const (.str (Str.ofString "ref"))), (.const CV.none), (.const (.bool false)), (.call false (.glob (Str.ofString "_law_u8")) [])])]))),
    (.ret (some (.call false (.glob (Str.ofString "Body")) [(.const (.str (Str.ofString "f"))), (.const (.int 0)), (.lcomp 2 (.tup [(.loc 1), (.const (.bool true)), (.const CV.none)]) (.loc 2) (.name 1) [] []), (.loc 0)])))]
noncomputable def r425 : List RS := [(.asg (.name 2) (.ite (.cmp .In (.sub (.loc 1) (.const (.int 0))) (.loc 0)) (.list false [(.sub (.loc 0) (.sub (.loc 1) (.const (.int 0))))]) (.list false []))),
    (.for (.name 3) (.sub (.loc 1) (.const (.int 1))) [(.asg (.name 2) (.ite (.and [(.cmp .NotEq (.loc 2) (.list false [])), (.cmp .Eq (.sub (.loc 3) (.const (.int 0))) (.const (.str (Str.ofString "field"))))]) (.list false [(.sub (.sub (.loc 2) (.const (.int 0))) (.sub (.loc 3) (.const (.int 1))))]) (.list false [])))]),
    (.ret (some (.ite (.cmp .NotEq (.loc 2) (.list false [])) (.sub (.loc 2) (.const (.int 0))) (.const CV.none))))]
noncomputable def r432 : List RS := [(.ite (.cmp .NotEq (.sub (.loc 1) (.const (.int 0))) (.const (.str (Str.ofString "const")))) [(.ret (some (.call false (.glob (Str.ofString "_law_at")) [(.loc 0), (.sub (.loc 1) (.const (.int 1)))])))] []),
    (.ret (some (.ite (.cmp .In (.sub (.sub (.loc 1) (.const (.int 1))) (.const (.int 0))) (.list false [(.const (.str (Str.ofString "int"))), (.const (.str (Str.ofString "bool")))])) (.sub (.loc 1) (.const (.int 2))) (.const CV.none))))]
noncomputable def r437 : List RS := [(.asg (.tup [1, 2]) (.tup [(.call false (.glob (Str.ofString "Facts")) [(.loc 0)]), (.list false [(.tup []), (.tup [(.tup [(.const (.str (Str.ofString "field"))), (.const (.int 0))])]), (.tup [(.tup [(.const (.str (Str.ofString "field"))), (.const (.int 1))])]), (.tup [(.tup [(.const (.str (Str.ofString "field"))), (.const (.int 1))]), (.tup [(.const (.str (Str.ofString "field"))), (.const (.int 0))])]), (.tup [(.tup [(.const (.str (Str.ofString "deref")))])])])])),
    (.for (.name 3) (.bin .Add (.lcomp 3 (.tup [(.loc 1), (.loc 2)]) (.list false [(.const (.int 0)), (.const (.int 1))]) (.name 1) [] [(.mk (.loc 5) (.name 2) [])]) (.list false [(.tup [(.const (.int 2)), (.tup [])]), (.tup [(.const (.int 2)), (.tup [(.tup [(.const (.str (Str.ofString "index"))), (.const (.int 0))])])]), (.tup [(.const (.int 3)), (.tup [])])])) [(.asg (.name 4) (.call false (.glob (Str.ofString "_law_at")) [(.loc 0), (.loc 3)])),
    (.asg (.name 5) (.list false [(.meth false (.loc 1) (Str.ofString "at_place") [(.loc 3)]), (.meth false (.loc 1) (Str.ofString "at_operand") [(.tup [(.const (.str (Str.ofString "copy"))), (.loc 3)])]), (.meth false (.loc 1) (Str.ofString "at_operand") [(.tup [(.const (.str (Str.ofString "move"))), (.loc 3)])])])),
    (.ite (.cmp .NotEq (.loc 5) (.list false [(.loc 4), (.loc 4), (.loc 4)])) [(.ret (some (.const (.bool false))))] [])]),
    (.ret (some (.cmp .Eq (.attr (.loc 1) (Str.ofString "known")) (.loc 0))))]
noncomputable def r442 : List RS := [(.asg (.tup [2, 3]) (.tup [(.call false (.glob (Str.ofString "Constants")) [(.call false (.glob (Str.ofString "_law_body")) [(.list false [(.list false [(.list false []), (.tup [(.const (.str (Str.ofString "return")))])])])])]), (.call false (.glob (Str.ofString "Facts")) [(.loc 1)])])),
    (.asg (.name 4) (.list true [(.tup [(.const (.str (Str.ofString "copy"))), (.tup [(.const (.int 0)), (.tup [])])]), (.tup [(.const (.str (Str.ofString "move"))), (.tup [(.const (.int 1)), (.tup [])])]), (.tup [(.const (.str (Str.ofString "const"))), (.call false (.glob (Str.ofString "_law_u8")) []), (.call false (.glob (Str.ofString "_law_take")) [(.loc 0), (.const (.int 256))])])])),
    (.expr (.meth false (.loc 4) (Str.ofString "append") [(.tup [(.const (.str (Str.ofString "copy"))), (.tup [(.const (.int 5)), (.tup [(.tup [(.const (.str (Str.ofString "field"))), (.const (.int 0))])])])])])),
    (.freeze 4),
    (.asg (.swap [5, 6, 7]) (.tup [(.call false (.glob (Str.ofString "_law_one")) [(.loc 0), (.loc 4)]), (.call false (.glob (Str.ofString "_law_one")) [(.loc 0), (.loc 4)]), (.tup [(.const (.str (Str.ofString "copy"))), (.tup [(.const (.int 4)), (.tup [])])])])),
    (.asg (.swap [8, 9, 10]) (.tup [(.call false (.glob (Str.ofString "_law_of")) [(.loc 1), (.loc 5)]), (.call false (.glob (Str.ofString "_law_of")) [(.loc 1), (.loc 6)]), (.call false (.glob (Str.ofString "_law_of")) [(.loc 1), (.loc 7)])])),
    (.asg (.name 11) (.and [(.cmp .IsNot (.loc 8) (.const CV.none)), (.cmp .IsNot (.loc 9) (.const CV.none))])),
    (.asg (.name 12) (.list false [(.tup [(.tup [(.const (.str (Str.ofString "use"))), (.loc 5)]), (.loc 8)]), (.tup [(.tup [(.const (.str (Str.ofString "tuple"))), (.tup [])]), (.tup [])])])),
    (.asg (.name 12) (.bin .Add (.loc 12) (.list false [(.tup [(.tup [(.const (.str (Str.ofString "tuple"))), (.tup [(.loc 5), (.loc 7)])]), (.ite (.or [(.cmp .Is (.loc 8) (.const CV.none)), (.cmp .Is (.loc 10) (.const CV.none))]) (.const CV.none) (.tup [(.loc 8), (.loc 10)]))])]))),
    (.asg (.name 12) (.bin .Add (.loc 12) (.list false [(.tup [(.tup [(.const (.str (Str.ofString "binary"))), (.const (.str (Str.ofString "+"))), (.loc 5), (.loc 6)]), (.ite (.loc 11) (.bin .Mod (.bin .Add (.loc 8) (.loc 9)) (.const (.int 256))) (.const CV.none))])]))),
    (.asg (.name 12) (.bin .Add (.loc 12) (.list false [(.tup [(.tup [(.const (.str (Str.ofString "checked"))), (.const (.str (Str.ofString "+"))), (.loc 5), (.loc 6)]), (.ite (.loc 11) (.tup [(.bin .Mod (.bin .Add (.loc 8) (.loc 9)) (.const (.int 256))), (.cmp .Gt (.bin .Add (.loc 8) (.loc 9)) (.const (.int 255)))]) (.const CV.none))])]))),
    (.asg (.name 12) (.bin .Add (.loc 12) (.list false [(.tup [(.tup [(.const (.str (Str.ofString "binary"))), (.const (.str (Str.ofString "<"))), (.loc 5), (.loc 6)]), (.ite (.loc 11) (.cmp .Lt (.loc 8) (.loc 9)) (.const CV.none))])]))),
    (.asg (.name 12) (.bin .Add (.loc 12) (.list false [(.tup [(.tup [(.const (.str (Str.ofString "unary"))), (.const (.str (Str.ofString "!"))), (.loc 7)]), (.ite (.cmp .Is (.loc 10) (.const CV.none)) (.const CV.none) (.not (.loc 10)))])]))),
    (.asg (.name 12) (.bin .Add (.loc 12) (.list false [(.tup [(.tup [(.const (.str (Str.ofString "unary"))), (.const (.str (Str.ofString "-"))), (.loc 5)]), (.ite (.cmp .Is (.loc 8) (.const CV.none)) (.const CV.none) (.bin .Mod (.bin .Sub (.const (.int 256)) (.loc 8)) (.const (.int 256))))])]))),
    (.asg (.name 12) (.bin .Add (.loc 12) (.list false [(.tup [(.tup [(.const (.str (Str.ofString "cast"))), (.loc 5), (.tup [(.const (.str (Str.ofString "int"))), (.const (.str (Str.ofString "i8")))])]), (.ite (.cmp .Is (.loc 8) (.const CV.none)) (.const CV.none) (.bin .Sub (.bin .Mod (.bin .Add (.loc 8) (.const (.int 128))) (.const (.int 256))) (.const (.int 128))))])]))),
    (.asg (.name 12) (.bin .Add (.loc 12) (.list false [(.tup [(.tup [(.const (.str (Str.ofString "cast"))), (.loc 7), (.call false (.glob (Str.ofString "_law_u8")) [])]), (.ite (.cmp .Is (.loc 10) (.const CV.none)) (.const CV.none) (.call false (.glob (Str.ofString "int")) [(.loc 10)]))])]))),
    (.asg (.name 12) (.bin .Add (.loc 12) (.list false [(.tup [(.tup [(.const (.str (Str.ofString "ref"))), (.const CV.none), (.const (.str (Str.ofString "shared"))), (.tup [(.const (.int 0)), (.tup [])])]), (.const CV.none)])]))),
    (.asg (.name 12) (.bin .Add (.loc 12) (.list false [(.tup [(.tup [(.const (.str (Str.ofString "array"))), (.tup [(.loc 5), (.loc 5)])]), (.const CV.none)]), (.tup [(.tup [(.const (.str (Str.ofString "box"))), (.loc 5)]), (.const CV.none)]), (.tup [(.tup [(.const (.str (Str.ofString "discriminant"))), (.tup [(.const (.int 5)), (.tup [])])]), (.const CV.none)])]))),
    (.asg (.name 12) (.bin .Add (.loc 12) (.list false [(.tup [(.tup [(.const (.str (Str.ofString "adt"))), (.tup [(.const (.str (Str.ofString "adt"))), (.const (.str (Str.ofString "S"))), (.tup []), (.tup [])]), (.const (.int 0)), (.tup [(.loc 5)])]), (.const CV.none)])]))),
    (.ret (some (.cmp .Eq (.lcomp 2 (.loc 1) (.loc 12) (.name 1) [(.cmp .NotEq (.meth false (.loc 4) (Str.ofString "value_of") [(.sub (.loc 1) (.const (.int 0))), (.loc 5)]) (.sub (.loc 1) (.const (.int 1))))] []) (.list false []))))]
noncomputable def r447 : List RS := [(.asg (.swap [1, 2]) (.tup [(.call false (.glob (Str.ofString "Constants")) [(.call false (.glob (Str.ofString "_law_body")) [(.list false [(.list false [(.list false []), (.tup [(.const (.str (Str.ofString "return")))])])])])]), (.const CV.none)])),
    (.for (.name 3) (.loc 0) [(.asg (.name 4) (.loc 2)),
    (.asg (.name 2) (.call false (.glob (Str.ofString "dict")) [(.loc 3)])),
    (.ite (.cmp .IsNot (.loc 4) (.const CV.none)) [(.asg (.name 2) (.call false (.glob (Str.ofString "dict")) [(.lcomp 2 (.tup [(.loc 1), (.sub (.loc 6) (.loc 1))]) (.loc 4) (.name 1) [(.and [(.cmp .In (.loc 1) (.loc 5)), (.cmp .Eq (.sub (.loc 5) (.loc 1)) (.sub (.loc 6) (.loc 1)))])] [])]))] []),
    (.ite (.or [(.cmp .NotEq (.meth false (.loc 1) (Str.ofString "meet") [(.const (.int 3)), (.call false (.glob (Str.ofString "dict")) [(.loc 3)])]) (.or [(.cmp .Is (.loc 4) (.const CV.none)), (.cmp .Lt (.call false (.glob (Str.ofString "len")) [(.loc 2)]) (.call false (.glob (Str.ofString "len")) [(.loc 4)]))])), (.cmp .NotEq (.sub (.attr (.loc 1) (Str.ofString "begins")) (.const (.int 3))) (.loc 2))]) [(.ret (some (.const (.bool false))))] [])]),
    (.ret (some (.const (.bool true))))]
noncomputable def r454 : List RS := [(.asg (.swap [1, 2, 3]) (.tup [(.call false (.glob (Str.ofString "_law_take")) [(.loc 0), (.const (.int 7))]), (.call false (.glob (Str.ofString "_law_take")) [(.loc 0), (.const (.int 4))]), (.call false (.glob (Str.ofString "_law_take")) [(.loc 0), (.const (.int 4))])])),
    (.ite (.cmp .Lt (.loc 1) (.const (.int 2))) [(.asg (.name 4) (.call false (.glob (Str.ofString "_law_take")) [(.loc 0), (.const (.int 2))])),
    (.ret (some (.tup [(.tup [(.const (.str (Str.ofString "assign"))), (.tup [(.loc 2), (.tup [])]), (.tup [(.const (.str (Str.ofString "use"))), (.tup [(.const (.str (Str.ofString "const"))), (.call false (.glob (Str.ofString "_law_u8")) []), (.loc 4)])])]), (.tup [(.loc 2), (.loc 4), (.const CV.none)])])))] []),
    (.ite (.cmp .Lt (.loc 1) (.const (.int 4))) [(.ret (some (.tup [(.tup [(.const (.str (Str.ofString "assign"))), (.tup [(.loc 2), (.tup [])]), (.tup [(.const (.str (Str.ofString "use"))), (.tup [(.const (.str (Str.ofString "copy"))), (.tup [(.loc 3), (.tup [])])])])]), (.tup [(.loc 2), (.const CV.none), (.loc 3)])])))] []),
    (.ite (.cmp .Eq (.loc 1) (.const (.int 4))) [(.ret (some (.tup [(.tup [(.const (.str (Str.ofString "assign"))), (.tup [(.const (.int 7)), (.tup [])]), (.tup [(.const (.str (Str.ofString "ref"))), (.const CV.none), (.const (.str (Str.ofString "shared"))), (.tup [(.loc 3), (.tup [])])])]), (.tup [(.const (.int 7)), (.const CV.none), (.const CV.none)])])))] []),
    (.ite (.cmp .Eq (.loc 1) (.const (.int 5))) [(.ret (some (.tup [(.tup [(.call false (.glob (Str.ofString "_law_one")) [(.loc 0), (.list false [(.const (.str (Str.ofString "live"))), (.const (.str (Str.ofString "dead")))])]), (.loc 2)]), (.tup [(.loc 2), (.const CV.none), (.const CV.none)])])))] []),
    (.ret (some (.tup [(.tup [(.const (.str (Str.ofString "print"))), (.tup [(.const (.str (Str.ofString "copy"))), (.tup [(.loc 2), (.tup [])])])]), (.const CV.none)])))]
noncomputable def r459 : List RS := [(.ite (.cmp .Eq (.loc 1) (.const (.int 4))) [(.ret (some (.tup [(.tup [(.const (.str (Str.ofString "return")))]), (.list false []), (.const CV.none)])))] []),
    (.asg (.swap [2, 3]) (.tup [(.lcomp 2 (.bin .Add (.bin .Add (.loc 3) (.const (.int 1))) (.call false (.glob (Str.ofString "_law_take")) [(.loc 2), (.bin .Sub (.const (.int 4)) (.loc 3))])) (.call false (.glob (Str.ofString "range")) [(.const (.int 2))]) (.name 1) [] []), (.call false (.glob (Str.ofString "_law_take")) [(.loc 0), (.const (.int 4))])])),
    (.asg (.name 4) (.call false (.glob (Str.ofString "_law_take")) [(.loc 0), (.const (.int 5))])),
    (.ite (.cmp .Eq (.loc 4) (.const (.int 0))) [(.ret (some (.tup [(.tup [(.const (.str (Str.ofString "goto"))), (.sub (.loc 2) (.const (.int 0)))]), (.cut (.loc 2) (.const (.int 1))), (.const CV.none)])))] []),
    (.ite (.cmp .Lt (.loc 4) (.const (.int 3))) [(.ret (some (.tup [(.tup [(.const (.str (Str.ofString "switch"))), (.tup [(.const (.str (Str.ofString "copy"))), (.tup [(.const (.int 6)), (.tup [])])]), (.tup [(.tup [(.const (.bool true)), (.sub (.loc 2) (.const (.int 0)))])]), (.sub (.loc 2) (.const (.int 1)))]), (.loc 2), (.const CV.none)])))] []),
    (.ite (.cmp .Eq (.loc 4) (.const (.int 3))) [(.ret (some (.tup [(.tup [(.const (.str (Str.ofString "call"))), (.tup [(.const (.str (Str.ofString "fn"))), (.const (.str (Str.ofString "g"))), (.tup [])]), (.tup []), (.tup [(.loc 3), (.tup [])]), (.sub (.loc 2) (.const (.int 0)))]), (.cut (.loc 2) (.const (.int 1))), (.loc 3)])))] []),
    (.ret (some (.tup [(.tup [(.const (.str (Str.ofString "drop"))), (.tup [(.loc 3), (.tup [])]), (.sub (.loc 2) (.const (.int 0)))]), (.cut (.loc 2) (.const (.int 1))), (.loc 3)])))]
noncomputable def r464 : List RS := [(.asg (.tup [3, 4]) (.tup [(.dict true [] []), (.list true [(.tup [(.const (.int 0)), (.dict false [] [])])])])),
    (.while (.cmp .NotEq (.loc 4) (.list false [])) [(.asg (.tup [5, 6]) (.meth false (.loc 4) (Str.ofString "pop") [])),
    (.asg (.name 7) (.meth false (.loc 3) (Str.ofString "setdefault") [(.loc 5), (.list true [])])),
    (.expr (.meth false (.loc 7) (Str.ofString "append") [(.call false (.glob (Str.ofString "dict")) [(.loc 6)])])),
    (.asg (.name 8) (.call true (.glob (Str.ofString "dict")) [(.loc 6)])),
    (.for (.name 9) (.sub (.loc 0) (.loc 5)) [(.ite (.cmp .IsNot (.loc 9) (.const CV.none)) [(.asg (.tup [10, 11, 12]) (.loc 9)),
    (.asg (.name 13) (.ite (.cmp .Is (.loc 11) (.const CV.none)) (.meth false (.loc 8) (Str.ofString "get") [(.loc 12)]) (.loc 11))),
    (.expr (.meth false (.loc 8) (Str.ofString "pop") [(.loc 10), (.const CV.none)])),
    (.ite (.and [(.cmp .IsNot (.loc 13) (.const CV.none)), (.cmp .NotIn (.loc 10) (.loc 2)), (.cmp .Lt (.loc 10) (.const (.int 4)))]) [(.asg (.sub (.loc 8) (.loc 10)) (.loc 13))] [])] [])]),
    (.asg (.tup [14, 15]) (.sub (.loc 1) (.loc 5))),
    (.expr (.meth false (.loc 8) (Str.ofString "pop") [(.loc 15), (.const CV.none)])),
    (.freeze 8),
    (.expr (.meth false (.loc 4) (Str.ofString "extend") [(.lcomp 2 (.tup [(.loc 1), (.loc 10)]) (.loc 14) (.name 1) [] [])]))]),
    (.asg (.name 16) (.dict true [] [])),
    (.freeze 3),
    (.for (.name 5) (.loc 3) [(.asg (.name 17) (.sub (.sub (.loc 3) (.loc 5)) (.const (.int 0)))),
    (.asg (.name 18) (.lcomp 2 (.loc 1) (.loc 17) (.name 1) [(.cmp .Eq (.lcomp 2 (.loc 1) (.sub (.loc 5) (.loc 7)) (.name 1) [(.cmp .NotEq (.meth false (.loc 1) (Str.ofString "get") [(.loc 3)]) (.sub (.loc 21) (.loc 3)))] []) (.list false []))] [])),
    (.asg (.sub (.loc 16) (.loc 5)) (.call false (.glob (Str.ofString "dict")) [(.lcomp 2 (.tup [(.loc 1), (.sub (.loc 19) (.loc 1))]) (.loc 18) (.name 1) [] [])]))]),
    (.freeze 16),
    (.ret (some (.loc 16)))]
noncomputable def r469 : List RS := [(.asg (.tup [1, 2, 3, 4]) (.tup [(.list true []), (.list true []), (.list true []), (.list false [])])),
    (.for (.name 5) (.call false (.glob (Str.ofString "range")) [(.const (.int 5))]) [(.asg (.swap [6, 7]) (.tup [(.lcomp 2 (.call false (.glob (Str.ofString "_law_statement")) [(.loc 2)]) (.call false (.glob (Str.ofString "range")) [(.call false (.glob (Str.ofString "_law_take")) [(.loc 0), (.const (.int 4))])]) (.name 1) [] []), (.call false (.glob (Str.ofString "_law_end")) [(.loc 0), (.loc 5)])])),
    (.expr (.meth false (.loc 1) (Str.ofString "append") [(.list false [(.lcomp 2 (.sub (.loc 1) (.const (.int 0))) (.loc 6) (.name 1) [] []), (.sub (.loc 7) (.const (.int 0)))])])),
    (.expr (.meth false (.loc 2) (Str.ofString "append") [(.lcomp 2 (.sub (.loc 1) (.const (.int 1))) (.loc 6) (.name 1) [] [])])),
    (.expr (.meth false (.loc 3) (Str.ofString "append") [(.tup [(.sub (.loc 7) (.const (.int 1))), (.sub (.loc 7) (.const (.int 2)))])])),
    (.asg (.name 4) (.bin .Add (.loc 4) (.lcomp 2 (.sub (.sub (.sub (.sub (.loc 1) (.const (.int 0))) (.const (.int 2))) (.const (.int 3))) (.const (.int 0))) (.loc 6) (.name 1) [(.and [(.cmp .Eq (.sub (.sub (.loc 1) (.const (.int 0))) (.const (.int 0))) (.const (.str (Str.ofString "assign")))), (.cmp .Eq (.sub (.sub (.sub (.loc 1) (.const (.int 0))) (.const (.int 2))) (.const (.int 0))) (.const (.str (Str.ofString "ref"))))])] [])))]),
    (.freeze 1),
    (.freeze 2),
    (.freeze 3),
    (.asg (.name 8) (.call false (.glob (Str.ofString "_law_body")) [(.loc 1)])),
    (.asg (.name 9) (.call false (.glob (Str.ofString "Constants")) [(.loc 8)])),
    (.expr (.meth false (.loc 9) (Str.ofString "follow") [])),
    (.ite (.cmp .NotEq (.call false (.glob (Str.ofString "sorted")) [(.call false (.glob (Str.ofString "lent_locals")) [(.loc 8)])]) (.lcomp 2 (.loc 1) (.call false (.glob (Str.ofString "range")) [(.const (.int 8))]) (.name 1) [(.cmp .In (.loc 1) (.loc 6))] [])) [(.ret (some (.const (.bool false))))] []),
    (.ret (some (.cmp .Eq (.attr (.loc 9) (Str.ofString "begins")) (.call false (.glob (Str.ofString "_law_led")) [(.loc 2), (.loc 3), (.loc 4)]))))]
noncomputable def r474 : List RS := [(.asg (.name 0) (.call false (.glob (Str.ofString "Facts")) [(.dict false [0, 5] [(.const (.int 5)), (.tup [(.const (.int 3)), (.const (.bool true))])])])),
    (.asg (.name 1) (.lcomp 3 (.meth false (.loc 3) (Str.ofString "at_operand") [(.tup [(.const (.str (Str.ofString "const"))), (.loc 1), (.loc 2)])]) (.list false [(.tup [(.tup [(.const (.str (Str.ofString "tuple"))), (.tup [])]), (.tup [])]), (.tup [(.tup [(.const (.str (Str.ofString "bool")))]), (.const (.bool false))])]) (.tup [1, 2]) [] [])),
    (.ite (.cmp .NotEq (.loc 1) (.list false [(.const CV.none), (.const (.bool false))])) [(.ret (some (.const (.bool false))))] []),
    (.asg (.name 2) (.list false [(.tup [(.const (.int 5)), (.tup [(.tup [(.const (.str (Str.ofString "field"))), (.const (.int 0))])])]), (.tup [(.const (.int 0)), (.tup [(.tup [(.const (.str (Str.ofString "deref")))])])]), (.tup [(.const (.int 1)), (.tup [])])])),
    (.ite (.cmp .NotEq (.lcomp 2 (.meth false (.loc 2) (Str.ofString "at_place") [(.loc 1)]) (.loc 2) (.name 1) [] []) (.list false [(.const (.int 3)), (.const CV.none), (.const CV.none)])) [(.ret (some (.const (.bool false))))] []),
    (.asg (.name 3) (.list false [(.tup [(.const (.str (Str.ofString "assign"))), (.tup [(.const (.int 4)), (.tup [])]), (.tup [(.const (.str (Str.ofString "use"))), (.tup [(.const (.str (Str.ofString "const"))), (.tup [(.const (.str (Str.ofString "bool")))]), (.const (.bool true))])])])])),
    (.asg (.name 3) (.cat (.loc 3) (.lcomp 3 (.tup [(.const (.str (Str.ofString "assign"))), (.tup [(.loc 1), (.tup [])]), (.tup [(.const (.str (Str.ofString "use"))), (.tup [(.const (.str (Str.ofString "const"))), (.call false (.glob (Str.ofString "_law_u8")) []), (.loc 2)])])]) (.list false [(.tup [(.const (.int 0)), (.const (.int 9))]), (.tup [(.const (.int 1)), (.const (.int 1))])]) (.tup [1, 2]) [] []))),
    (.expr (.meth false (.loc 3) (Str.ofString "append") [(.tup [(.const (.str (Str.ofString "assign"))), (.tup [(.const (.int 7)), (.tup [])]), (.tup [(.const (.str (Str.ofString "ref"))), (.const CV.none), (.const (.str (Str.ofString "mut"))), (.tup [(.const (.int 1)), (.tup [])])])])])),
    (.freeze 3),
    (.asg (.name 4) (.tup [(.const (.str (Str.ofString "switch"))), (.tup [(.const (.str (Str.ofString "copy"))), (.tup [(.const (.int 4)), (.tup [])])]), (.tup [(.tup [(.const (.bool false)), (.const (.int 1))])]), (.const (.int 2))])),
    (.asg (.name 5) (.list false [(.list false [(.loc 3), (.loc 4)]), (.list false [(.list false []), (.tup [(.const (.str (Str.ofString "return")))])]), (.list false [(.list false []), (.tup [(.const (.str (Str.ofString "switch"))), (.tup [(.const (.str (Str.ofString "copy"))), (.tup [(.const (.int 6)), (.tup [])])]), (.tup [(.tup [(.const (.bool true)), (.const (.int 3))])]), (.const (.int 4))])])])),
    (.asg (.name 5) (.bin .Add (.loc 5) (.list false [(.list false [(.list false [(.tup [(.const (.str (Str.ofString "assign"))), (.tup [(.const (.int 2)), (.tup [])]), (.tup [(.const (.str (Str.ofString "use"))), (.tup [(.const (.str (Str.ofString "copy"))), (.tup [(.const (.int 0)), (.tup [])])])])])]), (.tup [(.const (.str (Str.ofString "goto"))), (.const (.int 4))])]), (.list false [(.list false []), (.tup [(.const (.str (Str.ofString "return")))])])]))),
    (.asg (.name 6) (.call false (.glob (Str.ofString "Constants")) [(.call false (.glob (Str.ofString "_law_body")) [(.loc 5)])])),
    (.expr (.meth false (.loc 6) (Str.ofString "follow") [])),
    (.asg (.name 7) (.dict false [0, 2, 3, 4] [(.dict false [] []), (.dict false [0, 4] [(.const (.int 9)), (.const (.bool true))]), (.dict false [0, 4] [(.const (.int 9)), (.const (.bool true))]), (.dict false [0, 4] [(.const (.int 9)), (.const (.bool true))])])),
    (.ret (some (.and [(.cmp .Eq (.attr (.loc 6) (Str.ofString "begins")) (.loc 7)), (.cmp .Eq (.call false (.glob (Str.ofString "lent_locals")) [(.call false (.glob (Str.ofString "_law_body")) [(.loc 5)])]) (.dict false [1] [(.const (.bool true))]))])))]
end Lend
namespace Lend
noncomputable def g1 : List (Str × Value) := [("is_signed", .ref 62), ("least", .ref 69), ("greatest", .ref 76), ("fits", .ref 83), ("wrapped", .ref 90), ("cast_int", .ref 97), ("exact", .ref 111), ("checked", .ref 118), ("compared", .ref 132), ("Body", .ref 193),
  ("successors", .ref 202), ("is_followed", .ref 209), ("lent_locals", .ref 216), ("Facts", .ref 254), ("reckoned_binary", .ref 265), ("Constants", .ref 381), ("_law_pool", .ref 392), ("_law_take", .ref 399), ("_law_one", .ref 406), ("_law_u8", .ref 413),
  ("_law_body", .ref 418), ("_law_at", .ref 425), ("_law_of", .ref 432), ("_law_facts_right", .ref 437), ("_law_values_right", .ref 442), ("_law_meets_right", .ref 447), ("_law_statement", .ref 454), ("_law_end", .ref 459), ("_law_led", .ref 464),
  ("_law_follow_right", .ref 469), ("_law_told_right", .ref 474), ("BITS", .ref 55)]
noncomputable def g2 : List (Str × Value) := [("int", .type "int"), ("range", .type "range"), ("dict", .type "dict"), ("list", .type "list"), ("tuple", .type "tuple"), ("len", .builtin "len"), ("max", .builtin "max"), ("sorted", .builtin "sorted")]
noncomputable def strT (l : List String) : CV := .tup (l.map fun s => .str (Str.ofString s))
noncomputable def g3 : List (Str × Addr × List String) := [("COMPARED", 203, ["==", "!=", "<", "<=", ">", ">="]), ("PLAIN", 204, ["int", "bool"])]
noncomputable def glF (x : Str) : Option CV := match g1.lookup x with
  | some v => some (.raw v)
  | none => match g2.lookup x with
    | some v => some (.raw v)
    | none => (g3.lookup x).map fun p => strT p.2
noncomputable def m254 : List (Str × Addr) := [("at_place", 237), ("at_operand", 244), ("forget", 251)]
noncomputable def m381 : List (Str × Addr) := [("type_of", 286), ("value_of", 291), ("of_two", 298), ("of_one", 305), ("of_cast", 312), ("step", 319), ("behind", 326), ("gone_on", 331), ("known_target", 338), ("meet", 343), ("follow", 350)]
noncomputable def mtF (C : Addr) (x : Str) : Option Addr := if C = 254 then m254.lookup x else if C = 381 then m381.lookup x else none
noncomputable def atL : List (Addr × Str) := [(193, "name"), (193, "arg_count"), (193, "locals"), (193, "blocks"), (193, "spots"), (254, "known"), (381, "body"), (381, "followed"), (381, "begins")]
noncomputable def atF (C : Addr) (x : Str) : Bool := atL.contains (C, x)
noncomputable def bitsL : List (Str × Int) := [("i8", 8), ("i16", 16), ("i32", 32), ("i64", 64), ("u8", 8), ("u16", 16), ("u32", 32), ("u64", 64), ("usize", 64)]
noncomputable def gdF (a : Addr) (x : Str) : Option CV := if a = 55 then (bitsL.lookup x).map .int else none
noncomputable def Gm (B : Bs) (m : Nat) : Gl := { fn := FnOk B m, gl := glF, mt := mtF, atr := atF, gd := gdF }
set_option tactic.hygienic true in
theorem lookup_in {α β : Type} [BEq α] [LawfulBEq α] : ∀ {l : List (α × β)} {x : α} {v : β}, l.lookup x = some v → (x, v) ∈ l
  | [], _, _, h => by cases h
  | (y, d) :: r, x, v, h => by
    rw [List.lookup_cons] at h
    split at h
    · rename_i e; cases h; rw [beq_iff_eq.mp e]; exact .head _
    · exact .tail _ (lookup_in h)
theorem hasD {K : Frag} {C : Addr} (h : hasDictIn K C = true) : ∃ cd, clsIn K C = some cd ∧ cd.hasDict = true := by
  unfold hasDictIn at h
  rcases e : clsIn K C with _ | cd
  · rw [e] at h; cases h
  · rw [e] at h; exact ⟨cd, rfl, h⟩
noncomputable def isTupAt (K : Frag) (a : Addr) (l : List String) : Bool := match K.lookup a with
  | some ⟨.type "tuple", _, .seq vs _, _⟩ => vs.toList.length == l.length && (vs.toList.zip l).all fun p => p.1.isStr (Str.ofString p.2)
  | _ => false
set_option tactic.hygienic true in
theorem isTup_vals {K : Frag} {a : Addr} {l : List String} (h : isTupAt K a l = true) : ∃ o vs n, K.lookup a = some o ∧ o.cls = .type "tuple" ∧ o.data = .seq vs n ∧ ∀ B f, VsIs B f vs.toList (l.map fun s => .str (Str.ofString s)) := by
  unfold isTupAt at h
  split at h
  · rename_i dd vs n sl hl
    refine ⟨_, vs, n, hl, rfl, rfl, fun B f => ?_⟩
    simp only [Bool.and_eq_true, beq_iff_eq] at h
    obtain ⟨h1, h2⟩ := h
    generalize vs.toList = us at h1 h2
    clear hl
    induction us generalizing l with
    | nil => cases l with
      | nil => exact .nil
      | cons _ _ => simp at h1
    | cons v us ih => cases l with
      | nil => simp at h1
      | cons s l =>
        simp only [List.zip_cons_cons, List.all_cons, Bool.and_eq_true] at h2
        refine .cons ?_ (ih (by simpa using h1) h2.2)
        cases v <;> simp [Value.isStr] at h2
        rename_i x t
        show VIs B f (.str x t) (.str (Str.ofString s))
        rw [h2.1]
        exact .str _ _
  · cases h
noncomputable def bitsE (P : Params) : Array DictEntry := #[{ hash := PyData.keyHash P (Str.ofString "i8"), key := Value.str (Str.ofString "i8") 246, val := Value.int 8 247 }, { hash := PyData.keyHash P (Str.ofString "i16"), key := Value.str (Str.ofString "i16") 248, val := Value.int 16 249 }, { hash := PyData.keyHash P (Str.ofString "i32"), key := Value.str (Str.ofString "i32") 250, val := Value.int 32 251 }, { hash := PyData.keyHash P (Str.ofString "i64"), key := Value.str (Str.ofString "i64") 252, val := Value.int 64 253 }, { hash := PyData.keyHash P (Str.ofString "u8"), key := Value.str (Str.ofString "u8") 254, val := Value.int 8 255 }, { hash := PyData.keyHash P (Str.ofString "u16"), key := Value.str (Str.ofString "u16") 256, val := Value.int 16 257 }, { hash := PyData.keyHash P (Str.ofString "u32"), key := Value.str (Str.ofString "u32") 258, val := Value.int 32 259 }, { hash := PyData.keyHash P (Str.ofString "u64"), key := Value.str (Str.ofString "u64") 260, val := Value.int 64 261 }, { hash := PyData.keyHash P (Str.ofString "usize"), key := Value.str (Str.ofString "usize") 262, val := Value.int 64 263 }]
theorem bits_keys (P : Params) : KeysLit P (bitsE P).toList := by
  unfold bitsE
  simp only [List.toList_toArray]
  refine ⟨⟨_, _, rfl, rfl⟩, ⟨_, _, rfl, rfl⟩, ⟨_, _, rfl, rfl⟩, ⟨_, _, rfl, rfl⟩, ⟨_, _, rfl, rfl⟩, ⟨_, _, rfl, rfl⟩, ⟨_, _, rfl, rfl⟩, ⟨_, _, rfl, rfl⟩, ⟨_, _, rfl, rfl⟩, trivial⟩
structure ClsF (K : Frag) (C init : Addr) : Prop where
  k : keepIn K (.ref C) = true
  m : makesIn K C = true
  i : findIn K (.ref C) "__init__" = some (some (.ref init))
  t : typeIn K (.ref init) = some (.type "function")
structure Facts (P : Params) (K : Frag) : Prop where
  f62 : FnF K 62 ["kind"] ["kind"] r62
  b62 : ∀ vs : List Value, vs.length = 1 → bindArgs (fdOf K 62) ⟨vs, []⟩ = pure (List.zip (["kind"] : List Str) vs)
  f69 : FnF K 69 ["kind"] ["kind"] r69
  b69 : ∀ vs : List Value, vs.length = 1 → bindArgs (fdOf K 69) ⟨vs, []⟩ = pure (List.zip (["kind"] : List Str) vs)
  f76 : FnF K 76 ["kind"] ["kind"] r76
  b76 : ∀ vs : List Value, vs.length = 1 → bindArgs (fdOf K 76) ⟨vs, []⟩ = pure (List.zip (["kind"] : List Str) vs)
  f83 : FnF K 83 ["kind", "number"] ["kind", "number"] r83
  b83 : ∀ vs : List Value, vs.length = 2 → bindArgs (fdOf K 83) ⟨vs, []⟩ = pure (List.zip (["kind", "number"] : List Str) vs)
  f90 : FnF K 90 ["kind", "number"] ["kind", "number", "low"] r90
  b90 : ∀ vs : List Value, vs.length = 2 → bindArgs (fdOf K 90) ⟨vs, []⟩ = pure (List.zip (["kind", "number"] : List Str) vs)
  f97 : FnF K 97 ["kind", "number"] ["kind", "number"] r97
  b97 : ∀ vs : List Value, vs.length = 2 → bindArgs (fdOf K 97) ⟨vs, []⟩ = pure (List.zip (["kind", "number"] : List Str) vs)
  f111 : FnF K 111 ["op", "a", "b"] ["op", "a", "b"] r111
  b111 : ∀ vs : List Value, vs.length = 3 → bindArgs (fdOf K 111) ⟨vs, []⟩ = pure (List.zip (["op", "a", "b"] : List Str) vs)
  f118 : FnF K 118 ["kind", "op", "a", "b"] ["kind", "op", "a", "b", "found"] r118
  b118 : ∀ vs : List Value, vs.length = 4 → bindArgs (fdOf K 118) ⟨vs, []⟩ = pure (List.zip (["kind", "op", "a", "b"] : List Str) vs)
  f132 : FnF K 132 ["op", "a", "b"] ["op", "a", "b"] r132
  b132 : ∀ vs : List Value, vs.length = 3 → bindArgs (fdOf K 132) ⟨vs, []⟩ = pure (List.zip (["op", "a", "b"] : List Str) vs)
  f147 : FnF K 147 ["self", "name", "arg_count", "locals_told", "blocks", "spots"] ["self", "name", "arg_count", "locals_told", "blocks", "spots"] r147
  f202 : FnF K 202 ["terminator"] ["terminator", "word", "told", "block", "found"] r202
  b202 : ∀ vs : List Value, vs.length = 1 → bindArgs (fdOf K 202) ⟨vs, []⟩ = pure (List.zip (["terminator"] : List Str) vs)
  f209 : FnF K 209 ["t"] ["t"] r209
  b209 : ∀ vs : List Value, vs.length = 1 → bindArgs (fdOf K 209) ⟨vs, []⟩ = pure (List.zip (["t"] : List Str) vs)
  f216 : FnF K 216 ["body"] ["body", "found", "statements", "terminator", "statement"] r216
  b216 : ∀ vs : List Value, vs.length = 1 → bindArgs (fdOf K 216) ⟨vs, []⟩ = pure (List.zip (["body"] : List Str) vs)
  f230 : FnF K 230 ["self", "known"] ["self", "known"] r230
  b230 : ∀ vs : List Value, vs.length = 2 → bindArgs (fdOf K 230) ⟨vs, []⟩ = pure (List.zip (["self", "known"] : List Str) vs)
  f237 : FnF K 237 ["self", "place"] ["self", "place", "value", "projection"] r237
  b237 : ∀ vs : List Value, vs.length = 2 → bindArgs (fdOf K 237) ⟨vs, []⟩ = pure (List.zip (["self", "place"] : List Str) vs)
  f244 : FnF K 244 ["self", "operand"] ["self", "operand"] r244
  b244 : ∀ vs : List Value, vs.length = 2 → bindArgs (fdOf K 244) ⟨vs, []⟩ = pure (List.zip (["self", "operand"] : List Str) vs)
  f251 : FnF K 251 ["self", "place"] ["self", "place"] r251
  b251 : ∀ vs : List Value, vs.length = 2 → bindArgs (fdOf K 251) ⟨vs, []⟩ = pure (List.zip (["self", "place"] : List Str) vs)
  f265 : FnF K 265 ["op", "t", "a", "b"] ["op", "t", "a", "b"] r265
  b265 : ∀ vs : List Value, vs.length = 4 → bindArgs (fdOf K 265) ⟨vs, []⟩ = pure (List.zip (["op", "t", "a", "b"] : List Str) vs)
  f279 : FnF K 279 ["self", "body"] ["self", "body", "lent", "local"] r279
  b279 : ∀ vs : List Value, vs.length = 2 → bindArgs (fdOf K 279) ⟨vs, []⟩ = pure (List.zip (["self", "body"] : List Str) vs)
  f286 : FnF K 286 ["self", "operand"] ["self", "operand", "local", "projections", "t", "projection"] r286
  b286 : ∀ vs : List Value, vs.length = 2 → bindArgs (fdOf K 286) ⟨vs, []⟩ = pure (List.zip (["self", "operand"] : List Str) vs)
  f291 : FnF K 291 ["self", "rvalue", "facts"] ["self", "rvalue", "facts", "kind", "told"] r291
  b291 : ∀ vs : List Value, vs.length = 3 → bindArgs (fdOf K 291) ⟨vs, []⟩ = pure (List.zip (["self", "rvalue", "facts"] : List Str) vs)
  f298 : FnF K 298 ["self", "rvalue", "facts"] ["self", "rvalue", "facts", "kind", "op", "left", "right", "a", "b", "t", "told"] r298
  b298 : ∀ vs : List Value, vs.length = 3 → bindArgs (fdOf K 298) ⟨vs, []⟩ = pure (List.zip (["self", "rvalue", "facts"] : List Str) vs)
  f305 : FnF K 305 ["self", "rvalue", "facts"] ["self", "rvalue", "facts", "a", "t"] r305
  b305 : ∀ vs : List Value, vs.length = 3 → bindArgs (fdOf K 305) ⟨vs, []⟩ = pure (List.zip (["self", "rvalue", "facts"] : List Str) vs)
  f312 : FnF K 312 ["self", "rvalue", "facts"] ["self", "rvalue", "facts", "a"] r312
  b312 : ∀ vs : List Value, vs.length = 3 → bindArgs (fdOf K 312) ⟨vs, []⟩ = pure (List.zip (["self", "rvalue", "facts"] : List Str) vs)
  f319 : FnF K 319 ["self", "statement", "facts"] ["self", "statement", "facts", "place", "rvalue", "value"] r319
  b319 : ∀ vs : List Value, vs.length = 3 → bindArgs (fdOf K 319) ⟨vs, []⟩ = pure (List.zip (["self", "statement", "facts"] : List Str) vs)
  f326 : FnF K 326 ["self", "number"] ["self", "number", "facts", "statements", "terminator", "statement"] r326
  b326 : ∀ vs : List Value, vs.length = 2 → bindArgs (fdOf K 326) ⟨vs, []⟩ = pure (List.zip (["self", "number"] : List Str) vs)
  f331 : FnF K 331 ["self", "number", "facts"] ["self", "number", "facts", "terminator", "target"] r331
  b331 : ∀ vs : List Value, vs.length = 3 → bindArgs (fdOf K 331) ⟨vs, []⟩ = pure (List.zip (["self", "number", "facts"] : List Str) vs)
  f338 : FnF K 338 ["self", "terminator", "facts"] ["self", "terminator", "facts", "value", "told", "block"] r338
  b338 : ∀ vs : List Value, vs.length = 3 → bindArgs (fdOf K 338) ⟨vs, []⟩ = pure (List.zip (["self", "terminator", "facts"] : List Str) vs)
  f343 : FnF K 343 ["self", "number", "known"] ["self", "number", "known", "here", "kept"] r343
  b343 : ∀ vs : List Value, vs.length = 3 → bindArgs (fdOf K 343) ⟨vs, []⟩ = pure (List.zip (["self", "number", "known"] : List Str) vs)
  f350 : FnF K 350 ["self"] ["self", "left", "number", "block", "known"] r350
  b350 : ∀ vs : List Value, vs.length = 1 → bindArgs (fdOf K 350) ⟨vs, []⟩ = pure (List.zip (["self"] : List Str) vs)
  f392 : FnF K 392 ["script"] ["script", "cell", "great"] r392
  b392 : ∀ vs : List Value, vs.length = 1 → bindArgs (fdOf K 392) ⟨vs, []⟩ = pure (List.zip (["script"] : List Str) vs)
  f399 : FnF K 399 ["source", "top"] ["source", "top", "drawn"] r399
  b399 : ∀ vs : List Value, vs.length = 2 → bindArgs (fdOf K 399) ⟨vs, []⟩ = pure (List.zip (["source", "top"] : List Str) vs)
  f406 : FnF K 406 ["source", "things"] ["source", "things"] r406
  b406 : ∀ vs : List Value, vs.length = 2 → bindArgs (fdOf K 406) ⟨vs, []⟩ = pure (List.zip (["source", "things"] : List Str) vs)
  f413 : FnF K 413 [] [] r413
  b413 : ∀ vs : List Value, vs.length = 0 → bindArgs (fdOf K 413) ⟨vs, []⟩ = pure (List.zip ([] : List Str) vs)
  f418 : FnF K 418 ["blocks"] ["blocks", "pair", "types"] r418
  b418 : ∀ vs : List Value, vs.length = 1 → bindArgs (fdOf K 418) ⟨vs, []⟩ = pure (List.zip (["blocks"] : List Str) vs)
  f425 : FnF K 425 ["known", "place"] ["known", "place", "here", "step"] r425
  b425 : ∀ vs : List Value, vs.length = 2 → bindArgs (fdOf K 425) ⟨vs, []⟩ = pure (List.zip (["known", "place"] : List Str) vs)
  f432 : FnF K 432 ["known", "operand"] ["known", "operand"] r432
  b432 : ∀ vs : List Value, vs.length = 2 → bindArgs (fdOf K 432) ⟨vs, []⟩ = pure (List.zip (["known", "operand"] : List Str) vs)
  f437 : FnF K 437 ["known"] ["known", "facts", "steps", "place", "due", "told"] r437
  b437 : ∀ vs : List Value, vs.length = 1 → bindArgs (fdOf K 437) ⟨vs, []⟩ = pure (List.zip (["known"] : List Str) vs)
  f442 : FnF K 442 ["source", "known"] ["source", "known", "constants", "facts", "ops", "one", "other", "truth", "a", "b", "c", "both", "rows"] r442
  b442 : ∀ vs : List Value, vs.length = 2 → bindArgs (fdOf K 442) ⟨vs, []⟩ = pure (List.zip (["source", "known"] : List Str) vs)
  f447 : FnF K 447 ["rows"] ["rows", "constants", "kept", "row", "before"] r447
  b447 : ∀ vs : List Value, vs.length = 1 → bindArgs (fdOf K 447) ⟨vs, []⟩ = pure (List.zip (["rows"] : List Str) vs)
  f454 : FnF K 454 ["source"] ["source", "way", "local", "other", "value"] r454
  b454 : ∀ vs : List Value, vs.length = 1 → bindArgs (fdOf K 454) ⟨vs, []⟩ = pure (List.zip (["source"] : List Str) vs)
  f459 : FnF K 459 ["source", "block"] ["source", "block", "goals", "local", "way"] r459
  b459 : ∀ vs : List Value, vs.length = 2 → bindArgs (fdOf K 459) ⟨vs, []⟩ = pure (List.zip (["source", "block"] : List Str) vs)
  f464 : FnF K 464 ["deeds", "ends", "lent"] ["deeds", "ends", "lent", "found", "left", "block", "known", "some", "here", "deed", "local", "value", "other", "told", "goals", "gone", "due", "first", "alike"] r464
  b464 : ∀ vs : List Value, vs.length = 3 → bindArgs (fdOf K 464) ⟨vs, []⟩ = pure (List.zip (["deeds", "ends", "lent"] : List Str) vs)
  f469 : FnF K 469 ["source"] ["source", "blocks", "deeds", "ends", "lent", "block", "rows", "end", "body", "constants"] r469
  b469 : ∀ vs : List Value, vs.length = 1 → bindArgs (fdOf K 469) ⟨vs, []⟩ = pure (List.zip (["source"] : List Str) vs)
  f474 : FnF K 474 [] ["facts", "told", "places", "some", "known", "blocks", "constants", "due"] r474
  b474 : ∀ vs : List Value, vs.length = 0 → bindArgs (fdOf K 474) ⟨vs, []⟩ = pure (List.zip ([] : List Str) vs)
  p147 : ∀ (S : Setting) (v1 v2 v3 v4 v5 : Value), peek K S (bindArgs (fdOf K 147) ⟨[v1, v2, v3, v4, v5], []⟩) = some (List.zip (["self", "name", "arg_count", "locals_told", "blocks", "spots"] : List Str) [v1, v2, v3, v4, v5, .none])
  k193 : ClsOk K 193
  c193 : ClsF K 193 147
  k254 : ClsOk K 254
  c254 : ClsF K 254 230
  k381 : ClsOk K 381
  c381 : ClsF K 381 279
  g1 : (g1.all fun p => nsIn K mainGlobals p.1 == some (some p.2)) = true
  g2 : (g2.all fun p => nsIn K mainGlobals p.1 == some none && bootBuiltins p.1 == some p.2 && p.1 != "__name__") = true
  g3 : (g3.all fun p => nsIn K mainGlobals p.1 == some (some (.ref p.2.1)) && isTupAt K p.2.1 p.2.2) = true
  m254 : (m254.all fun p => findIn K (.ref 254) p.1 == some (some (.ref p.2)) && typeIn K (.ref p.2) == some (.type "function")) = true
  m381 : (m381.all fun p => findIn K (.ref 381) p.1 == some (some (.ref p.2)) && typeIn K (.ref p.2) == some (.type "function")) = true
  at_ok : (atL.all fun p => findIn K (.ref p.1) p.2 == some none) = true
  bits_look : K.lookup 55 = some ⟨.type "dict", none, .dict (bitsE P) 9, #[]⟩
  bits_ok : (bitsL.all fun p => match nsIn K 55 p.1 with | some (some (.int i _)) => i == p.2 | _ => false) = true
structure Run (B : Bs) : Prop where
  ok : B.Ok
  facts : Facts B.w.params B.K
theorem clsOk {P : Params} {K : Frag} (F : Facts P K) (C : Addr) (h : C = 193 ∨ C = 254 ∨ C = 381) : ClsOk K C := by
  rcases h with rfl | rfl | rfl
  · exact F.k193
  · exact F.k254
  · exact F.k381
set_option tactic.hygienic true in
theorem glOk {B : Bs} (RB : Run B) (hb : ∀ x : Str, x ≠ "__name__" → B.mb x = bootBuiltins x) {m : Nat} : GlOk B (Gm B m) where
  gl := fun x V h => by
    have KX : B.K.In B.h₀ := RB.ok.kin
    have h' : glF x = some V := h
    unfold glF at h'
    split at h'
    · rename_i v hv
      cases h'
      have := List.all_eq_true.mp RB.facts.g1 _ (lookup_in hv)
      exact ⟨v, .inl (mg_of KX RB.ok.g (by simpa using this)), fun f _ => .raw v⟩
    · split at h'
      · rename_i v hv
        cases h'
        have := List.all_eq_true.mp RB.facts.g2 _ (lookup_in hv)
        simp only [Bool.and_eq_true, beq_iff_eq, bne_iff_ne] at this
        exact ⟨v, .inr ⟨ns_none_of KX RB.ok.g this.1.1, by rw [hb x this.2]; exact this.1.2⟩, fun f _ => .raw v⟩
      · obtain ⟨p, hp, rfl⟩ := Option.map_eq_some_iff.mp h'
        have := List.all_eq_true.mp RB.facts.g3 _ (lookup_in hp)
        simp only [Bool.and_eq_true, beq_iff_eq] at this
        refine ⟨.ref p.1, .inl (mg_of KX RB.ok.g this.1), fun f hf => ?_⟩
        obtain ⟨o, vs, n, h1, h2, h3, h4⟩ := isTup_vals this.2
        exact .tup (hf _ _ (KX _ _ h1)) h2 h3 (h4 B f)
  atr := fun C x h => by
    have h' : (C, x) ∈ atL := List.contains_iff_mem.mp h
    have := List.all_eq_true.mp RB.facts.at_ok _ h'
    refine ⟨clsOk RB.facts _ ?_, by simpa using this⟩
    simp only [atL, List.mem_cons, Prod.mk.injEq, List.not_mem_nil, or_false] at h'
    rcases h' with h' | h' | h' | h' | h' | h' | h' | h' | h' <;> first | exact .inl h'.1 | exact .inr (.inl h'.1) | exact .inr (.inr h'.1)
  gd := fun a x V h => by
    have h' : gdF a x = some V := h
    unfold gdF at h'
    split at h'
    · rename_i ha
      subst ha
      obtain ⟨i, hi, rfl⟩ := Option.map_eq_some_iff.mp h'
      have := List.all_eq_true.mp RB.facts.bits_ok _ (lookup_in hi)
      dsimp only at this
      split at this
      · rename_i j t hj
        refine ⟨bitsE B.w.params, _, .int j t, RB.facts.bits_look, bits_keys _, hj, j, t, rfl, ?_⟩
        rw [beq_iff_eq.mp this]
      · cases this
    · cases h'
set_option tactic.hygienic true in
theorem mtOk {B : Bs} (RB : Run B) {m : Nat} : MtOk B (Gm B m) where
  ok := fun C x fa h => by
    have h' : mtF C x = some fa := h
    unfold mtF at h'
    split at h'
    · rename_i hC
      subst hC
      have := List.all_eq_true.mp RB.facts.m254 _ (lookup_in h')
      simp only [Bool.and_eq_true, beq_iff_eq] at this
      exact ⟨clsOk RB.facts _ (.inr (.inl rfl)), this.1, this.2⟩
    · split at h'
      · rename_i hC
        subst hC
        have := List.all_eq_true.mp RB.facts.m381 _ (lookup_in h')
        simp only [Bool.and_eq_true, beq_iff_eq] at this
        exact ⟨clsOk RB.facts _ (.inr (.inr rfl)), this.1, this.2⟩
      · cases h'
end Lend
namespace Lend
noncomputable def Ev (G : Gl) (e : RE) (ρ : Rho) (S : Store) (x : CV) : Prop := ∀ Q : CV → Store → Prop, Q x S → wpE G e ρ S Q
noncomputable def Evs (G : Gl) (es : List RE) (ρ : Rho) (S : Store) (xs : List CV) : Prop := ∀ Q : List CV → Store → Prop, Q xs S → wpEs G es ρ S Q
noncomputable def Evb (G : Gl) (all : Bool) (es : List RE) (ρ : Rho) (S : Store) (b : Bool) : Prop := ∀ Q : Bool → Store → Prop, Q b S → wpB G all es ρ S Q
section
variable {G : Gl} {ρ ρ' : Rho} {S : Store} {K : Fl → Rho → Store → Prop} {ss a b : List RS}
theorem ev_const {v : CV} : Ev G (.const v) ρ S v := fun _ h => h
theorem ev_loc {i : Nat} {v : CV} (h : nth ρ i = some v) : Ev G (.loc i) ρ S v := fun Q k => by
  show (match nth ρ i with | some v => Q v S | none => False)
  rw [h]; exact k
theorem ev_glob {x : Str} {v : CV} (h : G.gl x = some v) : Ev G (.glob x) ρ S v := fun Q k => by
  show (match G.gl x with | some v => Q v S | _ => False)
  rw [h]; exact k
theorem ev_sub {o i : RE} {x y z : CV} (ho : Ev G o ρ S x) (hi : Ev G i ρ S y) (h : getItemV G.gd S x y = some z) : Ev G (.sub o i) ρ S z := fun Q k => ho _ (hi _ (by
  show (match getItemV G.gd S x y with | some v => Q v S | none => False)
  rw [h]; exact k))
theorem ev_attr {o : RE} {n : Str} {x z : CV} (ho : Ev G o ρ S x) (h : getAttrV G S x n = some z) : Ev G (.attr o n) ρ S z := fun Q k => ho _ (by
  show (match getAttrV G S x n with | some v => Q v S | none => False)
  rw [h]; exact k)
theorem ev_cmp {op : CmpOp} {p q : RE} {x y : CV} {r : Bool} (hp : Ev G p ρ S x) (hq : Ev G q ρ S y) (h : cmpV op S x y = some r) : Ev G (.cmp op p q) ρ S (.bool r) := fun Q k => hp _ (hq _ (by
  show (match cmpV op S x y with | some r => Q (.bool r) S | none => False)
  rw [h]; exact k))
theorem ev_bin {op : Operator} {p q : RE} {x y z : CV} (hp : Ev G p ρ S x) (hq : Ev G q ρ S y) (h : ∀ Q, Q z S → binW op x y S Q) : Ev G (.bin op p q) ρ S z := fun Q k => hp _ (hq _ (h Q k))
theorem ev_not {p : RE} {r : Bool} (hp : Ev G p ρ S (.bool r)) : Ev G (.not p) ρ S (.bool (!r)) := fun _ k => hp _ k
theorem evs_nil : Evs G [] ρ S [] := fun _ k => k
theorem evs_cons {e : RE} {es : List RE} {x : CV} {xs : List CV} (h : Ev G e ρ S x) (r : Evs G es ρ S xs) : Evs G (e :: es) ρ S (x :: xs) := fun Q k => h _ (r (fun xs S' => Q (x :: xs) S') k)
theorem ev_tup {es : List RE} {xs : List CV} (h : Evs G es ρ S xs) (hl : Nat.ble xs.length small = true) : Ev G (.tup es) ρ S (.tup xs) := fun _ k => h _ ⟨Nat.le_of_ble_eq_true hl, k⟩
theorem ev_list {es : List RE} {xs : List CV} (h : Evs G es ρ S xs) (hl : Nat.ble xs.length small = true) : Ev G (.list false es) ρ S (.flist xs) := fun _ k => h _ ⟨Nat.le_of_ble_eq_true hl, k⟩
theorem ev_and {es : List RE} {r : Bool} (h : Evb G true es ρ S r) : Ev G (.and es) ρ S (.bool r) := fun Q k => h (fun b S' => Q (.bool b) S') k
theorem ev_or {es : List RE} {r : Bool} (h : Evb G false es ρ S r) : Ev G (.or es) ρ S (.bool r) := fun Q k => h (fun b S' => Q (.bool b) S') k
theorem evb_nil {all : Bool} : Evb G all [] ρ S all := fun _ k => k
theorem evb_on {all : Bool} {e : RE} {es : List RE} {r : Bool} (h : Ev G e ρ S (.bool all)) (t : Evb G all es ρ S r) : Evb G all (e :: es) ρ S r := fun Q k => h _ (by
  show (if all = all then wpB G all es ρ S Q else Q (!all) S)
  rw [if_pos rfl]; exact t Q k)
theorem evb_off {all : Bool} {e : RE} {es : List RE} (h : Ev G e ρ S (.bool (!all))) : Evb G all (e :: es) ρ S (!all) := fun Q k => h _ (by
  show (if (!all) = all then wpB G all es ρ S Q else Q (!all) S)
  rw [if_neg (by cases all <;> decide)]; exact k)
theorem ev_ite_t {c p q : RE} {x : CV} (hc : Ev G c ρ S (.bool true)) (h : Ev G p ρ S x) : Ev G (.ite c p q) ρ S x := fun Q k => hc _ (by
  show (if true = true then wpE G p ρ S Q else wpE G q ρ S Q)
  rw [if_pos rfl]; exact h Q k)
theorem ev_ite_f {c p q : RE} {x : CV} (hc : Ev G c ρ S (.bool false)) (h : Ev G q ρ S x) : Ev G (.ite c p q) ρ S x := fun Q k => hc _ (by
  show (if false = true then wpE G p ρ S Q else wpE G q ρ S Q)
  rw [if_neg (by decide)]; exact h Q k)
theorem wp_call {own : Bool} {f : RE} {args : List RE} {fa : Addr} {xs : List CV} {Q : CV → Store → Prop} (hf : Ev G f ρ S (.raw (.ref fa))) (hs : Evs G args ρ S xs) (h : G.fn fa xs S Q) : wpE G (.call own f args) ρ S Q := hf _ (hs _ h)
theorem wp_meth {own : Bool} {o : RE} {n : Str} {args : List RE} {x : CV} {fa : Addr} {xs : List CV} {Q : CV → Store → Prop} (ho : Ev G o ρ S x) (hk : kindM G S x n = some (.fn fa)) (hs : Evs G args ρ S xs) (h : methW G own x n xs S Q) : wpE G (.meth own o n args) ρ S Q :=
  ho _ ⟨by rw [hk]; rfl, hs _ ⟨by rw [hk], h⟩⟩
theorem ev_call {own : Bool} {f : Str} {args : List RE} {fa : Addr} {xs : List CV} {v : CV} (hf : G.gl f = some (.raw (.ref fa))) (hs : Evs G args ρ S xs) (h : ∀ Q : CV → Store → Prop, Q v S → G.fn fa xs S Q) : Ev G (.call own (.glob f) args) ρ S v := fun Q k => wp_call (ev_glob hf) hs (h Q k)
theorem ev_meth {own : Bool} {o : RE} {n : Str} {args : List RE} {x v : CV} {mk : MK} {xs : List CV} (ho : Ev G o ρ S x) (hk : kindM G S x n = some mk) (hs : Evs G args ρ S xs) (h : ∀ Q : CV → Store → Prop, Q v S → methW G own x n xs S Q) : Ev G (.meth own o n args) ρ S v := fun Q k =>
  ho _ ⟨by rw [hk]; rfl, hs _ ⟨by rw [hk], h Q k⟩⟩
theorem evs1 {a : RE} {x : CV} (h : Ev G a ρ S x) : Evs G [a] ρ S [x] := evs_cons h evs_nil
theorem evs2 {a b : RE} {x y : CV} (h : Ev G a ρ S x) (k : Ev G b ρ S y) : Evs G [a, b] ρ S [x, y] := evs_cons h (evs1 k)
theorem evs3 {a b c : RE} {x y z : CV} (h : Ev G a ρ S x) (k : Ev G b ρ S y) (l : Ev G c ρ S z) : Evs G [a, b, c] ρ S [x, y, z] := evs_cons h (evs2 k l)
theorem evs4 {a b c d : RE} {x y z u : CV} (h : Ev G a ρ S x) (k : Ev G b ρ S y) (l : Ev G c ρ S z) (n : Ev G d ρ S u) : Evs G [a, b, c, d] ρ S [x, y, z, u] := evs_cons h (evs3 k l n)
section
variable {gd : Addr → Str → Option CV}
theorem item_tup {xs : List CV} {k : Nat} (hk : k ≤ 100000) : getItemV gd S (.tup xs) (.int k) = xs[k]? := by
  simp only [nth, getItemV, getI, view]
  rw [if_pos ⟨by omega, by omega⟩]
  simp [nth]
theorem item_tup0 {xs : List CV} : getItemV gd S (.tup xs) (.int 0) = xs[0]? := item_tup (k := 0) (by omega)
theorem item_tup1 {xs : List CV} : getItemV gd S (.tup xs) (.int 1) = xs[1]? := item_tup (k := 1) (by omega)
theorem item_tup2 {xs : List CV} : getItemV gd S (.tup xs) (.int 2) = xs[2]? := item_tup (k := 2) (by omega)
theorem item_tup3 {xs : List CV} : getItemV gd S (.tup xs) (.int 3) = xs[3]? := item_tup (k := 3) (by omega)
theorem item_tup4 {xs : List CV} : getItemV gd S (.tup xs) (.int 4) = xs[4]? := item_tup (k := 4) (by omega)
end
theorem ev_i0 {o : RE} {y x : CV} {xs : List CV} (h : Ev G o ρ S y) (e : y = .tup (x :: xs)) : Ev G (.sub o (.const (.int 0))) ρ S x := by subst e; exact ev_sub h ev_const item_tup0
theorem ev_i1 {o : RE} {y x0 x : CV} {xs : List CV} (h : Ev G o ρ S y) (e : y = .tup (x0 :: x :: xs)) : Ev G (.sub o (.const (.int 1))) ρ S x := by subst e; exact ev_sub h ev_const item_tup1
theorem ev_i2 {o : RE} {y x0 x1 x : CV} {xs : List CV} (h : Ev G o ρ S y) (e : y = .tup (x0 :: x1 :: x :: xs)) : Ev G (.sub o (.const (.int 2))) ρ S x := by subst e; exact ev_sub h ev_const item_tup2
theorem ev_i3 {o : RE} {y x0 x1 x2 x : CV} {xs : List CV} (h : Ev G o ρ S y) (e : y = .tup (x0 :: x1 :: x2 :: x :: xs)) : Ev G (.sub o (.const (.int 3))) ρ S x := by subst e; exact ev_sub h ev_const item_tup3
theorem ev_i4 {o : RE} {y x0 x1 x2 x3 x : CV} {xs : List CV} (h : Ev G o ρ S y) (e : y = .tup (x0 :: x1 :: x2 :: x3 :: x :: xs)) : Ev G (.sub o (.const (.int 4))) ρ S x := by subst e; exact ev_sub h ev_const item_tup4
theorem q_asg {i : Nat} {e : RE} {x : CV} (he : Ev G e ρ S x) (hi : Nat.blt i ρ.length = true) (k : wpSs G ss (ρ.set i (some x)) S K) : wpSs G (.asg (.name i) e :: ss) ρ S K := he _ ⟨Nat.le_of_ble_eq_true hi, k⟩
theorem q_asgw {i : Nat} {e : RE} (hi : Nat.blt i ρ.length = true) (h : wpE G e ρ S fun x S' => wpSs G ss (ρ.set i (some x)) S' K) : wpSs G (.asg (.name i) e :: ss) ρ S K := by
  have hi' : i < ρ.length := Nat.le_of_ble_eq_true hi
  show wpE G e ρ S fun x S' => i < ρ.length ∧ wpSs G ss (ρ.set i (some x)) S' K
  rw [show (fun (x : CV) S' => i < ρ.length ∧ wpSs G ss (ρ.set i (some x)) S' K) = fun x S' => wpSs G ss (ρ.set i (some x)) S' K from funext fun x => funext fun S' => propext (and_iff_right hi')]
  exact h
theorem q_tup {is : List Nat} {e : RE} {x : CV} {xs : List CV} (he : Ev G e ρ S x) (hu : unpackV S x is.length = some xs) (hi : (is.all fun i => Nat.blt i ρ.length) = true) (k : wpSs G ss (setAll ρ is xs) S K) : wpSs G (.asg (.tup is) e :: ss) ρ S K := he _ (by
  show (match unpackV S x is.length with | some xs => (∀ i ∈ is, i < ρ.length) ∧ _ | none => False)
  rw [hu]; exact ⟨fun i h => Nat.le_of_ble_eq_true (List.all_eq_true.mp hi i h), k⟩)
theorem q_swap {is : List Nat} {e : RE} {x : CV} {xs : List CV} (he : Ev G e ρ S x) (hu : unpackV S x is.length = some xs) (hi : (is.all fun i => Nat.blt i ρ.length) = true) (k : wpSs G ss (setAll ρ is.reverse xs.reverse) S K) : wpSs G (.asg (.swap is) e :: ss) ρ S K := he _ (by
  show (match unpackV S x is.length with | some xs => (∀ i ∈ is, i < ρ.length) ∧ _ | none => False)
  rw [hu]; exact ⟨fun i h => Nat.le_of_ble_eq_true (List.all_eq_true.mp hi i h), k⟩)
theorem q_ret {e : RE} {x : CV} (he : Ev G e ρ S x) (k : K (.ret x) ρ S) : wpSs G (.ret (some e) :: ss) ρ S K := he _ k
theorem q_retw {e : RE} (h : wpE G e ρ S fun x S' => K (.ret x) ρ S') : wpSs G (.ret (some e) :: ss) ρ S K := h
theorem q_if_f {c : RE} (hc : Ev G c ρ S (.bool false)) (k : wpSs G ss ρ S K) : wpSs G (.ite c a [] :: ss) ρ S K := hc _ (by
  show (if false = true then _ else wpSs G [] ρ S _)
  rw [if_neg (by decide)]; exact k)
theorem q_if_t {c : RE} (hc : Ev G c ρ S (.bool true)) (k : wpSs G a ρ S fun fl ρ' S' => match fl with | .next => wpSs G ss ρ' S' K | .ret v => K (.ret v) ρ' S') : wpSs G (.ite c a b :: ss) ρ S K := hc _ (by
  show (if true = true then wpSs G a ρ S _ else _)
  rw [if_pos rfl]; exact k)
theorem q_if_ret {c e : RE} {x : CV} (hc : Ev G c ρ S (.bool true)) (he : Ev G e ρ S x) (k : K (.ret x) ρ S) : wpSs G (.ite c [.ret (some e)] b :: ss) ρ S K := q_if_t hc (q_ret he k)
end
end Lend
namespace Lend
theorem lv {a b m : Nat} (h : b ≤ m) (e : Nat.ble (a + 1) b = true) : a ≤ m - 1 := Nat.le_sub_of_add_le (Nat.le_trans (Nat.le_of_ble_eq_true e) h)
theorem lv0 {a b m : Nat} (h : b ≤ m) (e : Nat.ble a b = true) : a ≤ m := Nat.le_trans (Nat.le_of_ble_eq_true e) h
theorem ofString_inj {a b : String} : Str.ofString a = Str.ofString b ↔ a = b := by
  refine ⟨fun h => ?_, fun h => by rw [h]⟩
  rw [Str.ofString_eq_toList, Str.ofString_eq_toList] at h
  injection h with h
  have h := congrArg Array.toList h
  simp only at h
  have inj : ∀ (l l' : List Char), l.map Char.toNat = l'.map Char.toNat → l = l' := by
    intro l
    induction l with
    | nil => intro l' h; cases l' with
      | nil => rfl
      | cons _ _ => cases h
    | cons c l ih => intro l' h; cases l' with
      | nil => cases h
      | cons d l' =>
        simp only [nth, List.map_cons, List.cons.injEq] at h
        have : c = d := Char.ext (UInt32.toNat_inj.mp h.1)
        rw [this, ih _ h.2]
  exact String.toList_inj.mp (inj _ _ h)
theorem ofString_beq (a b : String) : (Str.ofString a == Str.ofString b) = decide (a = b) := by
  by_cases h : a = b
  · subst h; simp
  · rw [decide_eq_false h]
    exact beq_eq_false_iff_ne.mpr fun e => h (ofString_inj.mp e)
theorem ofString_eq (a b : String) : (Str.ofString a = Str.ofString b) = (a = b) := propext ofString_inj
theorem strOk_of (s : String) : PyData.strOk (Str.ofString s) = true := by
  unfold PyData.strOk
  rw [Str.ofString_eq_toList]
  simp only [nth, List.all_toArray, List.all_map, List.all_eq_true, Function.comp, decide_eq_true_eq]
  intro c _
  have := c.valid
  show c.val.toNat < _
  rcases this with h | h
  · have : c.val.toNat < 0xd800 := h
    omega
  · exact h.2
theorem hypM {B : Bs} (RB : Run B) (hb : ∀ x : Str, x ≠ "__name__" → B.mb x = bootBuiltins x) (m : Nat) : Hyp B (Gm B m) m := ⟨RB.ok, glOk RB hb, mtOk RB, fun _ _ _ _ h => h⟩
theorem eqP_str (a b : String) : eqP (.str (Str.ofString a)) (.str (Str.ofString b)) = some (decide (a = b)) := by
  unfold eqP
  simp only [nth, toPy, strOk_of, if_true]
  rw [if_pos (by simp [nth, PyData.depth])]
  show some (Str.ofString a == Str.ofString b) = _
  rw [ofString_beq]
structure Env0 (B : Bs) : Prop where
  run : Run B
  blt : ∀ x : Str, x ≠ "__name__" → B.mb x = bootBuiltins x
theorem Env0.facts {B : Bs} (E : Env0 B) : Facts B.w.params B.K := E.run.facts
theorem idxN_at : ∀ {pre : List Str} {x : Str} {r : List Str}, x ∉ pre → idxN (pre ++ x :: r) x = some pre.length
  | [], x, r, _ => by simp [nth, idxN]
  | y :: pre, x, r, h => by
    have h1 : ¬ x = y := fun e => h (by rw [e]; exact .head _)
    simp only [nth, List.cons_append, idxN, if_neg h1, idxN_at (fun hm => h (.tail _ hm)), Option.map_some, List.length_cons]
theorem bindR_pre : ∀ (names : List Str) (args : List CV) (pre : List Str) (vs R : Rho) (rest : List Str), (pre ++ names).Nodup → vs.length = pre.length → names.length = args.length →
    bindR (pre ++ (names ++ rest)) (vs ++ (List.replicate names.length none ++ R)) (names.zip args) = vs ++ (args.map some ++ R)
  | [], [], pre, vs, R, rest, _, _, _ => rfl
  | x :: names, a :: args, pre, vs, R, rest, hn, hv, hl => by
    have hx : x ∉ pre := fun h => by
      have := (List.nodup_append.mp hn).2.2 x h x (.head _)
      exact this rfl
    rw [List.zip_cons_cons, bindR, List.cons_append, idxN_at hx]
    have e1 : (vs ++ (List.replicate (x :: names).length none ++ R)).set pre.length (some a) = (vs ++ [some a]) ++ (List.replicate names.length none ++ R) := by
      rw [← hv, List.set_append_right _ _ (Nat.le_refl _)]
      simp [nth, List.replicate_succ]
    have e2 : pre ++ x :: (names ++ rest) = (pre ++ [x]) ++ (names ++ rest) := by simp
    dsimp only
    rw [e1, e2, bindR_pre names args (pre ++ [x]) (vs ++ [some a]) R rest (by simpa [nth] using hn) (by simp [nth, hv]) (by simpa [nth] using hl)]
    simp [nth]
  | [], _ :: _, _, _, _, _, _, _, h => by simp at h
  | _ :: _, [], _, _, _, _, _, _, h => by simp at h
theorem fnm {B : Bs} (E : Env0 B) {m : Nat} (hm : 3 ≤ m) {fa : Addr} {names rest : List Str} {rs : List RS} (Fn : FnF B.K fa names (names ++ rest) rs) {args : List CV} {S : Store} {Q : CV → Store → Prop}
    (hlen : names.length = args.length) (hnod : names.Nodup) (hbind : ∀ vs : List Value, vs.length = names.length → bindArgs (fdOf B.K fa) ⟨vs, []⟩ = pure (names.zip vs))
    (h : wpSs (Gm B (m - 1)) rs (args.map some ++ List.replicate rest.length none) S fun fl _ S' => match fl with | .ret v => Q v S' | .next => Q .none S') : FnOk B m fa args S Q := by
  obtain ⟨k, rfl⟩ : ∃ k, m = k + 3 := ⟨m - 3, by omega⟩
  refine fn_of (G := Gm B (k + 2)) (m := k + 2) (lv := k) E.run.ok (hypM E.run E.blt _) (Nat.le_refl _) Fn (dx := []) (dv := []) (fun _ => .nil) (by simpa [nth] using hlen) (fun s vs _ hl => by rw [List.append_nil]; exact BindsTo.of_eq (hbind vs (hl.trans hlen.symm))) ?_
  have := bindR_pre names args [] [] (List.replicate rest.length none) rest (by simpa [nth] using hnod) rfl hlen
  rw [List.append_nil, List.length_append, ← List.replicate_append_replicate]
  simp only [nth, List.nil_append] at this
  rw [this]
  exact h
theorem bind0 {P : List Value → Prop} (h : P []) (vs : List Value) (e : vs.length = 0) : P vs := (List.length_eq_zero_iff.mp e) ▸ h
theorem bindS {P : List Value → Prop} {n : Nat} (h : ∀ v, ∀ vs : List Value, vs.length = n → P (v :: vs)) (vs : List Value) (e : vs.length = n + 1) : P vs := by
  rcases vs with _ | ⟨v, vs⟩
  · exact Nat.noConfusion e
  · exact h v vs (Nat.succ.inj e)
theorem bind1 {P : List Value → Prop} (h : ∀ v, P [v]) : ∀ vs : List Value, vs.length = 1 → P vs := bindS fun v => bind0 (h v)
theorem bind2 {P : List Value → Prop} (h : ∀ a b, P [a, b]) : ∀ vs : List Value, vs.length = 2 → P vs := bindS fun v => bind1 (h v)
theorem bind3 {P : List Value → Prop} (h : ∀ a b c, P [a, b, c]) : ∀ vs : List Value, vs.length = 3 → P vs := bindS fun v => bind2 (h v)
theorem bind4 {P : List Value → Prop} (h : ∀ a b c d, P [a, b, c, d]) : ∀ vs : List Value, vs.length = 4 → P vs := bindS fun v => bind3 (h v)
theorem bind5 {P : List Value → Prop} (h : ∀ a b c d e, P [a, b, c, d, e]) : ∀ vs : List Value, vs.length = 5 → P vs := bindS fun v => bind4 (h v)
section
variable {B : Bs} {S : Store} {Q : CV → Store → Prop} {gd : Addr → Str → Option CV}
theorem sub_u8 : getItemV gd S (.str (Str.ofString "u8")) (.int 0) = some (.str (Str.ofString "u")) := by kernel_rfl
theorem sub_i8 : getItemV gd S (.str (Str.ofString "i8")) (.int 0) = some (.str (Str.ofString "i")) := by kernel_rfl
theorem cmp_str (a b : String) : cmpV .Eq S (.str (Str.ofString a)) (.str (Str.ofString b)) = some (decide (a = b)) := eqP_str a b
theorem ncmp_str (a b : String) : cmpV .NotEq S (.str (Str.ofString a)) (.str (Str.ofString b)) = some (!decide (a = b)) := by
  show (eqW S _ _).map _ = _
  rw [show eqW S (.str (Str.ofString a)) (.str (Str.ofString b)) = some (decide (a = b)) from eqP_str a b]; rfl
theorem cmp_eq (a : String) : cmpV .Eq S (.str (Str.ofString a)) (.str (Str.ofString a)) = some true := by rw [cmp_str]; simp
theorem cmp_ne {a b : String} (h : decide (a = b) = false) : cmpV .Eq S (.str (Str.ofString a)) (.str (Str.ofString b)) = some false := by rw [cmp_str, h]
theorem ncmp_eq (a : String) : cmpV .NotEq S (.str (Str.ofString a)) (.str (Str.ofString a)) = some false := by rw [ncmp_str]; simp
theorem ncmp_ne {a b : String} (h : decide (a = b) = false) : cmpV .NotEq S (.str (Str.ofString a)) (.str (Str.ofString b)) = some true := by rw [ncmp_str, h]; rfl
theorem ev_gl {m : Nat} {ρ : Rho} {x : Str} {v : CV} (h : glF x = some v) : Ev (Gm B m) (.glob x) ρ S v := ev_glob h
theorem bits_u8 {m : Nat} : getItemV (Gm B m).gd S (.raw (.ref 55)) (.str (Str.ofString "u8")) = some (.int 8) := by kernel_rfl
theorem bits_i8 {m : Nat} : getItemV (Gm B m).gd S (.raw (.ref 55)) (.str (Str.ofString "i8")) = some (.int 8) := by kernel_rfl
theorem gl_is_signed : glF (Str.ofString "is_signed") = some (.raw (.ref 62)) := by kernel_rfl
theorem gl_least : glF (Str.ofString "least") = some (.raw (.ref 69)) := by kernel_rfl
theorem gl_greatest : glF (Str.ofString "greatest") = some (.raw (.ref 76)) := by kernel_rfl
theorem gl_BITS : glF (Str.ofString "BITS") = some (.raw (.ref 55)) := by kernel_rfl
theorem is_signed_u8 (E : Env0 B) {m : Nat} (hm : 3 ≤ m) (h : Q (.bool false) S) : FnOk B m 62 [.str (Str.ofString "u8")] S Q :=
  fnm (rest := []) E hm E.facts.f62 rfl (by decide +kernel) E.facts.b62 (q_ret (ev_cmp (ev_sub (ev_loc rfl) ev_const sub_u8) ev_const (cmp_ne (by decide))) h)
theorem is_signed_i8 (E : Env0 B) {m : Nat} (hm : 3 ≤ m) (h : Q (.bool true) S) : FnOk B m 62 [.str (Str.ofString "i8")] S Q :=
  fnm (rest := []) E hm E.facts.f62 rfl (by decide +kernel) E.facts.b62 (q_ret (ev_cmp (ev_sub (ev_loc rfl) ev_const sub_i8) ev_const (cmp_eq _)) h)
section
variable {G : Gl} {ρ : Rho}
theorem ev_plus {p q : RE} {x y : Int} (hp : Ev G p ρ S (.int x)) (hq : Ev G q ρ S (.int y)) : Ev G (.bin .Add p q) ρ S (.int (x + y)) := ev_bin hp hq fun _ k => k
theorem ev_minus {p q : RE} {x y : Int} (hp : Ev G p ρ S (.int x)) (hq : Ev G q ρ S (.int y)) : Ev G (.bin .Sub p q) ρ S (.int (x - y)) := ev_bin hp hq fun _ k => k
theorem ev_pow {p q : RE} {x y : Int} (h0 : 0 ≤ y) (h : (Builtin.Int.intBits x : Int) * y ≤ 2 ^ 27) (hp : Ev G p ρ S (.int x)) (hq : Ev G q ρ S (.int y)) : Ev G (.bin .Pow p q) ρ S (.int (x ^ y.toNat)) := ev_bin hp hq fun _ k => ⟨h0, h, k⟩
end
section
variable {m : Nat} {ρ : Rho}
theorem ev_sg_u (E : Env0 B) (hm : 3 ≤ m) {e : RE} (h : Ev (Gm B m) e ρ S (.str (Str.ofString "u8"))) : Ev (Gm B m) (.call false (.glob (Str.ofString "is_signed")) [e]) ρ S (.bool false) := ev_call gl_is_signed (evs1 h) fun _ k => is_signed_u8 E hm k
theorem ev_sg_i (E : Env0 B) (hm : 3 ≤ m) {e : RE} (h : Ev (Gm B m) e ρ S (.str (Str.ofString "i8"))) : Ev (Gm B m) (.call false (.glob (Str.ofString "is_signed")) [e]) ρ S (.bool true) := ev_call gl_is_signed (evs1 h) fun _ k => is_signed_i8 E hm k
end
theorem least_u8 (E : Env0 B) {m : Nat} (hm : 4 ≤ m) (h : Q (.int 0) S) : FnOk B m 69 [.str (Str.ofString "u8")] S Q :=
  fnm (rest := []) E (lv0 hm rfl) E.facts.f69 rfl (by decide +kernel) E.facts.b69 (q_ret (ev_ite_f (ev_sg_u E (lv hm rfl) (ev_loc rfl)) ev_const) h)
theorem least_i8 (E : Env0 B) {m : Nat} (hm : 4 ≤ m) (h : Q (.int (-128)) S) : FnOk B m 69 [.str (Str.ofString "i8")] S Q :=
  fnm (rest := []) E (lv0 hm rfl) E.facts.f69 rfl (by decide +kernel) E.facts.b69 (q_ret (ev_ite_t (ev_sg_i E (lv hm rfl) (ev_loc rfl)) (ev_minus ev_const (ev_pow (x := 2) (y := 8 - 1) (by decide) (by decide +kernel) ev_const (ev_minus (ev_sub (ev_gl gl_BITS) (ev_loc rfl) bits_i8) ev_const)))) h)
end
end Lend
namespace Lend
section
variable {B : Bs} {S : Store} {Q : CV → Store → Prop} {gd : Addr → Str → Option CV}
theorem gl_fits : glF (Str.ofString "fits") = some (.raw (.ref 83)) := by kernel_rfl
theorem gl_wrapped : glF (Str.ofString "wrapped") = some (.raw (.ref 90)) := by kernel_rfl
theorem gl_cast_int : glF (Str.ofString "cast_int") = some (.raw (.ref 97)) := by kernel_rfl
theorem gl_exact : glF (Str.ofString "exact") = some (.raw (.ref 111)) := by kernel_rfl
theorem gl_checked : glF (Str.ofString "checked") = some (.raw (.ref 118)) := by kernel_rfl
theorem gl_compared : glF (Str.ofString "compared") = some (.raw (.ref 132)) := by kernel_rfl
theorem gl_int : glF (Str.ofString "int") = some (.raw (.type "int")) := by kernel_rfl
theorem greatest_u8 (E : Env0 B) {m : Nat} (hm : 4 ≤ m) (h : Q (.int 255) S) : FnOk B m 76 [.str (Str.ofString "u8")] S Q :=
  fnm (rest := []) E (lv0 hm rfl) E.facts.f76 rfl (by decide +kernel) E.facts.b76 (q_ret (ev_ite_f (ev_sg_u E (lv hm rfl) (ev_loc rfl)) (ev_minus (ev_pow (x := 2) (y := 8) (by decide) (by decide +kernel) ev_const (ev_sub (ev_gl gl_BITS) (ev_loc rfl) bits_u8)) ev_const)) h)
theorem ev_cmp2 {G : Gl} {ρ : Rho} {o1 o2 : CmpOp} {p q r : RE} {x y z : CV} {b1 b2 : Bool} (hp : Ev G p ρ S x) (hq : Ev G q ρ S y) (hr : Ev G r ρ S z) (h1 : cmpV o1 S x y = some b1) (h2 : cmpV o2 S y z = some b2) : Ev G (.cmp2 o1 o2 p q r) ρ S (.bool (b1 && b2)) := fun Q k => hp _ (hq _ (by
  show (match cmpV o1 S x y with | some true => wpE G r ρ S fun z S3 => (match cmpV o2 S3 y z with | some r => Q (.bool r) S3 | none => False) | some false => Q (.bool false) S | none => False)
  rw [h1]
  cases b1
  · exact k
  · exact hr _ (by rw [h2]; exact k)))
theorem fits_u8 (E : Env0 B) {m : Nat} (hm : 5 ≤ m) {n : Int} (h : Q (.bool (decide (0 ≤ n ∧ n ≤ 255))) S) : FnOk B m 83 [.str (Str.ofString "u8"), .int n] S Q := by
  rw [Bool.decide_and] at h
  exact fnm (rest := []) E (lv0 hm rfl) E.facts.f83 rfl (by decide +kernel) E.facts.b83 (q_ret (ev_cmp2 (ev_call gl_least (evs1 (ev_loc rfl)) fun _ k => least_u8 E (lv hm rfl) k) (ev_loc rfl) (ev_call gl_greatest (evs1 (ev_loc rfl)) fun _ k => greatest_u8 E (lv hm rfl) k) rfl rfl) h)
theorem wrap_tail {m : Nat} {t : String} {n low : Int} (hb : getItemV (Gm B m).gd S (.raw (.ref 55)) (.str (Str.ofString t)) = some (.int 8)) (h : Q (.int (low + (n - low) % 256)) S) :
    wpSs (Gm B m) (r90.drop 1) [some (.str (Str.ofString t)), some (.int n), some (.int low)] S fun fl _ S' => match fl with | .ret v => Q v S' | .next => Q .none S' := by
  rw [← Int.fmod_eq_emod_of_nonneg _ (by decide)] at h
  exact q_ret (ev_plus (ev_loc rfl) (ev_bin (x := .int (n - low)) (y := .int 256) (ev_minus (ev_loc rfl) (ev_loc rfl)) (ev_pow (x := 2) (y := 8) (by decide) (by decide +kernel) ev_const (ev_sub (ev_gl gl_BITS) (ev_loc rfl) hb)) fun _ k => ⟨by decide, k⟩)) h
theorem wrapped_u8 (E : Env0 B) {m : Nat} (hm : 5 ≤ m) {n : Int} (h : Q (.int (n % 256)) S) : FnOk B m 90 [.str (Str.ofString "u8"), .int n] S Q :=
  fnm (rest := ["low"]) E (lv0 hm rfl) E.facts.f90 rfl (by decide +kernel) E.facts.b90 (q_asg (ev_call gl_least (evs1 (ev_loc rfl)) fun _ k => least_u8 E (lv hm rfl) k) rfl (wrap_tail bits_u8 (by rw [Int.sub_zero, Int.zero_add]; exact h)))
theorem wrapped_i8 (E : Env0 B) {m : Nat} (hm : 5 ≤ m) {n : Int} (h : Q (.int ((n + 128) % 256 - 128)) S) : FnOk B m 90 [.str (Str.ofString "i8"), .int n] S Q :=
  fnm (rest := ["low"]) E (lv0 hm rfl) E.facts.f90 rfl (by decide +kernel) E.facts.b90 (q_asg (ev_call gl_least (evs1 (ev_loc rfl)) fun _ k => least_i8 E (lv hm rfl) k) rfl (wrap_tail bits_i8 (by rw [Int.sub_neg, Int.add_comm (-128), ← Int.sub_eq_add_neg]; exact h)))
theorem ev_intI {m : Nat} {ρ : Rho} {e : RE} {n : Int} (h : Ev (Gm B m) e ρ S (.int n)) : Ev (Gm B m) (.call false (.glob (Str.ofString "int")) [e]) ρ S (.int n) := fun Q k => by
  show wpE (Gm B m) (.glob (Str.ofString "int")) ρ S fun g S1 => wpEs (Gm B m) [e] ρ S1 fun xs S2 => callW (Gm B m) false g xs S2 Q
  exact ev_gl gl_int _ (evs1 h _ k)
theorem cast_u8 (E : Env0 B) {m : Nat} (hm : 6 ≤ m) {n : Int} (h : Q (.int (n % 256)) S) : FnOk B m 97 [.str (Str.ofString "u8"), .int n] S Q :=
  fnm (rest := []) E (lv0 hm rfl) E.facts.f97 rfl (by decide +kernel) E.facts.b97 (q_retw (wp_call (ev_gl gl_wrapped) (evs2 (ev_loc rfl) (ev_intI (ev_loc rfl))) (wrapped_u8 E (lv hm rfl) h)))
theorem cast_i8 (E : Env0 B) {m : Nat} (hm : 6 ≤ m) {n : Int} (h : Q (.int ((n + 128) % 256 - 128)) S) : FnOk B m 97 [.str (Str.ofString "i8"), .int n] S Q :=
  fnm (rest := []) E (lv0 hm rfl) E.facts.f97 rfl (by decide +kernel) E.facts.b97 (q_retw (wp_call (ev_gl gl_wrapped) (evs2 (ev_loc rfl) (ev_intI (ev_loc rfl))) (wrapped_i8 E (lv hm rfl) h)))
theorem exact_add (E : Env0 B) {m : Nat} (hm : 3 ≤ m) {a b : Int} (h : Q (.int (a + b)) S) : FnOk B m 111 [.str (Str.ofString "+"), .int a, .int b] S Q :=
  fnm (rest := []) E hm E.facts.f111 rfl (by decide +kernel) E.facts.b111 (q_if_ret (ev_cmp (ev_loc rfl) ev_const (cmp_eq _)) (ev_bin (ev_loc rfl) (ev_loc rfl) fun _ k => k) h)
theorem in_shift' : cmpV .In S (.str (Str.ofString "+")) (.tup [.str (Str.ofString "<<"), .str (Str.ofString ">>")]) = some false := by kernel_rfl
theorem checked_add (E : Env0 B) {m : Nat} (hm : 6 ≤ m) {a b : Int} (h : Q (.tup [.int ((a + b) % 256), .bool (!decide (0 ≤ a + b ∧ a + b ≤ 255))]) S) : FnOk B m 118 [.str (Str.ofString "u8"), .str (Str.ofString "+"), .int a, .int b] S Q :=
  fnm (rest := ["found"]) E (lv0 hm rfl) E.facts.f118 rfl (by decide +kernel) E.facts.b118 (q_if_f (ev_cmp (ev_loc rfl) (ev_tup (evs2 ev_const ev_const) rfl) in_shift')
    (q_asg (ev_call gl_exact (evs3 (ev_loc rfl) (ev_loc rfl) (ev_loc rfl)) fun Q k => exact_add E (lv hm rfl) k) rfl
    (q_if_f (ev_cmp (ev_loc rfl) ev_const rfl) (q_if_f (ev_and (evb_off (ev_cmp (ev_loc rfl) ev_const (cmp_ne (by decide)))))
    (q_ret (ev_tup (evs2 (ev_call gl_wrapped (evs2 (ev_loc rfl) (ev_loc rfl)) fun Q k => wrapped_u8 E (lv hm rfl) k) (ev_not (ev_call gl_fits (evs2 (ev_loc rfl) (ev_loc rfl)) fun Q k => fits_u8 E (lv hm rfl) k))) rfl) h)))))
theorem compared_lt (E : Env0 B) {m : Nat} (hm : 3 ≤ m) {a b : Int} (h : Q (.bool (decide (a < b))) S) : FnOk B m 132 [.str (Str.ofString "<"), .int a, .int b] S Q :=
  fnm (rest := []) E hm E.facts.f132 rfl (by decide +kernel) E.facts.b132 (q_if_f (ev_cmp (ev_loc rfl) ev_const (cmp_ne (by decide))) (q_if_f (ev_cmp (ev_loc rfl) ev_const (cmp_ne (by decide)))
    (q_if_ret (ev_cmp (ev_loc rfl) ev_const (cmp_eq _)) (ev_cmp (ev_loc rfl) (ev_loc rfl) rfl) h)))
end
end Lend
namespace Lend
theorem cls_of {B : Bs} (E : Env0 B) {C init : Addr} {args : List CV} {S : Store} {Q : CV → Store → Prop} {m : Nat} (hm : 4 ≤ m) (hc : ClsF B.K C init)
    (h : ∀ b d, lk S b = none → (∀ p ∈ S, p.1 ≠ b) → FnOk B (m - 1) init (.loc b :: args) ((b, .inst C d []) :: S) fun v S' => v = .none ∧ Q (.loc b) S') : FnOk B m C args S Q := by
  obtain ⟨k, rfl⟩ : ∃ k, m = k + 1 := ⟨m - 1, by omega⟩
  exact cls_enter E.run.ok hc.k hc.m hc.i hc.t h
section
variable {B : Bs} {S : Store} {Q : CV → Store → Prop} {gd : Addr → Str → Option CV}
theorem gl_dict : glF (Str.ofString "dict") = some (.raw (.type "dict")) := by kernel_rfl
theorem gl_PLAIN : glF (Str.ofString "PLAIN") = some (strT ["int", "bool"]) := by kernel_rfl
theorem gl_COMPARED : glF (Str.ofString "COMPARED") = some (strT ["==", "!=", "<", "<=", ">", ">="]) := by kernel_rfl
theorem at_known {m : Nat} : (Gm B m).atr 254 (Str.ofString "known") = true := by kernel_rfl
noncomputable def FactsAt (S : Store) (a ka : Addr) (kvs : List (Int × CV)) : Prop := (∃ d, lk S a = some (.inst 254 d [(Str.ofString "known", .loc ka)])) ∧ lk S ka = some (.dict kvs)
end
end Lend
namespace Lend
set_option genSizeOf false
set_option genInjectivity false
inductive Step where
  | field (i : Nat) | deref | index (i : Nat)
noncomputable def stepV : Step → CV
  | .field i => .tup [.str (Str.ofString "field"), .int i]
  | .deref => .tup [.str (Str.ofString "deref")]
  | .index i => .tup [.str (Str.ofString "index"), .int i]
noncomputable def placeV (l : Int) (ps : List Step) : CV := .tup [.int l, .tup (ps.map stepV)]
noncomputable def walkS : CV → List Step → Option CV
  | v, [] => some v
  | v, p :: ps => match isNone v with
    | none => none
    | some true => some .none
    | some false => match p with
      | .field i => (match v with
        | .tup xs => if i ≤ 100000 then (match xs[i]? with | some u => walkS u ps | none => none) else none
        | _ => none)
      | _ => some .none
section
variable {B : Bs} {S : Store} {Q : CV → Store → Prop} {gd : Addr → Str → Option CV}
theorem kind_get {m : Nat} {ka : Addr} {kvs : List (Int × CV)} (h : lk S ka = some (.dict kvs)) : kindM (Gm B m) S (.loc ka) (Str.ofString "get") = some (.blt "dict" "dict.get") := by
  unfold kindM
  dsimp only
  rw [h]
  dsimp only [nth, dictId]
  rw [if_pos rfl]
theorem kind_pop {m : Nat} {ka : Addr} {kvs : List (Int × CV)} (h : lk S ka = some (.dict kvs)) : kindM (Gm B m) S (.loc ka) (Str.ofString "pop") = some (.blt "dict" "dict.pop") := by
  unfold kindM
  dsimp only
  rw [h]
  dsimp only [nth, dictId]
  rw [if_neg (by rw [ofString_eq]; decide), if_pos rfl]
theorem attr_known {m : Nat} {a ka : Addr} {kvs : List (Int × CV)} (h : FactsAt S a ka kvs) : getAttrV (Gm B m) S (.loc a) (Str.ofString "known") = some (.loc ka) := by
  obtain ⟨⟨d, h1⟩, h2⟩ := h
  simp [nth, getAttrV, h1, at_known, lookN, isClean]
section
variable {G : Gl} {ρ : Rho} {S : Store} {K : Fl → Rho → Store → Prop} {ss body : List RS}
noncomputable def forN (G : Gl) (g : Store → Prop) (i : Nat) (body : List RS) (xs : List CV) (ρ : Rho) (S : Store) (Q : Fl → Rho → Store → Prop) : Prop := forW g (fun y ρ S Q => wpAsg G (.name i) y ρ S fun ρ' S' => wpSs G body ρ' S' Q) xs ρ S Q
noncomputable def thenW (G : Gl) (ss : List RS) (K : Fl → Rho → Store → Prop) : Fl → Rho → Store → Prop := fun fl ρ' S' => match fl with | .next => wpSs G ss ρ' S' K | .ret v => K (.ret v) ρ' S'
theorem q_for {i : Nat} {it : RE} {x : CV} {xs : List CV} (hi : Ev G it ρ S x) (hx : iterX S x = some xs) (k : forN G (stays S x) i body xs ρ S (thenW G ss K)) : wpSs G (.for (.name i) it body :: ss) ρ S K := hi _ (by
  show (match iterX S x with | some items => forW _ _ items ρ S _ | none => False)
  rw [hx]; exact k)
theorem for_nil {g : Store → Prop} {i : Nat} {Q : Fl → Rho → Store → Prop} (h : Q .next ρ S) : forN G g i body [] ρ S Q := h
theorem for_cons {g : Store → Prop} {i : Nat} {y : CV} {ys : List CV} {Q : Fl → Rho → Store → Prop} (hi : Nat.blt i ρ.length = true) (h : wpSs G body (ρ.set i (some y)) S fun fl ρ' S' => match fl with | .next => g S' ∧ forN G g i body ys ρ' S' Q | .ret v => Q (.ret v) ρ' S') : forN G g i body (y :: ys) ρ S Q := ⟨Nat.le_of_ble_eq_true hi, h⟩
end
theorem meth_get {G : Gl} {own : Bool} {ka : Addr} {kvs : List (Int × CV)} {l : Int} (h : lk S ka = some (.dict kvs)) (k : Q ((atK kvs l).getD .none) S) : methW G own (.loc ka) (Str.ofString "get") [.int l] S Q := by
  unfold methW
  dsimp only
  rw [h]
  dsimp only [dictMethW]
  rw [if_pos rfl]; exact k
theorem is_none {v : CV} {r : Bool} (h : isNone v = some r) : cmpV .Is S v .none = some r := by cases v <;> exact h
set_option tactic.hygienic true in
theorem at_place_ok (E : Env0 B) {m : Nat} (hm : 3 ≤ m) {a ka : Addr} {kvs : List (Int × CV)} {l : Int} {ps : List Step} {r : CV} (hF : FactsAt S a ka kvs) (hw : walkS ((atK kvs l).getD .none) ps = some r) (h : Q r S) :
    FnOk B m 237 [.loc a, placeV l ps] S Q := by
  refine fnm (rest := ["value", "projection"]) E hm E.facts.f237 rfl (by decide +kernel) E.facts.b237 ?_
  refine q_asg (x := (atK kvs l).getD .none) (ev_meth (ev_attr (ev_loc rfl) (attr_known hF)) (kind_get hF.2) (evs1 (ev_i0 (ev_loc rfl) rfl)) fun Q k => ?_) rfl ?_
  · exact meth_get hF.2 k
  refine q_for (ev_i1 (ev_loc rfl) rfl) (xs := ps.map stepV) rfl ?_
  have hg : ∀ S', stays S (.tup (ps.map stepV)) S' := fun _ => trivial
  generalize stays S (.tup (ps.map stepV)) = g at hg
  generalize (atK kvs l).getD .none = v at hw
  show forN _ g 3 _ _ [some (.loc a), some (placeV l ps), some v, none] S _
  generalize placeV l ps = P
  generalize (none : Option CV) = p
  induction ps generalizing v p with
  | nil => cases hw; exact for_nil (q_ret (ev_loc rfl) h)
  | cons q ps ih =>
    refine for_cons rfl ?_
    simp only [walkS] at hw
    rcases hn : isNone v with _ | b
    · rw [hn] at hw; cases hw
    · rw [hn] at hw
      rcases b with _ | _
      · rcases q with i | _ | i
        · dsimp only at hw
          split at hw
          · rename_i xs
            split at hw
            · rename_i hi
              split at hw
              · rename_i u hu
                exact q_if_f (ev_or (evb_on (ev_cmp (ev_loc rfl) ev_const (is_none hn)) (evb_on (ev_cmp (ev_i0 (ev_loc rfl) rfl) ev_const (ncmp_eq _)) evb_nil))) (q_asg (ev_sub (ev_loc rfl) (ev_i1 (ev_loc rfl) rfl) ((item_tup hi).trans hu)) rfl ⟨hg _, ih u hw _⟩)
              · cases hw
            · cases hw
          · cases hw
        · cases hw; exact q_if_ret (ev_or (evb_on (ev_cmp (ev_loc rfl) ev_const (is_none hn)) (evb_off (ev_cmp (ev_i0 (ev_loc rfl) rfl) ev_const (ncmp_ne (by decide)))))) ev_const h
        · cases hw; exact q_if_ret (ev_or (evb_on (ev_cmp (ev_loc rfl) ev_const (is_none hn)) (evb_off (ev_cmp (ev_i0 (ev_loc rfl) rfl) ev_const (ncmp_ne (by decide)))))) ev_const h
      · cases hw; exact q_if_ret (ev_or (evb_off (ev_cmp (ev_loc rfl) ev_const (is_none hn)))) ev_const h
end
end Lend
namespace Lend
section
variable {G : Gl} {ρ ρ' ρ1 : Rho} {S : Store} {K : Fl → Rho → Store → Prop} {ss a b : List RS} {i k : Nat}
theorem w_tup {es : List RE} {Q : CV → Store → Prop} (h : wpEs G es ρ S fun xs S' => xs.length ≤ small ∧ Q (.tup xs) S') : wpE G (.tup es) ρ S Q := h
theorem w_cons {e : RE} {es : List RE} {Q : List CV → Store → Prop} (h : wpE G e ρ S fun x S1 => wpEs G es ρ S1 fun xs S2 => Q (x :: xs) S2) : wpEs G (e :: es) ρ S Q := h
theorem w_nil {Q : List CV → Store → Prop} (h : Q [] S) : wpEs G [] ρ S Q := h
theorem w_ev {e : RE} {x : CV} {Q : CV → Store → Prop} (h : Ev G e ρ S x) (k : Q x S) : wpE G e ρ S Q := h Q k
theorem w_call1 {own : Bool} {f e : RE} {fa : Addr} {Q : CV → Store → Prop} (hf : Ev G f ρ S (.raw (.ref fa))) (h : wpE G e ρ S fun x S1 => G.fn fa [x] S1 Q) : wpE G (.call own f [e]) ρ S Q := hf _ h
theorem w_and {es : List RE} {Q : CV → Store → Prop} (h : wpB G true es ρ S fun b S' => Q (.bool b) S') : wpE G (.and es) ρ S Q := h
theorem wb_on {all : Bool} {e : RE} {es : List RE} {Q : Bool → Store → Prop} (h : Ev G e ρ S (.bool all)) (t : wpB G all es ρ S Q) : wpB G all (e :: es) ρ S Q := h _ (by
  show (if all = all then wpB G all es ρ S Q else Q (!all) S)
  rw [if_pos rfl]; exact t)
theorem w_bcmp {op : CmpOp} {all : Bool} {p q : RE} {es : List RE} {Q : Bool → Store → Prop} (h : wpE G p ρ S fun x S1 => wpE G q ρ S1 fun y S2 => (match cmpV op S2 x y with | some r => if r = all then wpB G all es ρ S2 Q else Q (!all) S2 | none => False)) : wpB G all (.cmp op p q :: es) ρ S Q := h
theorem w_bcmp_on {op : CmpOp} {all : Bool} {x y : CV} {es : List RE} {Q : Bool → Store → Prop} (h : cmpV op S x y = some all) (k : wpB G all es ρ S Q) : (match cmpV op S x y with | some r => if r = all then wpB G all es ρ S Q else Q (!all) S | none => False) := by rw [h]; dsimp only; rw [if_pos rfl]; exact k
theorem evb_last {all : Bool} {e : RE} {r : Bool} (h : Ev G e ρ S (.bool r)) : Evb G all [e] ρ S r := by
  cases all <;> cases r
  · exact evb_on h evb_nil
  · exact evb_off h
  · exact evb_off h
  · exact evb_on h evb_nil
theorem evb_and2 {e1 e2 : RE} {b1 b2 : Bool} (h1 : Ev G e1 ρ S (.bool b1)) (h2 : b1 = true → Ev G e2 ρ S (.bool b2)) : Evb G true [e1, e2] ρ S (b1 && b2) := by
  cases b1
  · exact evb_off h1
  · exact evb_on h1 (evb_last (h2 rfl))
theorem wp_meth' {own : Bool} {o : RE} {x : CV} {xs : List CV} {Q : CV → Store → Prop} {n : Str} {args : List RE} {mk : MK} (ho : Ev G o ρ S x) (hk : kindM G S x n = some mk) (hs : Evs G args ρ S xs) (h : methW G own x n xs S Q) : wpE G (.meth own o n args) ρ S Q :=
  ho _ ⟨by rw [hk]; rfl, hs _ ⟨by rw [hk], h⟩⟩
theorem if_ff {P P' : Prop} (h : P) : if false = true then P' else P := by rw [if_neg (by decide)]; exact h
theorem if_tt {P P' : Prop} (h : P) : if true = true then P else P' := by rw [if_pos rfl]; exact h
theorem q_if_orw {es : List RE} (h : wpB G false es ρ S fun b S1 => if b = true then wpSs G a ρ S1 (thenW G ss K) else wpSs G ss ρ S1 K) : wpSs G (.ite (.or es) a [] :: ss) ρ S K := h
theorem swap_in {is : List Nat} {P : Prop} {xs : List CV} (hl : Nat.ble xs.length small = true) (hi : (is.all fun i => Nat.blt i ρ.length) = true) (k : P) : xs.length ≤ small ∧ (∀ k ∈ is, k < ρ.length) ∧ P := ⟨Nat.le_of_ble_eq_true hl, fun i h => Nat.le_of_ble_eq_true (List.all_eq_true.mp hi i h), k⟩
theorem q_swap2w {j : Nat} {p q : RE} (h : wpE G p ρ S fun x S1 => wpE G q ρ S1 fun y S2 => [x, y].length ≤ small ∧ (∀ k ∈ [i, j], k < ρ.length) ∧ wpSs G ss (setAll ρ [j, i] [y, x]) S2 K) : wpSs G (.asg (.swap [i, j]) (.tup [p, q]) :: ss) ρ S K := h
theorem q_swap3w {j l : Nat} {p q r : RE} (h : wpE G p ρ S fun x S1 => wpE G q ρ S1 fun y S2 => wpE G r ρ S2 fun z S3 => [x, y, z].length ≤ small ∧ (∀ k ∈ [i, j, l], k < ρ.length) ∧ wpSs G ss (setAll ρ [l, j, i] [z, y, x]) S3 K) : wpSs G (.asg (.swap [i, j, l]) (.tup [p, q, r]) :: ss) ρ S K := h
theorem q_tup2w {j : Nat} {p q : RE} (h : wpE G p ρ S fun x S1 => wpE G q ρ S1 fun y S2 => [x, y].length ≤ small ∧ (∀ k ∈ [i, j], k < ρ.length) ∧ wpSs G ss (setAll ρ [i, j] [x, y]) S2 K) : wpSs G (.asg (.tup [i, j]) (.tup [p, q]) :: ss) ρ S K := h
theorem q_exprw {e : RE} (h : wpE G e ρ S fun _ S1 => wpSs G ss ρ S1 K) : wpSs G (.expr e :: ss) ρ S K := h
theorem q_done (h : K .next ρ S) : wpSs G [] ρ S K := h
theorem q_then {c : RE} (hc : Ev G c ρ S (.bool true)) (k : wpSs G a ρ S (thenW G ss K)) : wpSs G (.ite c a b :: ss) ρ S K := hc _ (by
  show (if true = true then wpSs G a ρ S _ else _)
  rw [if_pos rfl]; exact k)
theorem q_else {c : RE} (hc : Ev G c ρ S (.bool false)) (k : wpSs G b ρ S (thenW G ss K)) : wpSs G (.ite c a b :: ss) ρ S K := hc _ (by
  show (if false = true then _ else wpSs G b ρ S _)
  rw [if_neg (by decide)]; exact k)
theorem q_next (h : wpSs G ss ρ S K) : thenW G ss K .next ρ S := h
theorem ev_mod {p : RE} {x y : Int} (hp : Ev G p ρ S (.int x)) (hy : decide (y = 0) = false) : Ev G (.bin .Mod p (.const (.int y))) ρ S (.int (x.fmod y)) := ev_bin hp ev_const fun Q k => ⟨of_decide_eq_false hy, k⟩
theorem ev_dict {ks : List Int} {vs : List RE} {xs : List CV} (h : Evs G vs ρ S xs) : Ev G (.dict false ks vs) ρ S (.fdict (mergeK [] (ks.zip xs))) := fun Q k => h (fun xs S' => newDictW false (mergeK [] (ks.zip xs)) S' Q) k
theorem stays_self {x : CV} : stays S x S := by unfold stays; split <;> trivial
noncomputable def EvT (G : Gl) (t : RT) (y : CV) (ρ : Rho) (S : Store) (ρ' : Rho) : Prop := ∀ Q : Rho → Store → Prop, Q ρ' S → wpAsg G t y ρ S Q
theorem t_name {y : CV} (h : Nat.blt i ρ.length = true) : EvT G (.name i) y ρ S (ρ.set i (some y)) := fun _ k => ⟨Nat.le_of_ble_eq_true h, k⟩
theorem t_tup {is : List Nat} {y : CV} {xs : List CV} (hu : unpackV S y is.length = some xs) (hi : (is.all fun i => Nat.blt i ρ.length) = true) : EvT G (.tup is) y ρ S (setAll ρ is xs) := fun Q k => by
  show (match unpackV S y is.length with | some xs => (∀ i ∈ is, i < ρ.length) ∧ Q (setAll ρ is xs) S | none => False)
  rw [hu]; exact ⟨fun i h => Nat.le_of_ble_eq_true (List.all_eq_true.mp hi i h), k⟩
noncomputable def EvTs (G : Gl) (es : List RE) (ρ : Rho) (S : Store) (b : Bool) : Prop := ∀ Q : Bool → Store → Prop, Q b S → wpTs G es ρ S Q
theorem ts_nil : EvTs G [] ρ S true := fun _ k => k
theorem ts_on {e : RE} {es : List RE} {b : Bool} (h : Ev G e ρ S (.bool true)) (r : EvTs G es ρ S b) : EvTs G (e :: es) ρ S b := fun Q k => h _ (by
  show (if true = true then wpTs G es ρ S Q else _)
  rw [if_pos rfl]; exact r Q k)
theorem ts_off {e : RE} {es : List RE} (h : Ev G e ρ S (.bool false)) : EvTs G (e :: es) ρ S false := fun Q k => h _ (by
  show (if false = true then _ else Q false S)
  rw [if_neg (by decide)]; exact k)
noncomputable def compB1 (G : Gl) (t : RT) (elt : RE) (ifs : List RE) : CV → Rho → Store → List CV → (Rho → Store → List CV → Prop) → Prop := fun y ρ S acc Q => wpAsg G t y ρ S fun ρ' S' => wpTs G ifs ρ' S' fun b S'' => if b = true then
  wpGs G [] (fun ρ S acc Q => wpE G elt ρ S fun v S' => acc.length ≤ small ∧ Q ρ S' (acc ++ [v])) ρ' S'' acc Q else Q ρ' S'' acc
noncomputable def Evc (G : Gl) (t : RT) (elt : RE) (ifs : List RE) (ρ : Rho) (S : Store) (ys : List CV) (ρ' : Rho) (out : List CV) : Prop := ∀ (g : Store → Prop) (acc : List CV) (Q : Rho → Store → List CV → Prop), g S → acc.length + ys.length ≤ small → Q ρ' S (acc ++ out) → compW g (compB1 G t elt ifs) ys ρ S acc Q
section
variable {t : RT} {elt : RE} {ifs : List RE} {y v : CV} {ys out : List CV}
theorem c_nil : Evc G t elt ifs ρ S [] ρ [] := fun g acc Q hg hl k => by rw [List.append_nil] at k; exact k
theorem c_on (ht : EvT G t y ρ S ρ1) (hi : EvTs G ifs ρ1 S true) (he : Ev G elt ρ1 S v) (r : Evc G t elt ifs ρ1 S ys ρ' out) : Evc G t elt ifs ρ S (y :: ys) ρ' (v :: out) := fun g acc Q hg hl k => ht _ (hi _ (by
  rw [List.length_cons] at hl
  show (if true = true then wpE G elt ρ1 S _ else _)
  rw [if_pos rfl]
  refine he _ ⟨by omega, hg, r g (acc ++ [v]) Q hg (by rw [List.length_append, List.length_singleton]; omega) ?_⟩
  rw [List.append_assoc]; exact k))
theorem c_off (ht : EvT G t y ρ S ρ1) (hi : EvTs G ifs ρ1 S false) (r : Evc G t elt ifs ρ1 S ys ρ' out) : Evc G t elt ifs ρ S (y :: ys) ρ' out := fun g acc Q hg hl k => ht _ (hi _ (by
  rw [List.length_cons] at hl
  show (if false = true then _ else _)
  rw [if_neg (by decide)]
  exact ⟨hg, r g acc Q hg (by omega) k⟩))
theorem ev_lcomp {it : RE} {x : CV} {items : List CV} (hit : Ev G it ρ S x) (hx : iterX S x = some items) (hl : Nat.ble items.length small = true) (hc : Evc G t elt ifs (List.replicate k none ++ ρ) S items ρ' out) (hd : ρ'.drop k = ρ) : Ev G (.lcomp k elt it t ifs []) ρ S (.flist out) := fun Q kk => hit _ (by
  show (match iterX S x with | some items => compW (stays S x) (compB1 G t elt ifs) items (List.replicate k none ++ ρ) S [] (fun ρ' S' acc => ρ'.drop k = ρ ∧ Q (.flist acc) S') | none => False)
  rw [hx]
  exact hc _ [] _ stays_self (by rw [List.length_nil, Nat.zero_add]; exact Nat.le_of_ble_eq_true hl) ⟨hd, kk⟩)
end
noncomputable def forT (G : Gl) (g : Store → Prop) (t : RT) (body : List RS) (xs : List CV) (ρ : Rho) (S : Store) (Q : Fl → Rho → Store → Prop) : Prop := forW g (fun y ρ S Q => wpAsg G t y ρ S fun ρ' S' => wpSs G body ρ' S' Q) xs ρ S Q
noncomputable def forK (G : Gl) (g : Store → Prop) (t : RT) (body : List RS) (ys : List CV) (Q : Fl → Rho → Store → Prop) : Fl → Rho → Store → Prop := fun fl ρ' S' => match fl with | .next => g S' ∧ forT G g t body ys ρ' S' Q | .ret v => Q (.ret v) ρ' S'
theorem q_forT {t : RT} {it : RE} {body : List RS} {x : CV} {xs : List CV} (hi : Ev G it ρ S x) (hx : iterX S x = some xs) (k : forT G (stays S x) t body xs ρ S (thenW G ss K)) : wpSs G (.for t it body :: ss) ρ S K := hi _ (by
  show (match iterX S x with | some items => forW _ _ items ρ S _ | none => False)
  rw [hx]; exact k)
theorem forT_nil {t : RT} {body : List RS} {g : Store → Prop} {Q : Fl → Rho → Store → Prop} (h : Q .next ρ S) : forT G g t body [] ρ S Q := h
theorem forT_cons {t : RT} {body : List RS} {g : Store → Prop} {y : CV} {ys : List CV} {Q : Fl → Rho → Store → Prop} (ht : EvT G t y ρ S ρ1) (h : wpSs G body ρ1 S (forK G g t body ys Q)) : forT G g t body (y :: ys) ρ S Q := ht _ h
theorem evc_map {α : Type} {l : List α} {f h : α → CV} {elt : RE} (p : Option CV) (he : ∀ a ∈ l, Ev G elt (none :: some (f a) :: ρ) S (h a)) : ∃ q, Evc G (.name 1) elt [] (none :: p :: ρ) S (l.map f) (none :: q :: ρ) (l.map h) := by
  induction l generalizing p with
  | nil => exact ⟨p, c_nil⟩
  | cons a l ih =>
    obtain ⟨q, hq⟩ := ih (some (f a)) fun b hb => he b (.tail _ hb)
    exact ⟨q, c_on (t_name rfl) ts_nil (he a (.head _)) hq⟩
theorem ev_map {α : Type} {l : List α} {f h : α → CV} {elt it : RE} {x : CV} (hit : Ev G it ρ S x) (hx : iterX S x = some (l.map f)) (hl : l.length ≤ small) (he : ∀ a ∈ l, Ev G elt (none :: some (f a) :: ρ) S (h a)) : Ev G (.lcomp 2 elt it (.name 1) [] []) ρ S (.flist (l.map h)) := by
  obtain ⟨q, hq⟩ := evc_map none he
  exact ev_lcomp hit hx (Nat.ble_eq_true_of_le (by rw [List.length_map]; exact hl)) hq rfl
theorem evc_filt {α : Type} {l : List α} {f h : α → CV} {b : α → Bool} {elt e : RE} (p : Option CV) (ht : ∀ a ∈ l, Ev G e (none :: some (f a) :: ρ) S (.bool (b a))) (he : ∀ a ∈ l, b a = true → Ev G elt (none :: some (f a) :: ρ) S (h a)) : ∃ q, Evc G (.name 1) elt [e] (none :: p :: ρ) S (l.map f) (none :: q :: ρ) ((l.filter b).map h) := by
  induction l generalizing p with
  | nil => exact ⟨p, c_nil⟩
  | cons a l ih =>
    obtain ⟨q, hq⟩ := ih (some (f a)) (fun c hc => ht c (.tail _ hc)) fun c hc => he c (.tail _ hc)
    have h1 := ht a (.head _)
    cases hb : b a
    · rw [hb] at h1
      rw [List.filter_cons_of_neg (by rw [hb]; decide)]
      exact ⟨q, c_off (t_name rfl) (ts_off h1) hq⟩
    · rw [hb] at h1
      rw [List.filter_cons_of_pos hb]
      exact ⟨q, c_on (t_name rfl) (ts_on h1 ts_nil) (he a (.head _) hb) hq⟩
theorem ev_filt {α : Type} {l : List α} {f h : α → CV} {b : α → Bool} {elt it e : RE} {x : CV} (hit : Ev G it ρ S x) (hx : iterX S x = some (l.map f)) (hl : l.length ≤ small) (ht : ∀ a ∈ l, Ev G e (none :: some (f a) :: ρ) S (.bool (b a))) (he : ∀ a ∈ l, b a = true → Ev G elt (none :: some (f a) :: ρ) S (h a)) : Ev G (.lcomp 2 elt it (.name 1) [e] []) ρ S (.flist ((l.filter b).map h)) := by
  obtain ⟨q, hq⟩ := evc_filt none ht he
  exact ev_lcomp hit hx (Nat.ble_eq_true_of_le (by rw [List.length_map]; exact hl)) hq rfl
theorem item_fl {gd : Addr → Str → Option CV} {xs : List CV} {k : Nat} (hk : k ≤ 100000) : getItemV gd S (.flist xs) (.int k) = xs[k]? := by
  simp only [nth, getItemV, getI, view]
  rw [if_pos ⟨by omega, by omega⟩]
  simp [nth]
theorem ev_f1 {o : RE} {y x0 x : CV} {xs : List CV} (h : Ev G o ρ S y) (e : y = .flist (x0 :: x :: xs)) : Ev G (.sub o (.const (.int 1))) ρ S x := by subst e; exact ev_sub h ev_const (item_fl (k := 1) (by decide))
theorem put_len {α : Type} {K : List (Int × α)} {k : Int} {v : α} : (putK K k v).length ≤ K.length + 1 := by
  induction K with
  | nil => exact Nat.le_refl _
  | cons p r ih =>
    obtain ⟨j, x⟩ := p
    rw [putK]
    split
    · exact Nat.le_succ _
    · exact Nat.succ_le_succ ih
noncomputable def compD1 (G : Gl) (t : RT) (key val : RE) (ifs : List RE) : CV → Rho → Store → List (Int × CV) → (Rho → Store → List (Int × CV) → Prop) → Prop := fun y ρ S acc Q => wpAsg G t y ρ S fun ρ' S' => wpTs G ifs ρ' S' fun b S'' => if b = true then
  wpE G key ρ' S'' fun kv S3 => wpE G val ρ' S3 fun v S4 => (match kv with | .int j => acc.length ≤ small ∧ Q ρ' S4 (putK acc j v) | _ => False) else Q ρ' S'' acc
noncomputable def Evd (G : Gl) (t : RT) (key val : RE) (ifs : List RE) (ρ : Rho) (S : Store) (ys : List CV) (ρ' : Rho) (out : List (Int × CV)) : Prop := ∀ (g : Store → Prop) (acc : List (Int × CV)) (Q : Rho → Store → List (Int × CV) → Prop), g S → acc.length + ys.length ≤ small → Q ρ' S (mergeK acc out) → compW g (compD1 G t key val ifs) ys ρ S acc Q
section
variable {t : RT} {key val : RE} {ifs : List RE} {y v : CV} {ys : List CV} {out : List (Int × CV)} {j : Int}
theorem d_nil : Evd G t key val ifs ρ S [] ρ [] := fun g acc Q hg hl k => k
theorem d_on (ht : EvT G t y ρ S ρ1) (hi : EvTs G ifs ρ1 S true) (hk : Ev G key ρ1 S (.int j)) (hv : Ev G val ρ1 S v) (r : Evd G t key val ifs ρ1 S ys ρ' out) : Evd G t key val ifs ρ S (y :: ys) ρ' ((j, v) :: out) := fun g acc Q hg hl k => ht _ (hi _ (by
  rw [List.length_cons] at hl
  have hp := put_len (K := acc) (k := j) (v := v)
  show (if true = true then wpE G key ρ1 S _ else _)
  rw [if_pos rfl]
  exact hk _ (hv _ ⟨by omega, hg, r g (putK acc j v) Q hg (by omega) k⟩)))
theorem d_off (ht : EvT G t y ρ S ρ1) (hi : EvTs G ifs ρ1 S false) (r : Evd G t key val ifs ρ1 S ys ρ' out) : Evd G t key val ifs ρ S (y :: ys) ρ' out := fun g acc Q hg hl k => ht _ (hi _ (by
  rw [List.length_cons] at hl
  show (if false = true then _ else _)
  rw [if_neg (by decide)]
  exact ⟨hg, r g acc Q hg (by omega) k⟩))
theorem ev_dcomp {it : RE} {x : CV} {items : List CV} (hit : Ev G it ρ S x) (hx : iterX S x = some items) (hl : items.length ≤ small) (hc : Evd G t key val ifs (List.replicate k none ++ ρ) S items ρ' out) (hd : ρ'.drop k = ρ) : Ev G (.dcomp k key val it t ifs) ρ S (.fdict (mergeK [] out)) := fun Q kk => hit _ (by
  show (match iterX S x with | some items => compW (stays S x) (compD1 G t key val ifs) items (List.replicate k none ++ ρ) S ([] : List (Int × CV)) (fun ρ' S' acc => ρ'.drop k = ρ ∧ Q (.fdict acc) S') | none => False)
  rw [hx]
  exact hc _ [] _ stays_self (by rw [List.length_nil, Nat.zero_add]; exact hl) ⟨hd, kk⟩)
theorem evd_filt {α : Type} {l : List α} {f h : α → CV} {kk : α → Int} {b : α → Bool} {e : RE} (p : Option CV) (ht : ∀ a ∈ l, Ev G e (none :: some (f a) :: ρ) S (.bool (b a))) (hk : ∀ a ∈ l, Ev G key (none :: some (f a) :: ρ) S (.int (kk a))) (he : ∀ a ∈ l, b a = true → Ev G val (none :: some (f a) :: ρ) S (h a)) : ∃ q, Evd G (.name 1) key val [e] (none :: p :: ρ) S (l.map f) (none :: q :: ρ) ((l.filter b).map fun a => (kk a, h a)) := by
  induction l generalizing p with
  | nil => exact ⟨p, d_nil⟩
  | cons a l ih =>
    obtain ⟨q, hq⟩ := ih (some (f a)) (fun c hc => ht c (.tail _ hc)) (fun c hc => hk c (.tail _ hc)) fun c hc => he c (.tail _ hc)
    have h1 := ht a (.head _)
    cases hb : b a
    · rw [hb] at h1
      rw [List.filter_cons_of_neg (by rw [hb]; decide)]
      exact ⟨q, d_off (t_name rfl) (ts_off h1) hq⟩
    · rw [hb] at h1
      rw [List.filter_cons_of_pos hb]
      exact ⟨q, d_on (t_name rfl) (ts_on h1 ts_nil) (hk a (.head _)) (he a (.head _) hb) hq⟩
end
section
variable {B : Bs} {m : Nat} {Q : CV → Store → Prop}
theorem gl_len : glF (Str.ofString "len") = some (.raw (.builtin "len")) := by kernel_rfl
theorem ev_type {own : Bool} {f : Str} {t : String} {args : List RE} {xs : List CV} {v : CV} (hg : glF f = some (.raw (.type t))) (hs : Evs (Gm B m) args ρ S xs) (h : ∀ Q : CV → Store → Prop, Q v S → typeCallW own t xs S Q) : Ev (Gm B m) (.call own (.glob f) args) ρ S v := fun Q k => by
  show wpE (Gm B m) (.glob f) ρ S fun g S1 => wpEs (Gm B m) args ρ S1 fun xs S2 => callW (Gm B m) own g xs S2 Q
  exact ev_gl hg _ (hs _ (h Q k))
theorem ev_fun {own : Bool} {f : Str} {t : String} {args : List RE} {xs : List CV} {v : CV} (hg : glF f = some (.raw (.builtin t))) (hs : Evs (Gm B m) args ρ S xs) (h : ∀ Q : CV → Store → Prop, Q v S → fnCallW t xs S Q) : Ev (Gm B m) (.call own (.glob f) args) ρ S v := fun Q k => by
  show wpE (Gm B m) (.glob f) ρ S fun g S1 => wpEs (Gm B m) args ρ S1 fun xs S2 => callW (Gm B m) own g xs S2 Q
  exact ev_gl hg _ (hs _ (h Q k))
theorem tc_dict {own : Bool} {x : CV} {K : List (Int × CV)} (hx : view S x = .fdict K) (hl : K.length ≤ small) (h : newDictW own K S Q) : typeCallW own "dict" [x] S Q := by
  unfold typeCallW
  rw [if_neg (by decide), if_neg (by decide), if_pos rfl]
  dsimp only
  rw [hx]; exact ⟨hl, h⟩
theorem tc_dictL {own : Bool} {x : CV} {xs : List CV} {K : List (Int × CV)} (hx : view S x = .flist xs) (hp : pairsOf xs = some K) (hl : xs.length ≤ small) (h : newDictW own (mergeK [] K) S Q) : typeCallW own "dict" [x] S Q := by
  unfold typeCallW
  rw [if_neg (by decide), if_neg (by decide), if_pos rfl]
  dsimp only
  rw [hx]; dsimp only; rw [hp]; exact ⟨hl, h⟩
theorem ev_dictof {e : RE} {x : CV} {K : List (Int × CV)} (h : Ev (Gm B m) e ρ S x) (hx : view S x = .fdict K) (hl : K.length ≤ small) : Ev (Gm B m) (.call false (.glob (Str.ofString "dict")) [e]) ρ S (.fdict K) := ev_type gl_dict (evs1 h) fun _ k => tc_dict hx hl k
theorem ev_dictofL {e : RE} {x : CV} {xs : List CV} {K : List (Int × CV)} (h : Ev (Gm B m) e ρ S x) (hx : view S x = .flist xs) (hp : pairsOf xs = some K) (hl : xs.length ≤ small) : Ev (Gm B m) (.call false (.glob (Str.ofString "dict")) [e]) ρ S (.fdict (mergeK [] K)) := ev_type gl_dict (evs1 h) fun _ k => tc_dictL hx hp hl k
theorem ev_len {own : Bool} {e : RE} {x : CV} {n : Nat} (h : Ev (Gm B m) e ρ S x) (hx : lenV S x = some n) (hl : n ≤ small) : Ev (Gm B m) (.call own (.glob (Str.ofString "len")) [e]) ρ S (.int n) := ev_fun gl_len (evs1 h) fun _ k => by
  unfold fnCallW
  rw [if_pos rfl]
  dsimp only
  rw [hx]; exact ⟨hl, k⟩
end
theorem q_setd {o i e : RE} {a : Addr} {n : Int} {v : CV} {kvs : List (Int × CV)} (he : Ev G e ρ S v) (ho : Ev G o ρ S (.loc a)) (hi : Ev G i ρ S (.int n)) (hl : lk S a = some (.dict kvs)) (hs : kvs.length ≤ small) (k : wpSs G ss ρ (up S a (.dict (putK kvs n v))) K) : wpSs G (.asg (.sub o i) e :: ss) ρ S K := he _ (ho _ (hi _ (by
  show setItemW (.loc a) (.int n) v S _
  unfold setItemW
  dsimp only
  rw [hl]; exact ⟨hs, k⟩)))
theorem q_setl {o i e : RE} {a : Addr} {n : Int} {v : CV} {xs : List CV} (he : Ev G e ρ S v) (ho : Ev G o ρ S (.loc a)) (hi : Ev G i ρ S (.int n)) (hl : lk S a = some (.list xs)) (hn : decide (0 ≤ n ∧ n.toNat < xs.length) = true) (hs : Nat.ble xs.length small = true) (k : wpSs G ss ρ (up S a (.list (xs.set n.toNat v))) K) : wpSs G (.asg (.sub o i) e :: ss) ρ S K := he _ (ho _ (hi _ (by
  show setItemW (.loc a) (.int n) v S _
  unfold setItemW
  dsimp only
  rw [hl]; exact ⟨(of_decide_eq_true hn).1, (of_decide_eq_true hn).2, Nat.le_of_ble_eq_true hs, k⟩)))
theorem w_sub {o i : RE} {x : CV} {Q : CV → Store → Prop} (ho : Ev G o ρ S x) (h : wpE G i ρ S fun y S2 => (match getItemV G.gd S2 x y with | some v => Q v S2 | none => False)) : wpE G (.sub o i) ρ S Q := ho _ h
theorem w_newl {es : List RE} {xs : List CV} {Q : CV → Store → Prop} (hs : Evs G es ρ S xs) (hl : Nat.ble xs.length small = true) (h : ∀ b, lk S b = none → (∀ p ∈ S, p.1 ≠ b) → Q (.loc b) ((b, .list xs) :: S)) : wpE G (.list true es) ρ S Q := hs _ ⟨Nat.le_of_ble_eq_true hl, h⟩
theorem ev_times {p q : RE} {x y : Int} (h : IntMulOk x y) (hp : Ev G p ρ S (.int x)) (hq : Ev G q ρ S (.int y)) : Ev G (.bin .Mult p q) ρ S (.int (x * y)) := ev_bin hp hq fun _ k => ⟨h, k⟩
theorem q_asgr {t : RT} {e : RE} (h : wpE G e ρ S fun x S1 => wpAsg G t x ρ S1 fun ρ' S2 => wpSs G ss ρ' S2 K) : wpSs G (.asg t e :: ss) ρ S K := h
theorem a_seta {o : RE} {a : Addr} {v : CV} {S' : Store} {n : Str} {C d : Addr} {at0 : List (Str × CV)} {R : Rho → Store → Prop} (ho : Ev G o ρ S (.loc a)) (hl : lk S a = some (.inst C d at0)) (hn : G.atr C n = true) (h1 : Nat.ble at0.length 100 = true) (hs : up S a (.inst C d (putN at0 n v)) = S') (k : R ρ S') : wpAsg G (.attr o n) v ρ S R := ho _ (by
  subst hs
  show setAttrW G (.loc a) n v S _
  unfold setAttrW
  dsimp only
  rw [hl]; exact ⟨hn, Nat.le_of_ble_eq_true h1, k⟩)
theorem ev_neg {p : RE} {x : Int} (h : Ev G p ρ S (.int x)) : Ev G (.neg p) ρ S (.int (-x)) := fun _ k => h _ k
theorem rm_up_head {a : Addr} {c c' : CO} : rm (up ((a, c) :: S) a c') a = S := by
  rw [up, if_pos rfl, rm, if_pos rfl]
theorem rm_head {a : Addr} {c : CO} : rm ((a, c) :: S) a = S := by rw [rm, if_pos rfl]
theorem lk_up_head {a : Addr} {c c' : CO} : lk (up ((a, c) :: S) a c') a = some c' := by
  rw [up, if_pos rfl, lk, if_pos rfl]
theorem up_head {a : Addr} {c c' : CO} : up ((a, c) :: S) a c' = (a, c') :: S := by rw [up, if_pos rfl]
theorem w_lcomp {it : RE} {x : CV} {items : List CV} {t : RT} {elt : RE} {ifs : List RE} {Q : CV → Store → Prop} (hit : Ev G it ρ S x) (hx : iterX S x = some items) (h : compW (stays S x) (compB1 G t elt ifs) items (List.replicate k none ++ ρ) S [] (fun ρ' S' acc => ρ'.drop k = ρ ∧ Q (.flist acc) S')) : wpE G (.lcomp k elt it t ifs []) ρ S Q := hit _ (by
  show (match iterX S x with | some items => compW (stays S x) (compB1 G t elt ifs) items (List.replicate k none ++ ρ) S [] (fun ρ' S' acc => ρ'.drop k = ρ ∧ Q (.flist acc) S') | none => False)
  rw [hx]; exact h)
theorem w_con {t : RT} {elt : RE} {ifs : List RE} {g : Store → Prop} {y : CV} {ys acc : List CV} {Q : Rho → Store → List CV → Prop} (ht : EvT G t y ρ S ρ1) (hi : EvTs G ifs ρ1 S true) (h : wpE G elt ρ1 S fun v S' => acc.length ≤ small ∧ g S' ∧ compW g (compB1 G t elt ifs) ys ρ1 S' (acc ++ [v]) Q) : compW g (compB1 G t elt ifs) (y :: ys) ρ S acc Q := ht _ (hi _ (if_tt h))
theorem w_bin {op : Operator} {p q : RE} {x : CV} {Q : CV → Store → Prop} (hp : Ev G p ρ S x) (h : wpE G q ρ S fun y S2 => binW op x y S2 Q) : wpE G (.bin op p q) ρ S Q := hp _ h
theorem ev_cut {o : RE} {x : CV} {xs : List CV} {n : Nat} (h : Ev G o ρ S x) (hx : view S x = .flist xs) (hn : Nat.ble n xs.length = true) (hl : Nat.ble xs.length small = true) : Ev G (.cut o (.const (.int n))) ρ S (.flist (xs.take n)) := fun Q k => h _ (by
  show (match view S x, CV.int n with | .flist xs, .int k => 0 ≤ k ∧ k.toNat ≤ xs.length ∧ xs.length ≤ small ∧ Q (.flist (xs.take k.toNat)) S | _, _ => False)
  rw [hx]
  exact ⟨Int.natCast_nonneg n, Nat.le_of_ble_eq_true hn, Nat.le_of_ble_eq_true hl, k⟩)
theorem cmp_lt_t {x y : Int} (h : x < y) : cmpV .Lt S (.int x) (.int y) = some true := congrArg some (decide_eq_true h)
theorem cmp_lt_f {x y : Int} (h : ¬ x < y) : cmpV .Lt S (.int x) (.int y) = some false := congrArg some (decide_eq_false h)
section
variable {t t2 : RT} {elt it2 : RE} {ifs ifs2 : List RE} {y x2 : CV} {ys items2 out1 out : List CV} {ρ2 : Rho} {n N : Nat}
noncomputable def compB2 (G : Gl) (t : RT) (elt : RE) (ifs : List RE) (it2 : RE) (t2 : RT) (ifs2 : List RE) : CV → Rho → Store → List CV → (Rho → Store → List CV → Prop) → Prop := fun y ρ S acc Q => wpAsg G t y ρ S fun ρ' S' => wpTs G ifs ρ' S' fun b S'' => if b = true then
  wpGs G [.mk it2 t2 ifs2] (fun ρ S acc Q => wpE G elt ρ S fun v S' => acc.length ≤ small ∧ Q ρ S' (acc ++ [v])) ρ' S'' acc Q else Q ρ' S'' acc
noncomputable def Evc2 (G : Gl) (t : RT) (elt : RE) (ifs : List RE) (it2 : RE) (t2 : RT) (ifs2 : List RE) (ρ : Rho) (S : Store) (ys : List CV) (N : Nat) (ρ' : Rho) (out : List CV) : Prop := ∀ (g : Store → Prop) (acc : List CV) (Q : Rho → Store → List CV → Prop), g S → acc.length + N ≤ small → Q ρ' S (acc ++ out) → compW g (compB2 G t elt ifs it2 t2 ifs2) ys ρ S acc Q
theorem c2_nil : Evc2 G t elt ifs it2 t2 ifs2 ρ S [] 0 ρ [] := fun g acc Q hg hl k => by rw [List.append_nil] at k; exact k
theorem c2_on (ht : EvT G t y ρ S ρ1) (hi : EvTs G ifs ρ1 S true) (h2 : Ev G it2 ρ1 S x2) (hx : iterX S x2 = some items2) (hc : Evc G t2 elt ifs2 ρ1 S items2 ρ2 out1) (hn : Nat.ble items2.length n = true) (ho : Nat.ble out1.length n = true) (r : Evc2 G t elt ifs it2 t2 ifs2 ρ2 S ys N ρ' out) : Evc2 G t elt ifs it2 t2 ifs2 ρ S (y :: ys) (n + N) ρ' (out1 ++ out) := fun g acc Q hg hl k => ht _ (hi _ (by
  have hn := Nat.le_of_ble_eq_true hn
  have ho := Nat.le_of_ble_eq_true ho
  show (if true = true then wpE G it2 ρ1 S _ else _)
  rw [if_pos rfl]
  refine h2 _ ?_
  show (match iterX S x2 with | some items => compW (stays S x2) (compB1 G t2 elt ifs2) items ρ1 S acc _ | none => False)
  rw [hx]
  refine hc _ acc _ stays_self (by omega) ⟨hg, r g (acc ++ out1) Q hg (by rw [List.length_append]; omega) ?_⟩
  rw [List.append_assoc]; exact k))
theorem ev_lcomp2 {it : RE} {x : CV} {items : List CV} (hit : Ev G it ρ S x) (hx : iterX S x = some items) (hl : Nat.ble N small = true) (hc : Evc2 G t elt ifs it2 t2 ifs2 (List.replicate k none ++ ρ) S items N ρ' out) (hd : ρ'.drop k = ρ) : Ev G (.lcomp k elt it t ifs [.mk it2 t2 ifs2]) ρ S (.flist out) := fun Q kk => hit _ (by
  show (match iterX S x with | some items => compW (stays S x) (compB2 G t elt ifs it2 t2 ifs2) items (List.replicate k none ++ ρ) S [] (fun ρ' S' acc => ρ'.drop k = ρ ∧ Q (.flist acc) S') | none => False)
  rw [hx]
  exact hc _ [] _ stays_self (by rw [List.length_nil, Nat.zero_add]; exact Nat.le_of_ble_eq_true hl) ⟨hd, kk⟩)
end
theorem q_freeze {a : Addr} {xs : List CV} {S' : Store} (hi : nth ρ i = some (.loc a)) (hl : lk S a = some (.list xs)) (e : rm S a = S') (k : wpSs G ss (ρ.set i (some (.flist xs))) S' K) : wpSs G (.freeze i :: ss) ρ S K := by
  subst e
  show freezeW ρ i S fun ρ' S' => wpSs G ss ρ' S' K
  unfold freezeW
  rw [hi]; dsimp only; rw [hl]; exact k
theorem q_freezeD {a : Addr} {kvs : List (Int × CV)} {S' : Store} (hi : nth ρ i = some (.loc a)) (hl : lk S a = some (.dict kvs)) (e : rm S a = S') (k : wpSs G ss (ρ.set i (some (.fdict kvs))) S' K) : wpSs G (.freeze i :: ss) ρ S K := by
  subst e
  show freezeW ρ i S fun ρ' S' => wpSs G ss ρ' S' K
  unfold freezeW
  rw [hi]; dsimp only; rw [hl]; exact k
theorem q_append {own : Bool} {o e : RE} {a : Addr} {xs : List CV} {v : CV} (ho : Ev G o ρ S (.loc a)) (hl : lk S a = some (.list xs)) (he : Ev G e ρ S v) (hs : Nat.ble xs.length small = true) (k : wpSs G ss ρ (up S a (.list (xs ++ [v]))) K) : wpSs G (.expr (.meth own o (Str.ofString "append") [e]) :: ss) ρ S K := by
  have hk : kindM G S (.loc a) (Str.ofString "append") = some (.blt "list" "list.append") := by
    unfold kindM
    dsimp only
    rw [hl]
    dsimp only [listId]
    rw [if_pos rfl]
  refine ho _ ⟨by rw [hk]; rfl, evs1 he _ ⟨rfl, ?_⟩⟩
  unfold methW
  dsimp only
  rw [hl]
  dsimp only [listMethW]
  rw [if_pos rfl]
  exact ⟨Nat.le_of_ble_eq_true hs, k⟩
theorem q_newl {es : List RE} {xs : List CV} (h : Evs G es ρ S xs) (hl : Nat.ble xs.length small = true) (hi : Nat.blt i ρ.length = true) (k : ∀ b, lk S b = none → (∀ p ∈ S, p.1 ≠ b) → wpSs G ss (ρ.set i (some (.loc b))) ((b, .list xs) :: S) K) : wpSs G (.asg (.name i) (.list true es) :: ss) ρ S K :=
  h _ ⟨Nat.le_of_ble_eq_true hl, fun b h1 h2 => ⟨Nat.le_of_ble_eq_true hi, k b h1 h2⟩⟩
theorem q_newd {ks : List Int} {vs : List RE} {xs : List CV} (h : Evs G vs ρ S xs) (hi : Nat.blt i ρ.length = true) (k : ∀ b, lk S b = none → (∀ p ∈ S, p.1 ≠ b) → wpSs G ss (ρ.set i (some (.loc b))) ((b, .dict (mergeK [] (ks.zip xs))) :: S) K) : wpSs G (.asg (.name i) (.dict true ks vs) :: ss) ρ S K :=
  h (fun xs S1 => newDictW true (mergeK [] (ks.zip xs)) S1 fun v S2 => wpAsg G (.name i) v ρ S2 fun ρ' S3 => wpSs G ss ρ' S3 K) fun b h1 h2 => ⟨Nat.le_of_ble_eq_true hi, k b h1 h2⟩
theorem q_cat {p q : RE} {xs ys : List CV} (hp : Ev G p ρ S (.flist xs)) (hq : Ev G q ρ S (.flist ys)) (hl : Nat.ble (xs.length + ys.length) small = true) (hi : Nat.blt i ρ.length = true) (k : ∀ b, lk S b = none → (∀ p ∈ S, p.1 ≠ b) → wpSs G ss (ρ.set i (some (.loc b))) ((b, .list (xs ++ ys)) :: S) K) : wpSs G (.asg (.name i) (.cat p q) :: ss) ρ S K :=
  hp _ (hq _ ⟨Nat.le_of_ble_eq_true hl, fun b h1 h2 => ⟨Nat.le_of_ble_eq_true hi, k b h1 h2⟩⟩)
theorem ev_listadd {p q : RE} {xs ys : List CV} (hp : Ev G p ρ S (.flist xs)) (hq : Ev G q ρ S (.flist ys)) (hl : Nat.ble (xs.length + ys.length) small = true) : Ev G (.bin .Add p q) ρ S (.flist (xs ++ ys)) := ev_bin hp hq fun Q k => ⟨Nat.le_of_ble_eq_true hl, k⟩
end
end Lend
namespace Lend
set_option tactic.hygienic true in
theorem up_self : ∀ {S : Store} {a : Addr} {c : CO}, lk S a = some c → up S a c = S
  | [], _, _, h => by cases h
  | (b, c') :: r, a, c, h => by
    simp only [nth, lk] at h
    simp only [nth, up]
    split at h
    · rename_i e; subst e; cases h; rw [if_pos rfl]
    · rename_i e; rw [if_neg e, up_self h]
set_option tactic.hygienic true in
theorem del_none : ∀ {kvs : List (Int × CV)} {k : Int}, atK kvs k = none → delK kvs k = kvs
  | [], _, _ => rfl
  | (j, v) :: r, k, h => by
    simp only [nth, atK] at h
    simp only [nth, delK]
    split at h
    · cases h
    · rename_i e; rw [if_neg e, del_none h]
section
variable {B : Bs} {S : Store} {Q : CV → Store → Prop} {gd : Addr → Str → Option CV}
theorem in_PLAIN (w : String) : inW S (.str (Str.ofString w)) (strT ["int", "bool"]) = some (decide (w = "int" ∨ w = "bool")) := by
  simp only [nth, inW, view, strT, List.map_cons, List.map_nil, toPy, toPys, strOk_of, if_true]
  rw [if_pos (by simp [nth, PyData.depth, PyData.depthAll])]
  simp only [nth, List.any_cons, List.any_nil, Bool.or_false, PyData.eqv, ofString_beq]
  congr 1
  by_cases h1 : w = "int"
  · subst h1; simp
  · by_cases h2 : w = "bool"
    · subst h2; simp
    · have e1 : ¬ "int" = w := fun e => h1 e.symm
      have e2 : ¬ "bool" = w := fun e => h2 e.symm
      simp [nth, h1, h2, e1, e2]
theorem kind_at_place {m : Nat} {a ka : Addr} {kvs : List (Int × CV)} (h : FactsAt S a ka kvs) : kindM (Gm B m) S (.loc a) (Str.ofString "at_place") = some (.fn 237) := by
  obtain ⟨⟨d, h1⟩, h2⟩ := h
  unfold kindM
  dsimp only
  rw [h1]
  dsimp only
  rw [if_pos (by simp [nth, lookN, ofString_eq])]
  kernel_rfl
theorem mt_at_place {m : Nat} : (Gm B m).mt 254 (Str.ofString "at_place") = some 237 := by kernel_rfl
theorem in_plain (w : String) : cmpV .In S (.str (Str.ofString w)) (strT ["int", "bool"]) = some (decide (w = "int" ∨ w = "bool")) := in_PLAIN (S := S) w
theorem at_const (E : Env0 B) {m : Nat} (hm : 3 ≤ m) {x : CV} {w : String} {tr : List CV} {v : CV} (h : Q (if w = "int" ∨ w = "bool" then v else .none) S) : FnOk B m 244 [x, .tup [.str (Str.ofString "const"), .tup (.str (Str.ofString w) :: tr), v]] S Q := by
  refine fnm (rest := []) E hm E.facts.f244 rfl (by decide +kernel) E.facts.b244 (q_if_ret (ev_cmp (ev_i0 (ev_loc rfl) rfl) ev_const (cmp_eq _)) ?_ h)
  have hi := in_plain (S := S) w
  by_cases hw : w = "int" ∨ w = "bool"
  · rw [if_pos hw]
    rw [decide_eq_true hw] at hi
    exact ev_ite_t (ev_cmp (ev_i0 (ev_i1 (ev_loc rfl) rfl) rfl) (ev_gl gl_PLAIN) hi) (ev_i2 (ev_loc rfl) rfl)
  · rw [if_neg hw]
    rw [decide_eq_false hw] at hi
    exact ev_ite_f (ev_cmp (ev_i0 (ev_i1 (ev_loc rfl) rfl) rfl) (ev_gl gl_PLAIN) hi) ev_const
theorem at_copy (E : Env0 B) {m : Nat} (hm : 4 ≤ m) {a ka : Addr} {kvs : List (Int × CV)} {w : String} {l : Int} {ps : List Step} {r : CV} (hwd : w ≠ "const") (hF : FactsAt S a ka kvs) (hw : walkS ((atK kvs l).getD .none) ps = some r) (h : Q r S) :
    FnOk B m 244 [.loc a, .tup [.str (Str.ofString w), placeV l ps]] S Q := by
  refine fnm (rest := []) E (lv0 hm rfl) E.facts.f244 rfl (by decide +kernel) E.facts.b244 ?_
  refine q_if_f (ev_cmp (ev_i0 (ev_loc rfl) rfl) ev_const (cmp_ne (decide_eq_false hwd))) (q_retw (wp_meth (ev_loc rfl) (kind_at_place hF) (evs1 (ev_i1 (ev_loc rfl) rfl)) ?_))
  obtain ⟨d, h1⟩ := hF.1
  unfold methW
  dsimp only
  rw [h1]
  dsimp only
  rw [mt_at_place]
  exact at_place_ok E (lv hm rfl) hF hw h
theorem forget_ok (E : Env0 B) {m : Nat} (hm : 3 ≤ m) {a ka : Addr} {kvs : List (Int × CV)} {l : Int} {ps : List CV} (hF : FactsAt S a ka kvs) (hs : kvs.length ≤ small) (h : Q .none (up S ka (.dict (delK kvs l)))) :
    FnOk B m 251 [.loc a, .tup (.int l :: ps)] S Q := by
  refine fnm (rest := []) E hm E.facts.f251 rfl (by decide +kernel) E.facts.b251 (q_exprw (wp_meth' (ev_attr (ev_loc rfl) (attr_known hF)) (kind_pop (B := B) (m := m - 1) hF.2) (evs2 (ev_i0 (ev_loc rfl) rfl) ev_const) ?_))
  unfold methW
  dsimp only
  rw [hF.2]
  dsimp only [dictMethW]
  rw [if_neg (by rw [ofString_eq]; decide), if_pos rfl]
  rcases e : atK kvs l with _ | v
  · rw [del_none e, up_self hF.2] at h
    exact h
  · exact ⟨hs, h⟩
theorem w_owndict {m : Nat} {ρ : Rho} {e : RE} {x : CV} {K' : List (Int × CV)} (he : Ev (Gm B m) e ρ S x) (hx : view S x = .fdict K') (hl : K'.length ≤ small) (k : ∀ b, lk S b = none → (∀ p ∈ S, p.1 ≠ b) → Q (.loc b) ((b, .dict K') :: S)) : wpE (Gm B m) (.call true (.glob (Str.ofString "dict")) [e]) ρ S Q := by
  show wpE (Gm B m) (.glob (Str.ofString "dict")) ρ S fun g S1 => wpEs (Gm B m) [e] ρ S1 fun xs S2 => callW (Gm B m) true g xs S2 Q
  exact ev_gl gl_dict _ (evs1 he _ (tc_dict hx hl k))
theorem facts_init (E : Env0 B) {m : Nat} (hm : 3 ≤ m) {b d : Addr} {x : CV} {kvs : List (Int × CV)} (hb : lk S b = some (.inst 254 d [])) (hx : view S x = .fdict kvs) (hs : kvs.length ≤ small)
    (h : ∀ ka, lk S ka = none → (∀ p ∈ S, p.1 ≠ ka) → Q .none (up ((ka, .dict kvs) :: S) b (.inst 254 d [(Str.ofString "known", .loc ka)]))) : FnOk B m 230 [.loc b, x] S Q := by
  refine fnm (rest := []) E hm E.facts.f230 rfl (by decide +kernel) E.facts.b230 (q_asgr (w_owndict (ev_loc rfl) hx hs fun ka h1 h2 => a_seta (at0 := []) (d := d) (ev_loc rfl) ?_ at_known rfl rfl (q_done (h ka h1 h2))))
  rw [lk, if_neg]
  · exact hb
  · exact ne_sn hb h1
theorem facts_new (E : Env0 B) {m : Nat} (hm : 4 ≤ m) {x : CV} {kvs : List (Int × CV)} (hx : ∀ S', (∃ b d, S' = (b, CO.inst 254 d []) :: S ∧ lk S b = none) → view S' x = .fdict kvs) (hs : kvs.length ≤ small)
    (h : ∀ b d ka, lk S b = none → lk S ka = none → b ≠ ka → Q (.loc b) ((ka, .dict kvs) :: (b, .inst 254 d [(Str.ofString "known", .loc ka)]) :: S)) : FnOk B m 254 [x] S Q := by
  refine cls_of (init := 230) E hm E.facts.c254 fun b d h1 h2 => ?_
  refine facts_init E (lv hm rfl) (d := d) (by rw [lk, if_pos rfl]) (hx _ ⟨b, d, rfl, h1⟩) hs fun ka h3 h4 => ⟨rfl, ?_⟩
  have hne : ka ≠ b := fun e => h4 (b, _) (.head _) e.symm
  rw [lk, if_neg hne] at h3
  rw [up, if_neg fun e => hne e.symm, up_head]
  exact h b d ka h1 h3 fun e => hne e.symm
end
end Lend
namespace Lend
section
variable {B : Bs} {S : Store} {Q : CV → Store → Prop} {gd : Addr → Str → Option CV}
noncomputable def SrcAt (S : Store) (a : Addr) : Prop := ∃ p q : Int, lk S a = some (.list [.int p, .int q]) ∧ 0 ≤ q ∧ q < 2147483647
theorem item_src0 {a : Addr} {x y : CV} (h : lk S a = some (.list [x, y])) : getItemV gd S (.loc a) (.int 0) = some x := by
  simp [nth, getItemV, getI, view, h]
theorem item_src1 {a : Addr} {x y : CV} (h : lk S a = some (.list [x, y])) : getItemV gd S (.loc a) (.int 1) = some y := by
  simp [nth, getItemV, getI, view, h]
theorem small_div {p top : Int} (h0 : 0 < top) (h1 : top ≤ 1000) : Builtin.divisionGoesByPylong p top = false := by
  unfold Builtin.divisionGoesByPylong
  have hne : top ≠ 0 := by omega
  have : top.natAbs.log2 / 30 + 1 ≤ 300 := by
    have : top.natAbs.log2 ≤ top.natAbs := Nat.log2_le_self _
    have h3 : top.natAbs ≤ 1000 := by omega
    have : top.natAbs.log2 / 30 ≤ 1000 / 30 := Nat.div_le_div_right (by omega)
    omega
  simp [nth, hne]
  intro h
  omega
theorem ev_s0 {G : Gl} {ρ : Rho} {a : Addr} {x y : CV} (h0 : nth ρ 0 = some (.loc a)) (hl : lk S a = some (.list [x, y])) : Ev G (.sub (.loc 0) (.const (.int 0))) ρ S x := ev_sub (ev_loc h0) ev_const (item_src0 hl)
theorem ev_s1 {G : Gl} {ρ : Rho} {a : Addr} {x y : CV} (h0 : nth ρ 0 = some (.loc a)) (hl : lk S a = some (.list [x, y])) : Ev G (.sub (.loc 0) (.const (.int 1))) ρ S y := ev_sub (ev_loc h0) ev_const (item_src1 hl)
theorem take_ok (E : Env0 B) {m : Nat} (hm : 3 ≤ m) {a : Addr} {top : Int} (hS : SrcAt S a) (h0 : 0 < top) (h1 : top ≤ 1000)
    (h : ∀ r p q : Int, 0 ≤ r → r < top → 0 ≤ q → q < 2147483647 → Q (.int r) (up S a (.list [.int p, .int q]))) : FnOk B m 399 [.loc a, .int top] S Q := by
  obtain ⟨p, q, hl, hq0, hq1⟩ := hS
  refine fnm (rest := ["drawn"]) E hm E.facts.f399 rfl (by decide +kernel) E.facts.b399 ?_
  have hne : top ≠ 0 := fun e => Int.lt_irrefl 0 (e ▸ h0)
  have h := fun (z p q : Int) => h (z.fmod top) p q (Int.fmod_nonneg_of_pos z h0) (Int.fmod_lt_of_pos z h0)
  by_cases hp : p > 0
  · exact q_then (ev_cmp (ev_s0 rfl hl) ev_const (congrArg some (decide_eq_true hp))) (q_asg (ev_bin (ev_s0 rfl hl) (ev_loc rfl) fun _ k => ⟨hne, k⟩) rfl (q_setl (ev_bin (ev_s0 rfl hl) (ev_loc rfl) fun _ k => ⟨hne, small_div h0 h1, k⟩) (ev_loc rfl) ev_const hl rfl rfl (q_ret (ev_loc rfl) (h p _ q hq0 hq1))))
  · have b1 : IntMulOk q 39373 := .of_right (intBits_le_64 (by decide) (by decide))
    refine q_if_f (ev_cmp (ev_s0 rfl hl) ev_const (congrArg some (decide_eq_false hp))) (q_setl (ev_mod (ev_plus (ev_bin (ev_s1 rfl hl) ev_const fun _ k => ⟨b1, k⟩) ev_const) rfl) (ev_loc rfl) ev_const hl rfl rfl ?_)
    have q0 : 0 ≤ (q * 39373 + 7).fmod 2147483647 := Int.fmod_nonneg_of_pos _ (by decide)
    have q1 : (q * 39373 + 7).fmod 2147483647 < 2147483647 := Int.fmod_lt_of_pos _ (by decide)
    generalize (q * 39373 + 7).fmod 2147483647 = q' at q0 q1 ⊢
    have hl2 : lk (up S a (.list [.int p, .int q'])) a = some (.list [.int p, .int q']) := lk_up_self hl
    have b2 : IntMulOk q' q' := .of_right (intBits_le_64 (Int.le_trans (by decide) q0) (Int.lt_trans q1 (by decide)))
    exact q_ret (ev_bin (ev_bin (ev_mod (ev_bin (ev_s1 rfl hl2) (ev_s1 rfl hl2) fun _ k => ⟨b2, k⟩) rfl) ev_const fun _ k => ⟨by decide, small_div (by decide) (by decide), k⟩) (ev_loc rfl) fun _ k => ⟨hne, k⟩) (h _ p q' q0 q1)
theorem u8_ok (E : Env0 B) {m : Nat} (hm : 3 ≤ m) (h : Q (.tup [.str (Str.ofString "int"), .str (Str.ofString "u8")]) S) : FnOk B m 413 [] S Q :=
  fnm (rest := []) E hm E.facts.f413 rfl (by decide +kernel) E.facts.b413 (q_ret (ev_tup (evs2 ev_const ev_const) rfl) h)
theorem gl_take : glF (Str.ofString "_law_take") = some (.raw (.ref 399)) := by kernel_rfl
theorem one_ok (E : Env0 B) {m : Nat} (hm : 4 ≤ m) {a : Addr} {xs : List CV} (hS : SrcAt S a) (h0 : xs ≠ []) (h1 : xs.length ≤ 1000)
    (h : ∀ x, x ∈ xs → ∀ p q : Int, 0 ≤ q → q < 2147483647 → Q x (up S a (.list [.int p, .int q]))) : FnOk B m 406 [.loc a, .flist xs] S Q := by
  refine fnm (rest := []) E (lv0 hm rfl) E.facts.f406 rfl (by decide +kernel) E.facts.b406 ?_
  refine q_retw (w_sub (ev_loc rfl) (wp_call (ev_gl gl_take) (evs2 (ev_loc rfl) (ev_len (ev_loc rfl) rfl (Nat.le_trans h1 (by decide)))) (take_ok E (lv hm rfl) hS (Int.natCast_pos.mpr (List.length_pos_iff.mpr h0)) (Int.ofNat_le.mpr h1) fun r p q r0 r1 q0 q1 => ?_)))
  obtain ⟨j, rfl⟩ := Int.eq_ofNat_of_zero_le r0
  have hj : j < xs.length := Int.ofNat_lt.mp r1
  rw [item_fl (Nat.le_trans (Nat.le_of_lt hj) (Nat.le_trans h1 (by decide))), List.getElem?_eq_getElem hj]
  exact h _ (List.getElem_mem hj) p q q0 q1
end
end Lend
namespace Lend
section
variable {B : Bs} {S : Store} {Q : CV → Store → Prop} {gd : Addr → Str → Option CV}
theorem eq_nil {x : CV} {xs : List CV} (h : view S x = .flist xs) : eqW S x (.flist []) = some xs.isEmpty := by
  unfold eqW
  rw [h]
  show (if xs.length = ([] : List CV).length then _ else _) = _
  rcases xs with _ | ⟨a, r⟩
  · rfl
  · rfl
theorem ne_nil {x : CV} {xs : List CV} (h : view S x = .flist xs) : cmpV .NotEq S x (.flist []) = some (!xs.isEmpty) := by
  show (eqW S x (.flist [])).map _ = _
  rw [eq_nil h]; rfl
theorem gl_max : glF (Str.ofString "max") = some (.raw (.builtin "max")) := by kernel_rfl
theorem ev_max {m : Nat} {ρ : Rho} {p q : RE} {x y : Int} (hp : Ev (Gm B m) p ρ S (.int x)) (hq : Ev (Gm B m) q ρ S (.int y)) : Ev (Gm B m) (.call false (.glob (Str.ofString "max")) [p, q]) ρ S (.int (if y > x then y else x)) := ev_fun gl_max (evs2 hp hq) fun _ k => by
  unfold fnCallW
  rw [if_neg (by decide), if_pos rfl]; exact k
theorem pool_ok (E : Env0 B) {m : Nat} (hm : 3 ≤ m) {xs : List Int} (hs : xs.length ≤ 63)
    (h : ∀ a, lk S a = none → (∀ p ∈ S, p.1 ≠ a) → ∀ p q : Int, 0 ≤ q → q < 2147483647 → Q (.loc a) ((a, .list [.int p, .int q]) :: S)) : FnOk B m 392 [.flist (xs.map .int)] S Q := by
  refine fnm (rest := ["cell", "great"]) E hm E.facts.f392 rfl (by decide +kernel) E.facts.b392 ?_
  have hnil : cmpV .NotEq S (.flist (xs.map .int)) (.flist []) = some (!(xs.map CV.int).isEmpty) := ne_nil rfl
  have tail : ∀ c : Int, wpSs (Gm B (m - 1)) (r392.drop 1) [some (.flist (xs.map .int)), some (.int c), none] S fun fl _ S' => match fl with | .ret v => Q v S' | .next => Q .none S' := fun c => by
    refine q_asg (ev_max (ev_loc rfl) (ev_minus (ev_neg ev_const) (ev_loc rfl))) rfl ?_
    generalize (if -1 - c > c then -1 - c else c) = g
    have b1 : IntMulOk g (if decide (g ≥ 10 ^ 18) = true then 1 else 0) := .of_right (by split <;> exact intBits_le_64 (by decide) (by decide))
    have b2 : IntMulOk (g.fmod 2147483629 + 17) 48271 := .of_right (intBits_le_64 (by decide) (by decide))
    exact q_retw (w_newl (evs2 (ev_times b1 (ev_loc rfl) (ev_type gl_int (evs1 (ev_cmp (op := .GtE) (x := .int g) (y := .int (10 ^ 18)) (ev_loc rfl) (ev_pow (x := 10) (y := 18) (by decide) (by decide +kernel) ev_const ev_const) rfl)) fun _ k => k)) (ev_mod (ev_times b2 (ev_plus (ev_mod (ev_loc rfl) rfl) ev_const) ev_const) rfl)) rfl fun b h1 h2 => h b h1 h2 _ _ (Int.fmod_nonneg_of_pos _ (by decide)) (Int.fmod_lt_of_pos _ (by decide)))
  rcases xs with _ | ⟨c, r⟩
  · exact q_asg (ev_ite_f (ev_cmp (ev_loc rfl) (ev_list evs_nil rfl) hnil) ev_const) rfl (tail 0)
  · exact q_asg (ev_ite_t (ev_cmp (ev_loc rfl) (ev_list evs_nil rfl) hnil) (ev_sub (ev_loc rfl) ev_const (item_fl (k := 0) (by decide)))) rfl (tail c)
end
end Lend
namespace Lend
noncomputable def lawS : Option CV → List Step → Option (Option CV)
  | o, [] => some o
  | none, _ :: ps => lawS none ps
  | some v, .field i :: ps => (match v with
    | .tup xs => if i ≤ 100000 then (match xs[i]? with | some u => lawS (some u) ps | none => none) else none
    | _ => none)
  | some _, _ :: ps => lawS none ps
noncomputable def optL : Option CV → List CV
  | none => []
  | some v => [v]
section
variable {B : Bs} {S : Store} {Q : CV → Store → Prop} {gd : Addr → Str → Option CV}
theorem ev_fl0 {G : Gl} {ρ : Rho} {S : Store} {o : RE} {y x : CV} {xs : List CV} (h : Ev G o ρ S y) (e : y = .flist (x :: xs)) : Ev G (.sub o (.const (.int 0))) ρ S x := by
  subst e
  exact ev_sub h ev_const (by simp [getItemV, getI, view])
set_option tactic.hygienic true in
theorem law_at_ok (E : Env0 B) {m : Nat} (hm : 3 ≤ m) {kvs : List (Int × CV)} {l : Int} {ps : List Step} {r : Option CV} (hw : lawS (atK kvs l) ps = some r) (h : Q (r.getD .none) S) :
    FnOk B m 425 [.fdict kvs, placeV l ps] S Q := by
  refine fnm (rest := ["here", "step"]) E hm E.facts.f425 rfl (by decide +kernel) E.facts.b425 ?_
  have hn0 : cmpV .NotEq S (.flist []) (.flist []) = some false := ne_nil (xs := []) rfl
  have hn1 : ∀ v, cmpV .NotEq S (.flist [v]) (.flist []) = some true := fun v => ne_nil (xs := [v]) rfl
  refine q_asg (x := .flist (optL (atK kvs l))) ?_ rfl ?_
  · have hin : ∀ b, (atK kvs l).isSome = b → cmpV .In S (.int l) (.fdict kvs) = some b := fun b e => congrArg some e
    rcases e : atK kvs l with _ | v
    · exact ev_ite_f (ev_cmp (ev_i0 (ev_loc rfl) rfl) (ev_loc rfl) (hin _ (by rw [e]; rfl))) (ev_list evs_nil rfl)
    · exact ev_ite_t (ev_cmp (ev_i0 (ev_loc rfl) rfl) (ev_loc rfl) (hin _ (by rw [e]; rfl))) (ev_list (evs1 (ev_sub (ev_loc rfl) (ev_i0 (ev_loc rfl) rfl) e)) rfl)
  refine q_for (ev_i1 (ev_loc rfl) rfl) (xs := ps.map stepV) rfl ?_
  have hg : ∀ S', stays S (.tup (ps.map stepV)) S' := fun _ => trivial
  generalize stays S (.tup (ps.map stepV)) = g at hg
  generalize atK kvs l = o at hw
  show forN _ g 3 _ _ [some (.fdict kvs), some (placeV l ps), some (.flist (optL o)), none] S _
  generalize placeV l ps = P
  generalize (none : Option CV) = p
  induction ps generalizing o p with
  | nil =>
    cases hw
    refine for_nil ?_
    rcases r with _ | v
    · exact q_ret (ev_ite_f (ev_cmp (ev_loc rfl) (ev_list evs_nil rfl) hn0) ev_const) h
    · exact q_ret (ev_ite_t (ev_cmp (ev_loc rfl) (ev_list evs_nil rfl) (hn1 v)) (ev_fl0 (ev_loc rfl) rfl)) h
  | cons q ps ih =>
    refine for_cons rfl ?_
    rcases o with _ | v
    · have hw' : lawS none ps = some r := by cases q <;> exact hw
      exact q_asg (ev_ite_f (ev_and (evb_off (ev_cmp (ev_loc rfl) (ev_list evs_nil rfl) hn0))) (ev_list evs_nil rfl)) rfl ⟨hg _, ih none hw' _⟩
    · rcases q with i | _ | i
      · simp only [lawS] at hw
        split at hw
        · rename_i xs
          split at hw
          · rename_i hi
            split at hw
            · rename_i u hu
              exact q_asg (ev_ite_t (ev_and (evb_on (ev_cmp (ev_loc rfl) (ev_list evs_nil rfl) (hn1 _)) (evb_on (ev_cmp (ev_i0 (ev_loc rfl) rfl) ev_const (cmp_eq _)) evb_nil))) (ev_list (evs1 (ev_sub (ev_fl0 (ev_loc rfl) rfl) (ev_i1 (ev_loc rfl) rfl) ((item_tup hi).trans hu))) rfl)) rfl ⟨hg _, ih (some u) hw _⟩
            · cases hw
          · cases hw
        · cases hw
      · exact q_asg (ev_ite_f (ev_and (evb_on (ev_cmp (ev_loc rfl) (ev_list evs_nil rfl) (hn1 v)) (evb_off (ev_cmp (ev_i0 (ev_loc rfl) rfl) ev_const (cmp_ne (by decide))))))  (ev_list evs_nil rfl)) rfl ⟨hg _, ih none hw _⟩
      · exact q_asg (ev_ite_f (ev_and (evb_on (ev_cmp (ev_loc rfl) (ev_list evs_nil rfl) (hn1 v)) (evb_off (ev_cmp (ev_i0 (ev_loc rfl) rfl) ev_const (cmp_ne (by decide))))))  (ev_list evs_nil rfl)) rfl ⟨hg _, ih none hw _⟩
end
end Lend
namespace Lend
section
variable {B : Bs} {S : Store} {Q : CV → Store → Prop} {gd : Addr → Str → Option CV}
theorem in_plainL (w : String) : cmpV .In S (.str (Str.ofString w)) (.flist [.str (Str.ofString "int"), .str (Str.ofString "bool")]) = some (decide (w = "int" ∨ w = "bool")) := by
  rw [show ∀ a b, cmpV .In S a b = inW S a b from fun _ _ => rfl]
  simp only [nth, inW, view, toPy, toPys, strOk_of, if_true]
  rw [if_pos (by simp [nth, PyData.depth, PyData.depthAll])]
  simp only [nth, List.any_cons, List.any_nil, Bool.or_false, PyData.eqv, ofString_beq]
  congr 1
  by_cases h1 : w = "int"
  · subst h1; simp
  · by_cases h2 : w = "bool"
    · subst h2; simp
    · have e1 : ¬ "int" = w := fun e => h1 e.symm
      have e2 : ¬ "bool" = w := fun e => h2 e.symm
      simp [nth, h1, h2, e1, e2]
theorem gl_law_at : glF (Str.ofString "_law_at") = some (.raw (.ref 425)) := by kernel_rfl
theorem law_of_const (E : Env0 B) {m : Nat} (hm : 3 ≤ m) {x : CV} {w : String} {tr : List CV} {v : CV} (h : Q (if w = "int" ∨ w = "bool" then v else .none) S) :
    FnOk B m 432 [x, .tup [.str (Str.ofString "const"), .tup (.str (Str.ofString w) :: tr), v]] S Q := by
  refine fnm (rest := []) E hm E.facts.f432 rfl (by decide +kernel) E.facts.b432 (q_if_f (ev_cmp (ev_i0 (ev_loc rfl) rfl) ev_const (ncmp_eq _)) (q_ret ?_ h))
  have hi := in_plainL (S := S) w
  by_cases hw : w = "int" ∨ w = "bool"
  · rw [if_pos hw]
    rw [decide_eq_true hw] at hi
    exact ev_ite_t (ev_cmp (ev_i0 (ev_i1 (ev_loc rfl) rfl) rfl) (ev_list (evs2 ev_const ev_const) rfl) hi) (ev_i2 (ev_loc rfl) rfl)
  · rw [if_neg hw]
    rw [decide_eq_false hw] at hi
    exact ev_ite_f (ev_cmp (ev_i0 (ev_i1 (ev_loc rfl) rfl) rfl) (ev_list (evs2 ev_const ev_const) rfl) hi) ev_const
theorem law_of_copy (E : Env0 B) {m : Nat} (hm : 4 ≤ m) {kvs : List (Int × CV)} {w : String} {l : Int} {ps : List Step} {r : Option CV} (hwd : w ≠ "const") (hw : lawS (atK kvs l) ps = some r) (h : Q (r.getD .none) S) :
    FnOk B m 432 [.fdict kvs, .tup [.str (Str.ofString w), placeV l ps]] S Q :=
  fnm (rest := []) E (lv0 hm rfl) E.facts.f432 rfl (by decide +kernel) E.facts.b432 (q_then (ev_cmp (ev_i0 (ev_loc rfl) rfl) ev_const (ncmp_ne (decide_eq_false hwd))) (q_retw (wp_call (ev_gl gl_law_at) (evs2 (ev_loc rfl) (ev_i1 (ev_loc rfl) rfl)) (law_at_ok E (lv hm rfl) hw h))))
end
end Lend
namespace Lend
set_option genSizeOf false
set_option genInjectivity false
section
variable {B : Bs} {S : Store} {Q : CV → Store → Prop} {gd : Addr → Str → Option CV}
inductive Ty where
  | u8 | bool | pair | ref
noncomputable def tyV : Ty → CV
  | .u8 => .tup [.str (Str.ofString "int"), .str (Str.ofString "u8")]
  | .bool => .tup [.str (Str.ofString "bool")]
  | .pair => .tup [.str (Str.ofString "tuple"), .tup [.tup [.str (Str.ofString "int"), .str (Str.ofString "u8")], .tup [.str (Str.ofString "bool")]]]
  | .ref => .tup [.str (Str.ofString "ref"), .none, .bool false, .tup [.str (Str.ofString "int"), .str (Str.ofString "u8")]]
noncomputable def tyF : Ty → Bool
  | .ref => false
  | _ => true
theorem nin_plain (w : String) : cmpV .NotIn S (.str (Str.ofString w)) (strT ["int", "bool"]) = some (!decide (w = "int" ∨ w = "bool")) := by
  rw [show ∀ a b, cmpV .NotIn S a b = (inW S a b).map (!·) from fun _ _ => rfl, in_PLAIN]; rfl
theorem is_followed_ok (E : Env0 B) {m : Nat} (hm : 3 ≤ m) (t : Ty) (h : Q (.bool (tyF t)) S) : FnOk B m 209 [tyV t] S Q := by
  refine fnm (rest := []) E hm E.facts.f209 rfl (by decide +kernel) E.facts.b209 ?_
  have plain : ∀ {w : String} {tr : List CV} {r : Bool}, decide (w = "tuple") = false → decide (w = "int" ∨ w = "bool") = r → Q (.bool r) S → wpSs (Gm B (m - 1)) r209 ([.tup (.str (Str.ofString w) :: tr)].map some ++ List.replicate ([] : List Str).length none) S fun fl _ S' => match fl with | .ret v => Q v S' | .next => Q .none S' := fun h1 h2 h =>
    q_if_f (ev_cmp (ev_i0 (ev_loc rfl) rfl) ev_const (cmp_ne h1)) (q_ret (ev_cmp (ev_i0 (ev_loc rfl) rfl) (ev_gl gl_PLAIN) ((in_plain _).trans (congrArg some h2))) h)
  rcases t
  · exact plain (by decide) (by decide) h
  · exact plain (by decide) (by decide) h
  · exact q_if_ret (ev_cmp (ev_i0 (ev_loc rfl) rfl) ev_const (cmp_eq _)) (ev_cmp (ev_lcomp (ev_i1 (ev_loc rfl) rfl) (items := [tyV .u8, tyV .bool]) rfl rfl (c_off (t_name rfl) (ts_off (ev_cmp (ev_i0 (ev_loc rfl) rfl) (ev_gl gl_PLAIN) ((nin_plain _).trans (congrArg some (by decide))))) (c_off (t_name rfl) (ts_off (ev_cmp (ev_i0 (ev_loc rfl) rfl) (ev_gl gl_PLAIN) ((nin_plain _).trans (congrArg some (by decide))))) c_nil)) rfl) (ev_list evs_nil rfl) (eq_nil (S := S) (x := .flist []) (xs := []) rfl)) h
  · exact plain (by decide) (by decide) h
end
end Lend
namespace Lend
section
variable {B : Bs} {S : Store} {Q : CV → Store → Prop} {gd : Addr → Str → Option CV}
theorem toPys_ints : ∀ l : List Int, toPys (l.map .int) = some (l.map .int)
  | [] => rfl
  | i :: r => by simp [nth, toPys, toPy, toPys_ints r]
theorem depth_ints : ∀ l : List Int, PyData.depthAll (l.map .int) = 0
  | [] => rfl
  | i :: r => by simp [nth, PyData.depthAll, PyData.depth, depth_ints r]
theorem any_ints (b : Int) : ∀ l : List Int, ((l.map PyData.int).any fun y => PyData.eqv y (.int b)) = decide (b ∈ l)
  | [] => by simp
  | i :: r => by
    rw [List.map_cons, List.any_cons, any_ints b r]
    have : PyData.eqv (.int i) (.int b) = (i == b) := rfl
    rw [this]
    by_cases h : b = i
    · subst h; simp
    · have h' : ¬ i = b := fun e => h e.symm
      simp [nth, h, h']
theorem in_ints {x : CV} {l : List Int} {b : Int} (h : view S x = .flist (l.map .int)) : inW S (.int b) x = some (decide (b ∈ l)) := by
  unfold inW
  rw [h]
  simp only [nth, toPy, toPys_ints]
  rw [if_pos (by rw [depth_ints]; simp), any_ints]
end
end Lend
namespace Lend
noncomputable def nubI : List Int → List Int → List Int
  | acc, [] => acc
  | acc, b :: r => nubI (if b ∈ acc then acc else acc ++ [b]) r
section
variable {B : Bs} {S : Store} {Q : CV → Store → Prop} {gd : Addr → Str → Option CV}
theorem lk_head {a : Addr} {c : CO} : lk ((a, c) :: S) a = some c := by simp [nth, lk]
noncomputable def succBody : List RS := [(.ite (.and [(.cmp .IsNot (.loc 3) (.const CV.none)), (.cmp .NotIn (.loc 3) (.loc 4))]) [(.expr (.meth false (.loc 4) (Str.ofString "append") [(.loc 3)]))] [])]
theorem succ_loop {m : Nat} {a : Addr} {T W P : CV} {K : Fl → Rho → Store → Prop} {gg : Store → Prop} (hg : ∀ S, gg S) (l acc : List Int) (p : Option CV) (hl : acc.length + l.length ≤ 1000)
    (hK : ∀ p, K .next [some T, some W, some P, p, some (.loc a)] ((a, .list ((nubI acc l).map .int)) :: S)) :
    forN (Gm B m) gg 3 succBody (l.map .int) [some T, some W, some P, p, some (.loc a)] ((a, .list (acc.map .int)) :: S) K := by
  induction l generalizing acc p with
  | nil => exact for_nil (hK p)
  | cons b r ih =>
    have ha : acc.length ≤ 1000 := Nat.le_trans (Nat.le_add_right _ _) hl
    rw [List.length_cons, ← Nat.add_assoc, Nat.add_right_comm] at hl
    have hin : cmpV .NotIn ((a, CO.list (acc.map .int)) :: S) (.int b) (.loc a) = some (!decide (b ∈ acc)) := by
      rw [show ∀ S a b, cmpV .NotIn S a b = (inW S a b).map (!·) from fun _ _ _ => rfl, in_ints (l := acc) (by unfold view; dsimp only; rw [lk_head])]; rfl
    have hc : Ev (Gm B m) (.and [(.cmp .IsNot (.loc 3) (.const CV.none)), (.cmp .NotIn (.loc 3) (.loc 4))]) [some T, some W, some P, some (.int b), some (.loc a)] ((a, CO.list (acc.map .int)) :: S) (.bool (true && !decide (b ∈ acc))) := ev_and (evb_and2 (ev_cmp (ev_loc rfl) ev_const rfl) fun _ => ev_cmp (ev_loc rfl) (ev_loc rfl) hin)
    unfold nubI at hK
    refine for_cons rfl ?_
    by_cases hm : b ∈ acc
    · rw [decide_eq_true hm] at hc
      rw [if_pos hm] at hK
      exact q_if_f hc (q_done ⟨hg _, ih acc _ (Nat.le_trans (Nat.add_le_add_right (Nat.le_succ _) _) hl) hK⟩)
    · rw [decide_eq_false hm] at hc
      rw [if_neg hm] at hK
      refine q_then hc (q_append (ev_loc rfl) lk_head (ev_loc rfl) (Nat.ble_eq_true_of_le (by rw [List.length_map]; exact Nat.le_trans ha (by decide))) ?_)
      rw [up_head, show acc.map CV.int ++ [.int b] = (acc ++ [b]).map .int by rw [List.map_append]; rfl]
      exact q_done (q_next (q_done ⟨hg _, ih (acc ++ [b]) _ (by rw [List.length_append]; exact hl) hK⟩))
end
end Lend
namespace Lend
section
variable {B : Bs} {S : Store} {Q : CV → Store → Prop} {gd : Addr → Str → Option CV}
theorem succ_tail {m : Nat} {T W : CV} {l : List Int} (hl : l.length ≤ 1000) (h : Q (.flist ((nubI [] l).map .int)) S) :
    wpSs (Gm B m) (r202.drop 2) [some T, some W, some (.flist (l.map .int)), none, none] S fun fl _ S' => match fl with | .ret v => Q v S' | .next => Q .none S' := by
  exact q_newl evs_nil rfl rfl fun b h1 h2 => q_for (xs := l.map .int) (ev_loc rfl) rfl (succ_loop (by exact fun _ => trivial) l [] none (by rw [List.length_nil, Nat.zero_add]; exact hl) fun p => q_next (q_freeze rfl lk_head rm_head (q_ret (ev_loc rfl) h)))
end
end Lend
namespace Lend
section
variable {B : Bs} {S : Store} {Q : CV → Store → Prop} {gd : Addr → Str → Option CV}
theorem nub1 (g : Int) : nubI [] [g] = [g] := by simp [nubI]
theorem nub2 (g d : Int) : nubI [] [g, d] = if d = g then [g] else [g, d] := by
  by_cases e : d = g <;> simp [nubI, e]
section
variable {m : Nat} {T : CV} {w : String} {P : Option CV}
theorem w_ne {v : String} {X Y Z : Option CV} (h : decide (w = v) = false) : Ev (Gm B m) (.cmp .Eq (.loc 1) (.const (.str (Str.ofString v)))) [X, some (.str (Str.ofString w)), Y, Z, P] S (.bool false) := ev_cmp (ev_loc rfl) ev_const (cmp_ne h)
theorem w_eq {X Y Z : Option CV} : Ev (Gm B m) (.cmp .Eq (.loc 1) (.const (.str (Str.ofString w)))) [X, some (.str (Str.ofString w)), Y, Z, P] S (.bool true) := ev_cmp (ev_loc rfl) ev_const (cmp_eq w)
end
theorem succ_one {m : Nat} {T W : CV} {g : Int} (h : Q (.flist [.int g]) S) : wpSs (Gm B m) (r202.drop 2) [some T, some W, some (.flist ([g].map .int)), none, none] S fun fl _ S' => match fl with | .ret v => Q v S' | .next => Q .none S' := succ_tail (Nat.le_of_ble_eq_true rfl) (by rw [nub1]; exact h)
theorem succ_goto (E : Env0 B) {m : Nat} (hm : 3 ≤ m) {g : Int} (h : Q (.flist [.int g]) S) : FnOk B m 202 [.tup [.str (Str.ofString "goto"), .int g]] S Q :=
  fnm (rest := ["word", "told", "block", "found"]) E hm E.facts.f202 rfl (by decide +kernel) E.facts.b202 (q_asg (ev_i0 (ev_loc rfl) rfl) rfl (q_then w_eq (q_asg (ev_list (evs1 (ev_i1 (ev_loc rfl) rfl)) rfl) rfl (q_done (q_next (succ_one h))))))
theorem succ_drop (E : Env0 B) {m : Nat} (hm : 3 ≤ m) {p : CV} {g : Int} (h : Q (.flist [.int g]) S) : FnOk B m 202 [.tup [.str (Str.ofString "drop"), p, .int g]] S Q :=
  fnm (rest := ["word", "told", "block", "found"]) E hm E.facts.f202 rfl (by decide +kernel) E.facts.b202 (q_asg (ev_i0 (ev_loc rfl) rfl) rfl (q_else (w_ne (by decide)) (q_else (w_ne (by decide)) (q_else (w_ne (by decide)) (q_then w_eq (q_asg (ev_list (evs1 (ev_i2 (ev_loc rfl) rfl)) rfl) rfl (q_done (q_next (q_done (q_next (q_done (q_next (q_done (q_next (succ_one h)))))))))))))))
theorem succ_call (E : Env0 B) {m : Nat} (hm : 3 ≤ m) {a b c : CV} {g : Int} (h : Q (.flist [.int g]) S) : FnOk B m 202 [.tup [.str (Str.ofString "call"), a, b, c, .int g]] S Q :=
  fnm (rest := ["word", "told", "block", "found"]) E hm E.facts.f202 rfl (by decide +kernel) E.facts.b202 (q_asg (ev_i0 (ev_loc rfl) rfl) rfl (q_else (w_ne (by decide)) (q_else (w_ne (by decide)) (q_then w_eq (q_asg (ev_list (evs1 (ev_i4 (ev_loc rfl) rfl)) rfl) rfl (q_done (q_next (q_done (q_next (q_done (q_next (succ_one h))))))))))))
theorem succ_return (E : Env0 B) {m : Nat} (hm : 3 ≤ m) (h : Q (.flist []) S) : FnOk B m 202 [.tup [.str (Str.ofString "return")]] S Q :=
  fnm (rest := ["word", "told", "block", "found"]) E hm E.facts.f202 rfl (by decide +kernel) E.facts.b202 (q_asg (ev_i0 (ev_loc rfl) rfl) rfl (q_else (w_ne (by decide)) (q_else (w_ne (by decide)) (q_else (w_ne (by decide)) (q_else (w_ne (by decide)) (q_else (w_ne (by decide)) (q_asg (ev_list evs_nil rfl) rfl (q_done (q_next (q_done (q_next (q_done (q_next (q_done (q_next (q_done (q_next (succ_tail (l := []) (Nat.le_of_ble_eq_true rfl) h))))))))))))))))))
theorem succ_switch (E : Env0 B) {m : Nat} (hm : 3 ≤ m) {op v : CV} {g d : Int} (h : Q (.flist (if d = g then [.int g] else [.int g, .int d])) S) : FnOk B m 202 [.tup [.str (Str.ofString "switch"), op, .tup [.tup [v, .int g]], .int d]] S Q :=
  fnm (rest := ["word", "told", "block", "found"]) E hm E.facts.f202 rfl (by decide +kernel) E.facts.b202 (q_asg (ev_i0 (ev_loc rfl) rfl) rfl (q_else (w_ne (by decide)) (q_then w_eq (q_asg (ev_listadd (ev_lcomp (ev_i2 (ev_loc rfl) rfl) (items := [.tup [v, .int g]]) rfl rfl (c_on (t_tup (xs := [v, .int g]) rfl rfl) ts_nil (ev_loc rfl) c_nil) rfl) (ev_list (evs1 (ev_i3 (ev_loc rfl) rfl)) rfl) rfl) rfl (q_done (q_next (q_done (q_next (succ_tail (l := [g, d]) (Nat.le_of_ble_eq_true rfl) (by
    rw [nub2, apply_ite (List.map CV.int)]; exact h))))))))))
end
end Lend
namespace Lend
section
variable {B : Bs} {S : Store} {Q : CV → Store → Prop} {gd : Addr → Str → Option CV}
theorem plus_compared : cmpV .In S (.str (Str.ofString "+")) (strT ["==", "!=", "<", "<=", ">", ">="]) = some false := by kernel_rfl
theorem lt_compared : cmpV .In S (.str (Str.ofString "<")) (strT ["==", "!=", "<", "<=", ">", ">="]) = some true := by kernel_rfl
theorem reckon_add (E : Env0 B) {m : Nat} (hm : 7 ≤ m) {a b : Int} (h : Q (.int ((a + b) % 256)) S) : FnOk B m 265 [.str (Str.ofString "+"), tyV .u8, .int a, .int b] S Q := by
  exact fnm (rest := []) E (lv0 hm rfl) E.facts.f265 rfl (by decide +kernel) E.facts.b265 (q_if_f (ev_cmp (ev_loc rfl) (ev_gl gl_COMPARED) plus_compared) (q_if_f (ev_cmp (ev_i0 (ev_loc rfl) rfl) ev_const (cmp_ne (by decide))) (q_ret (ev_i0 (ev_call gl_checked (evs4 (ev_i1 (ev_loc rfl) rfl) (ev_loc rfl) (ev_loc rfl) (ev_loc rfl)) fun Q k => checked_add E (lv hm rfl) k) rfl) h)))
theorem reckon_lt (E : Env0 B) {m : Nat} (hm : 4 ≤ m) {t : CV} {a b : Int} (h : Q (.bool (decide (a < b))) S) : FnOk B m 265 [.str (Str.ofString "<"), t, .int a, .int b] S Q := by
  exact fnm (rest := []) E (lv0 hm rfl) E.facts.f265 rfl (by decide +kernel) E.facts.b265 (q_then (ev_cmp (ev_loc rfl) (ev_gl gl_COMPARED) lt_compared) (q_retw (wp_call (ev_gl gl_compared) (evs3 (ev_loc rfl) (ev_loc rfl) (ev_loc rfl)) (compared_lt E (lv hm rfl) h))))
end
end Lend
namespace Lend
section
variable {B : Bs} {S : Store} {Q : CV → Store → Prop} {gd : Addr → Str → Option CV}
theorem binds_peek {K : Frag} {s : Shared} {fd : FuncData} {args : Args} {binds : List (Str × Value)} (X : K.In s.heap) (e : ∀ S, peek K S (bindArgs fd args) = some binds) : BindsTo s fd args binds :=
  fun M _ _ _ q => (Looks.of_peek (M := M) X (e _)).here q
theorem gl_list : glF (Str.ofString "list") = some (.raw (.type "list")) := by kernel_rfl
theorem at_body {m : Nat} : (Gm B m).atr 193 (Str.ofString "name") = true ∧ (Gm B m).atr 193 (Str.ofString "arg_count") = true ∧ (Gm B m).atr 193 (Str.ofString "locals") = true ∧ (Gm B m).atr 193 (Str.ofString "blocks") = true ∧ (Gm B m).atr 193 (Str.ofString "spots") = true :=
  ⟨by kernel_rfl, by kernel_rfl, by kernel_rfl, by kernel_rfl, by kernel_rfl⟩
noncomputable def bodyAttrs (n c : CV) (ls bs : List CV) : List (Str × CV) := [(Str.ofString "name", n), (Str.ofString "arg_count", c), (Str.ofString "locals", .flist ls), (Str.ofString "blocks", .flist bs), (Str.ofString "spots", .fdict [])]
theorem put_b1 (S : Store) (b d : Addr) (x y : CV) : up S b (.inst 193 d (putN (putN [] (Str.ofString "name") x) (Str.ofString "arg_count") y)) = up S b (.inst 193 d [(Str.ofString "name", x), (Str.ofString "arg_count", y)]) := by simp [putN, ofString_eq]
theorem put_b2 (S : Store) (b d : Addr) (x y z : CV) : up S b (.inst 193 d (putN [(Str.ofString "name", x), (Str.ofString "arg_count", y)] (Str.ofString "locals") z)) = up S b (.inst 193 d [(Str.ofString "name", x), (Str.ofString "arg_count", y), (Str.ofString "locals", z)]) := by simp [putN, ofString_eq]
theorem put_b3 (S : Store) (b d : Addr) (x y z u : CV) : up S b (.inst 193 d (putN [(Str.ofString "name", x), (Str.ofString "arg_count", y), (Str.ofString "locals", z)] (Str.ofString "blocks") u)) = up S b (.inst 193 d [(Str.ofString "name", x), (Str.ofString "arg_count", y), (Str.ofString "locals", z), (Str.ofString "blocks", u)]) := by simp [putN, ofString_eq]
theorem put_b4 (S : Store) (b d : Addr) (n c : CV) (ls bs : List CV) : up S b (.inst 193 d (putN [(Str.ofString "name", n), (Str.ofString "arg_count", c), (Str.ofString "locals", .flist ls), (Str.ofString "blocks", .flist bs)] (Str.ofString "spots") (.fdict []))) = up S b (.inst 193 d (bodyAttrs n c ls bs)) := by simp [putN, ofString_eq, bodyAttrs]
theorem tc_list {own : Bool} {x : CV} {xs : List CV} (hx : view S x = .flist xs) (hl : xs.length ≤ small) (h : newListW own xs S Q) : typeCallW own "list" [x] S Q := by
  unfold typeCallW
  rw [if_neg (by decide), if_neg (by decide), if_neg (by decide), if_pos rfl]
  dsimp only
  rw [hx]; exact ⟨hl, h⟩
theorem body_init (E : Env0 B) {m : Nat} (hm : 3 ≤ m) {b d : Addr} {n c : CV} {ls bs : List CV} (hb : lk S b = some (.inst 193 d [])) (hl : ls.length ≤ small) (h : Q .none (up S b (.inst 193 d (bodyAttrs n c ls bs)))) :
    FnOk B m 147 [.loc b, n, c, .flist ls, .flist bs] S Q := by
  obtain ⟨k, rfl⟩ : ∃ k, m = k + 3 := ⟨m - 3, by omega⟩
  refine fn_of (G := Gm B (k + 2)) (m := k + 2) (lv := k) E.run.ok (hypM E.run E.blt _) (Nat.le_refl _) E.facts.f147 (dx := [.none]) (dv := [.none]) (fun _ => .cons .none .nil) rfl (fun s vs X hv => ?_) ?_
  · exact bind5 (P := fun vs => BindsTo s (fdOf B.K 147) ⟨vs, []⟩ (List.zip (["self", "name", "arg_count", "locals_told", "blocks", "spots"] : List Str) (vs ++ [.none]))) (fun v1 v2 v3 v4 v5 => binds_peek (K := B.K) X fun S => E.facts.p147 S v1 v2 v3 v4 v5) vs hv
  · have hbi := bindR_pre ["self", "name", "arg_count", "locals_told", "blocks", "spots"] [.loc b, n, c, .flist ls, .flist bs, .none] [] [] [] [] (by decide +kernel) rfl rfl
    simp only [nth, List.nil_append, List.append_nil] at hbi
    rw [show ([.loc b, n, c, .flist ls, .flist bs] ++ [.none] : List CV) = [.loc b, n, c, .flist ls, .flist bs, .none] from rfl]
    rw [hbi]
    obtain ⟨a1, a2, a3, a4, a5⟩ := at_body (B := B) (m := k + 2)
    have hu : ∀ o, lk (up S b o) b = some o := fun o => lk_up_self hb
    refine q_asgr (w_ev (ev_loc rfl) (a_seta (at0 := []) (ev_loc rfl) hb a1 rfl rfl (q_asgr (w_ev (ev_loc rfl) (a_seta (ev_loc rfl) (hu _) a2 rfl (up_up.trans (put_b1 _ _ _ _ _)) (q_asgr (w_ev (ev_type gl_list (evs1 (ev_loc rfl)) (v := .flist ls) fun _ k => tc_list rfl hl k) (a_seta (ev_loc rfl) (hu _) a3 rfl (up_up.trans (put_b2 _ _ _ _ _ _)) ?_))))))))
    refine q_asgr (w_ev (ev_ite_f (ev_cmp (ev_loc rfl) ev_const rfl) (ev_loc rfl)) (a_seta (ev_loc rfl) (hu _) a4 rfl (up_up.trans (put_b3 _ _ _ _ _ _ _)) (q_asgr (w_ev (ev_ite_t (ev_cmp (ev_loc rfl) ev_const rfl) (ev_dict evs_nil)) (a_seta (ev_loc rfl) (hu _) a5 rfl (up_up.trans (put_b4 _ _ _ _ _ _ _)) (q_done h))))))
end
end Lend
namespace Lend
noncomputable def lawTys : List Ty := [.u8, .u8, .u8, .u8, .bool, .pair, .bool, .ref]
noncomputable def localV (t : Ty) : CV := .tup [tyV t, .bool true, .none]
noncomputable def lawBody (bs : List CV) : List (Str × CV) := bodyAttrs (.str (Str.ofString "f")) (.int 0) (lawTys.map localV) bs
section
variable {B : Bs} {S : Store} {Q : CV → Store → Prop} {gd : Addr → Str → Option CV}
theorem body_new (E : Env0 B) {m : Nat} (hm : 4 ≤ m) {n c : CV} {ls bs : List CV} (hl : ls.length ≤ small)
    (h : ∀ b d, lk S b = none → Q (.loc b) ((b, .inst 193 d (bodyAttrs n c ls bs)) :: S)) : FnOk B m 193 [n, c, .flist ls, .flist bs] S Q := by
  refine cls_of (init := 147) E hm E.facts.c193 fun b d h1 h2 => ?_
  refine body_init E (by first | exact lv hm rfl | exact lv0 hm rfl | omega) (d := d) (by simp [nth, lk]) hl ⟨rfl, ?_⟩
  have : up ((b, CO.inst 193 d []) :: S) b (.inst 193 d (bodyAttrs n c ls bs)) = (b, .inst 193 d (bodyAttrs n c ls bs)) :: S := by simp [nth, up]
  rw [this]
  exact h b d h1
theorem gl_u8 : glF (Str.ofString "_law_u8") = some (.raw (.ref 413)) := by kernel_rfl
theorem gl_Body : glF (Str.ofString "Body") = some (.raw (.ref 193)) := by kernel_rfl
theorem law_body_ok (E : Env0 B) {m : Nat} (hm : 5 ≤ m) {bs : List CV} (h : ∀ b d, lk S b = none → Q (.loc b) ((b, .inst 193 d (lawBody bs)) :: S)) : FnOk B m 418 [.flist bs] S Q := by
  refine fnm (rest := ["pair", "types"]) E (lv0 hm rfl) E.facts.f418 rfl (by decide +kernel) E.facts.b418 ?_
  have eu : ∀ {ρ : Rho}, Ev (Gm B (m - 1)) (.call false (.glob (Str.ofString "_law_u8")) []) ρ S (tyV .u8) := ev_call gl_u8 evs_nil fun Q k => u8_ok E (lv hm rfl) k
  have eb : ∀ {ρ : Rho}, Ev (Gm B (m - 1)) (.tup [(.const (.str (Str.ofString "bool")))]) ρ S (tyV .bool) := ev_tup (evs1 ev_const) rfl
  have e4 : ∀ {ρ : Rho}, Ev (Gm B (m - 1)) (.bin .Mult (.list false [(.call false (.glob (Str.ofString "_law_u8")) [])]) (.const (.int 4))) ρ S (.flist [tyV .u8, tyV .u8, tyV .u8, tyV .u8]) := ev_bin (x := .flist [tyV .u8]) (y := .int 4) (ev_list (evs1 eu) rfl) ev_const fun _ k => ⟨by decide, by decide, Nat.le_of_ble_eq_true rfl, k⟩
  refine q_asg (x := tyV .pair) (ev_tup (evs2 ev_const (ev_tup (evs2 eu eb) rfl)) rfl) rfl (q_asg (x := .flist (lawTys.map tyV)) (ev_listadd e4 (ev_list (evs4 eb (ev_loc rfl) eb (ev_tup (evs4 ev_const ev_const ev_const eu) rfl)) rfl) rfl) rfl ?_)
  exact q_retw (wp_call (ev_gl gl_Body) (evs4 ev_const ev_const (ev_map (l := lawTys) (f := tyV) (h := localV) (ev_loc rfl) rfl (by decide) fun t _ => ev_tup (evs3 (ev_loc rfl) ev_const ev_const) rfl) (ev_loc rfl)) (body_new E (lv hm rfl) (by decide) h))
end
end Lend
namespace Lend
noncomputable abbrev KV := List (Int × CV)
noncomputable def Kn {α : Type} (K : List (Int × α)) : Prop := (K.map (·.1)).Nodup
section
variable {α : Type} {K : List (Int × α)} {k j : Int} {v : α}
theorem Kn.nil : Kn ([] : List (Int × α)) := List.nodup_nil
theorem Kn.cons_iff {p : Int × α} : Kn (p :: K) ↔ p.1 ∉ K.map (·.1) ∧ Kn K := by unfold Kn; rw [List.map_cons, List.nodup_cons]
theorem atK_none_iff : ∀ {K : List (Int × α)}, atK K k = none ↔ k ∉ K.map (·.1)
  | [] => by simp [atK]
  | (j, x) :: r => by
    rw [atK]
    by_cases h : k = j
    · subst h; simp
    · rw [if_neg h, atK_none_iff, List.map_cons, List.mem_cons]
      simp [h]
theorem atK_mem : ∀ {K : List (Int × α)}, atK K k = some v → (k, v) ∈ K
  | [], h => by simp [atK] at h
  | (j, x) :: r, h => by
    rw [atK] at h
    by_cases e : k = j
    · subst e; rw [if_pos rfl] at h; cases h; exact .head _
    · rw [if_neg e] at h; exact .tail _ (atK_mem h)
theorem mem_atK : ∀ {K : List (Int × α)}, Kn K → (k, v) ∈ K → atK K k = some v
  | [], _, h => by cases h
  | (j, x) :: r, n, h => by
    rw [Kn.cons_iff] at n
    rw [atK]
    rcases List.mem_cons.mp h with h1 | h1
    · cases h1; rw [if_pos rfl]
    · have : k ≠ j := fun e => n.1 (List.mem_map.mpr ⟨_, h1, e⟩)
      rw [if_neg this]; exact mem_atK n.2 h1
theorem keys_put : ∀ {K : List (Int × α)}, (putK K k v).map (·.1) = if k ∈ K.map (·.1) then K.map (·.1) else K.map (·.1) ++ [k]
  | [] => by simp [putK]
  | (j, x) :: r => by
    rw [putK]
    by_cases e : k = j
    · subst e; simp
    · rw [if_neg e, List.map_cons, keys_put, List.map_cons]
      by_cases h : k ∈ r.map (·.1)
      · rw [if_pos h, if_pos (.tail _ h)]
      · rw [if_neg h, if_neg (by simp only [List.mem_cons, not_or]; exact ⟨e, h⟩)]; rfl
set_option tactic.hygienic true in
theorem Kn.put (n : Kn K) : Kn (putK K k v) := by
  unfold Kn
  rw [keys_put]
  split
  · exact n
  · rename_i h
    rw [List.nodup_append]
    refine ⟨n, by simp, fun a ha b hb => ?_⟩
    simp at hb; subst hb
    rintro rfl; exact h ha
theorem at_put_self : ∀ {K : List (Int × α)}, atK (putK K k v) k = some v
  | [] => by simp [putK, atK]
  | (j, x) :: r => by
    rw [putK]
    by_cases e : k = j
    · subst e; rw [if_pos rfl, atK, if_pos rfl]
    · rw [if_neg e, atK, if_neg e, at_put_self]
theorem at_put_ne (h : j ≠ k) : ∀ {K : List (Int × α)}, atK (putK K k v) j = atK K j
  | [] => by simp [putK, atK, h]
  | (i, x) :: r => by
    rw [putK]
    by_cases e : k = i
    · subst e; rw [if_pos rfl, atK, atK, if_neg h, if_neg h]
    · rw [if_neg e, atK, atK, at_put_ne h]
theorem del_sub : ∀ {K : List (Int × α)}, (delK K k).Sublist K
  | [] => .slnil
  | (j, x) :: r => by
    rw [delK]
    by_cases e : k = j
    · rw [if_pos e]; exact List.sublist_cons_self ..
    · rw [if_neg e]; exact del_sub.cons_cons _
theorem Kn.sub {L : List (Int × α)} (n : Kn K) (s : L.Sublist K) : Kn L := List.Nodup.sublist (s.map (·.1)) n
theorem Kn.del (n : Kn K) : Kn (delK K k) := n.sub del_sub
theorem at_del_ne (h : j ≠ k) : ∀ {K : List (Int × α)}, atK (delK K k) j = atK K j
  | [] => rfl
  | (i, x) :: r => by
    rw [delK]
    by_cases e : k = i
    · subst e; rw [if_pos rfl, atK, if_neg h]
    · rw [if_neg e, atK, atK, at_del_ne h]
theorem at_del_self : ∀ {K : List (Int × α)}, Kn K → atK (delK K k) k = none
  | [], _ => rfl
  | (i, x) :: r, n => by
    rw [Kn.cons_iff] at n
    rw [delK]
    by_cases e : k = i
    · subst e; rw [if_pos rfl]; exact atK_none_iff.mpr n.1
    · rw [if_neg e, atK, if_neg e, at_del_self n.2]
theorem at_put : atK (putK K k v) j = if j = k then some v else atK K j := by
  by_cases h : j = k
  · subst h; rw [if_pos rfl, at_put_self]
  · rw [if_neg h, at_put_ne h]
theorem put_mem : ∀ {K : List (Int × α)} {p : Int × α}, p ∈ putK K k v → p = (k, v) ∨ p ∈ K
  | [], p, h => by simp [putK] at h; exact .inl h
  | (j, x) :: r, p, h => by
    rw [putK] at h
    by_cases e : k = j
    · subst e; rw [if_pos rfl] at h
      rcases List.mem_cons.mp h with h | h
      · exact .inl h
      · exact .inr (.tail _ h)
    · rw [if_neg e] at h
      rcases List.mem_cons.mp h with h | h
      · subst h; exact .inr (.head _)
      · rcases put_mem h with h | h
        · exact .inl h
        · exact .inr (.tail _ h)
theorem at_filter {f : Int × α → Bool} (n : Kn K) : atK (K.filter f) k = match atK K k with | some v => if f (k, v) = true then some v else none | none => none := by
  rcases e : atK K k with _ | v
  · dsimp only
    refine atK_none_iff.mpr fun h => atK_none_iff.mp e ?_
    obtain ⟨p, hp, rfl⟩ := List.mem_map.mp h
    exact List.mem_map.mpr ⟨p, (List.mem_filter.mp hp).1, rfl⟩
  · dsimp only
    by_cases hf : f (k, v) = true
    · rw [if_pos hf]
      exact mem_atK (n.sub List.filter_sublist) (List.mem_filter.mpr ⟨atK_mem e, hf⟩)
    · rw [if_neg hf]
      refine atK_none_iff.mpr fun h => ?_
      obtain ⟨p, hp, rfl⟩ := List.mem_map.mp h
      have h1 := List.mem_filter.mp hp
      have h2 : atK K p.1 = some p.2 := mem_atK n h1.1
      rw [h2] at e; cases e
      exact hf h1.2
theorem nodup_len : ∀ {l m : List Int}, l.Nodup → (∀ x ∈ l, x ∈ m) → l.length ≤ m.length
  | [], m, _, _ => Nat.zero_le _
  | x :: r, m, n, h => by
    rw [List.nodup_cons] at n
    have hx := h x (.head _)
    have : r.length ≤ (m.erase x).length := nodup_len n.2 fun y hy => by
      have hne : y ≠ x := by rintro rfl; exact n.1 hy
      exact (List.mem_erase_of_ne hne).mpr (h y (.tail _ hy))
    rw [List.length_erase_of_mem hx] at this
    have hp : 0 < m.length := List.length_pos_of_mem hx
    simp only [List.length_cons]
    omega
theorem Kn.len_le {β : Type} {L : List (Int × β)} (n : Kn K) (h : ∀ k, (atK K k).isSome = true → (atK L k).isSome = true) : K.length ≤ L.length := by
  have := nodup_len (l := K.map (·.1)) (m := L.map (·.1)) (by exact n) fun x hx => by
    by_cases e : x ∈ L.map (·.1)
    · exact e
    · have := h x (by
        rcases q : atK K x with _ | v
        · exact absurd hx (atK_none_iff.mp q)
        · rfl)
      rw [atK_none_iff.mpr e] at this; cases this
  simpa using this
end
noncomputable def isSc : CV → Bool
  | .int _ => true
  | .bool _ => true
  | _ => false
noncomputable def num : CV → Int
  | .int i => i
  | .bool b => if b = true then 1 else 0
  | _ => 0
noncomputable def eqS (a b : CV) : Bool := decide (num a = num b)
set_option tactic.hygienic true in
theorem eqP_sc {a b : CV} (ha : isSc a = true) (hb : isSc b = true) : eqP a b = some (eqS a b) := by
  cases a <;> simp [isSc] at ha <;> cases b <;> simp [isSc] at hb <;> simp [eqP, toPy, PyData.depth, PyData.eqv, eqS, num]
  · rename_i a b; cases a <;> cases b <;> rfl
  all_goals exact Bool.beq_eq_decide_eq _ _
end Lend
namespace Lend
set_option genCtorIdx false
set_option genSizeOf false
set_option genInjectivity false
inductive Src where
  | cu (v : CV) | cb (v : CV) | copy (l : Int)
inductive Stm where
  | set (l : Int) (s : Src) | lend (w : String) (o : Int) | mark (w : String) (l : Int) | print (l : Int)
inductive Trm where
  | ret | goto (g : Int) | sw (l : Int) (key : Bool) (g d : Int) | call (l g : Int) | drop (l g : Int)
noncomputable abbrev Blk := List Stm × Trm
noncomputable def evS (K : KV) : Src → Option CV
  | .cu v => some v
  | .cb v => some v
  | .copy l => atK K l
noncomputable def stmK (fol : Int → Bool) (K : KV) : Stm → KV
  | .set l s => (match evS K s with
    | some v => if fol l = true then putK (delK K l) l v else delK K l
    | none => delK K l)
  | .lend _ _ => delK K 7
  | .mark _ l => delK K l
  | .print _ => K
noncomputable def endK (K : KV) : Trm → KV
  | .call l _ => delK K l
  | .drop l _ => delK K l
  | _ => K
noncomputable def goalsK (K : KV) : Trm → List Int
  | .ret => []
  | .goto g => [g]
  | .sw l k g d => (match atK K l with
    | none => if d = g then [g] else [g, d]
    | some v => [if eqS (.bool k) v = true then g else d])
  | .call _ g => [g]
  | .drop _ g => [g]
noncomputable def trB (fol : Int → Bool) (b : Blk) (K : KV) : KV := endK (b.1.foldl (stmK fol) K) b.2
noncomputable def blk (bs : List Blk) (n : Int) : Option Blk := bs[n.toNat]?
noncomputable def SrcOk : Src → Prop
  | .cu v => isSc v = true
  | .cb v => isSc v = true
  | .copy l => 0 ≤ l ∧ l < 8
noncomputable def StmOk : Stm → Prop
  | .set l s => (0 ≤ l ∧ l < 8) ∧ SrcOk s
  | .lend w o => (w = "shared" ∨ w = "mut") ∧ 0 ≤ o ∧ o < 8
  | .mark w l => (w = "live" ∨ w = "dead") ∧ 0 ≤ l ∧ l < 8
  | .print l => 0 ≤ l ∧ l < 8
structure Good (K : KV) : Prop where
  n : Kn K
  r : ∀ p ∈ K, 0 ≤ p.1 ∧ p.1 < 8
  s : ∀ p ∈ K, isSc p.2 = true
theorem Good.nil : Good [] := ⟨Kn.nil, fun _ h => (by cases h), fun _ h => (by cases h)⟩
theorem Good.sub {K L : KV} (g : Good K) (s : L.Sublist K) : Good L := ⟨g.n.sub s, fun p h => g.r p (s.subset h), fun p h => g.s p (s.subset h)⟩
theorem Good.del {K : KV} (g : Good K) (k : Int) : Good (delK K k) := g.sub del_sub
theorem Good.put {K : KV} (g : Good K) {k : Int} {v : CV} (h : 0 ≤ k ∧ k < 8) (hv : isSc v = true) : Good (putK K k v) := ⟨g.n.put, fun p hp => by
  rcases put_mem hp with rfl | hp
  · exact h
  · exact g.r p hp, fun p hp => by
  rcases put_mem hp with rfl | hp
  · exact hv
  · exact g.s p hp⟩
theorem Good.at {K : KV} (g : Good K) {k : Int} {v : CV} (h : atK K k = some v) : isSc v = true := g.s _ (atK_mem h)
theorem mem_upto {x : Int} {n : Nat} (h0 : 0 ≤ x) (h1 : x < n) : x ∈ (List.range n).map Int.ofNat :=
  List.mem_map.mpr ⟨x.toNat, List.mem_range.mpr ((Int.toNat_lt h0).mpr h1), Int.toNat_of_nonneg h0⟩
theorem Good.len {K : KV} (g : Good K) : K.length ≤ 8 := by
  have := nodup_len (l := K.map (·.1)) (m := (List.range 8).map Int.ofNat) (by exact g.n) fun x hx => by
    obtain ⟨p, hp, rfl⟩ := List.mem_map.mp hx
    exact mem_upto (g.r p hp).1 (g.r p hp).2
  simpa using this
theorem SrcOk.at {K : KV} (g : Good K) {s : Src} (h : SrcOk s) {v : CV} (e : evS K s = some v) : isSc v = true := by
  rcases s with w | w | l
  · cases e; exact h
  · cases e; exact h
  · exact g.at e
set_option tactic.hygienic true in
theorem Good.stm {fol : Int → Bool} {K : KV} (g : Good K) {s : Stm} (h : StmOk s) : Good (stmK fol K s) := by
  rcases s with ⟨l, s⟩ | ⟨w, o⟩ | ⟨w, l⟩ | l
  · unfold stmK
    dsimp only
    split
    · rename_i v e
      split
      · exact (g.del l).put h.1 (h.2.at g e)
      · exact g.del l
    · exact g.del l
  · exact g.del 7
  · exact g.del l
  · exact g
theorem Good.stms {fol : Int → Bool} : ∀ {ss : List Stm} {K : KV}, Good K → (∀ s ∈ ss, StmOk s) → Good (ss.foldl (stmK fol) K)
  | [], K, g, _ => g
  | s :: ss, K, g, h => Good.stms (ss := ss) (g.stm (h s (.head _))) fun t ht => h t (.tail _ ht)
theorem Good.end {K : KV} (g : Good K) (t : Trm) : Good (endK K t) := by
  cases t <;> first | exact g | exact g.del _
theorem Good.tr {fol : Int → Bool} {b : Blk} {K : KV} (g : Good K) (h : ∀ s ∈ b.1, StmOk s) : Good (trB fol b K) := (g.stms h).end _
noncomputable def keptK (K here : KV) : KV := here.filter fun p => match atK K p.1 with | some v => eqS v p.2 | none => false
noncomputable def meetK (beg : KV) (n : Int) (K : KV) : Bool × KV := match atK beg n with
  | some (.fdict here) => (decide ((keptK K here).length < here.length), putK beg n (.fdict (keptK K here)))
  | _ => (true, putK beg n (.fdict K))
noncomputable def meetsK (K : KV) : List Int → KV → List Int → KV × List Int
  | [], beg, left => (beg, left)
  | g :: gs, beg, left => meetsK K gs (meetK beg g K).2 (if (meetK beg g K).1 = true then left ++ [g] else left)
noncomputable def followK (fol : Int → Bool) (bs : List Blk) : Nat → KV → List Int → Option KV
  | 0, _, _ => none
  | f + 1, beg, left => (match left.getLast? with
    | none => some beg
    | some n => (match atK beg n, blk bs n with
      | some (.fdict K), some b => followK fol bs f (meetsK (trB fol b K) (goalsK (trB fol b K) b.2) beg left.dropLast).1 (meetsK (trB fol b K) (goalsK (trB fol b K) b.2) beg left.dropLast).2
      | _, _ => none))
end Lend
namespace Lend
noncomputable def locV (l : Int) : CV := .tup [.int l, .tup []]
noncomputable def srcV : Src → CV
  | .cu v => .tup [.str (Str.ofString "const"), .tup [.str (Str.ofString "int"), .str (Str.ofString "u8")], v]
  | .cb v => .tup [.str (Str.ofString "const"), .tup [.str (Str.ofString "bool")], v]
  | .copy l => .tup [.str (Str.ofString "copy"), locV l]
noncomputable def stmV : Stm → CV
  | .set l s => .tup [.str (Str.ofString "assign"), locV l, .tup [.str (Str.ofString "use"), srcV s]]
  | .lend w o => .tup [.str (Str.ofString "assign"), locV 7, .tup [.str (Str.ofString "ref"), .none, .str (Str.ofString w), locV o]]
  | .mark w l => .tup [.str (Str.ofString w), .int l]
  | .print l => .tup [.str (Str.ofString "print"), .tup [.str (Str.ofString "copy"), locV l]]
noncomputable def trmV : Trm → CV
  | .ret => .tup [.str (Str.ofString "return")]
  | .goto g => .tup [.str (Str.ofString "goto"), .int g]
  | .sw l k g d => .tup [.str (Str.ofString "switch"), .tup [.str (Str.ofString "copy"), locV l], .tup [.tup [.bool k, .int g]], .int d]
  | .call l g => .tup [.str (Str.ofString "call"), .tup [.str (Str.ofString "fn"), .str (Str.ofString "g"), .tup []], .tup [], locV l, .int g]
  | .drop l g => .tup [.str (Str.ofString "drop"), locV l, .int g]
noncomputable def blkV (b : Blk) : CV := .flist [.flist (b.1.map stmV), trmV b.2]
noncomputable def conAttrs (b fo bg : Addr) : List (Str × CV) := [(Str.ofString "body", .loc b), (Str.ofString "followed", .loc fo), (Str.ofString "begins", .loc bg)]
structure CAt (S : Store) (c b fo bg : Addr) (bs : List Blk) (fol beg : KV) : Prop where
  hC : ∃ d, lk S c = some (.inst 381 d (conAttrs b fo bg))
  hB : ∃ d, lk S b = some (.inst 193 d (lawBody (bs.map blkV)))
  hFo : lk S fo = some (.dict fol)
  hBg : lk S bg = some (.dict beg)
  ne : fo ≠ bg
theorem CAt.keep {S S' : Store} {c b fo bg : Addr} {bs : List Blk} {fol beg : KV} (h : CAt S c b fo bg bs fol beg) (k : ∀ x ∈ [c, b, fo, bg], lk S' x = lk S x) : CAt S' c b fo bg bs fol beg :=
  ⟨by rw [k c (by simp)]; exact h.hC, by rw [k b (by simp)]; exact h.hB, by rw [k fo (by simp)]; exact h.hFo, by rw [k bg (by simp)]; exact h.hBg, h.ne⟩
theorem CAt.cons {S : Store} {c b fo bg : Addr} {bs : List Blk} {fol beg : KV} (h : CAt S c b fo bg bs fol beg) {x : Addr} {o : CO} (n : lk S x = none) : CAt ((x, o) :: S) c b fo bg bs fol beg :=
  h.keep fun y hy => by
    have : y ≠ x := by
      rintro rfl
      obtain ⟨d1, h1⟩ := h.hC
      obtain ⟨d2, h2⟩ := h.hB
      have h3 := h.hFo
      have h4 := h.hBg
      simp only [nth, List.mem_cons, List.not_mem_nil, or_false] at hy
      rcases hy with rfl | rfl | rfl | rfl <;> simp_all
    simp [nth, lk, this]
theorem CAt.up {S : Store} {c b fo bg : Addr} {bs : List Blk} {fol beg : KV} (h : CAt S c b fo bg bs fol beg) {x : Addr} {o : CO} {K : KV} (hx : lk S x = some (.dict K)) (n1 : x ≠ fo) (n2 : x ≠ bg) : CAt (up S x o) c b fo bg bs fol beg :=
  h.keep fun y hy => lk_up_ne (by
      rintro rfl
      obtain ⟨d1, h1⟩ := h.hC
      obtain ⟨d2, h2⟩ := h.hB
      simp only [nth, List.mem_cons, List.not_mem_nil, or_false] at hy
      rcases hy with rfl | rfl | rfl | rfl <;> simp_all)
section
variable {B : Bs} {S : Store} {Q : CV → Store → Prop} {gd : Addr → Str → Option CV} {c b fo bg : Addr} {bs : List Blk} {fol beg : KV}
theorem at_con {m : Nat} : (Gm B m).atr 381 (Str.ofString "body") = true ∧ (Gm B m).atr 381 (Str.ofString "followed") = true ∧ (Gm B m).atr 381 (Str.ofString "begins") = true := ⟨by kernel_rfl, by kernel_rfl, by kernel_rfl⟩
theorem attr_body {m : Nat} (h : CAt S c b fo bg bs fol beg) : getAttrV (Gm B m) S (.loc c) (Str.ofString "body") = some (.loc b) := by
  obtain ⟨d, h1⟩ := h.hC
  simp [nth, getAttrV, h1, at_con, conAttrs, lookN, isClean, ofString_eq]
theorem attr_followed {m : Nat} (h : CAt S c b fo bg bs fol beg) : getAttrV (Gm B m) S (.loc c) (Str.ofString "followed") = some (.loc fo) := by
  obtain ⟨d, h1⟩ := h.hC
  simp [nth, getAttrV, h1, at_con, conAttrs, lookN, isClean, ofString_eq]
theorem attr_begins {m : Nat} (h : CAt S c b fo bg bs fol beg) : getAttrV (Gm B m) S (.loc c) (Str.ofString "begins") = some (.loc bg) := by
  obtain ⟨d, h1⟩ := h.hC
  simp [nth, getAttrV, h1, at_con, conAttrs, lookN, isClean, ofString_eq]
theorem attr_blocks {m : Nat} (h : CAt S c b fo bg bs fol beg) : getAttrV (Gm B m) S (.loc b) (Str.ofString "blocks") = some (.flist (bs.map blkV)) := by
  obtain ⟨d, h1⟩ := h.hB
  simp [nth, getAttrV, h1, at_body, lawBody, bodyAttrs, lookN, isClean, ofString_eq]
theorem attr_locals {m : Nat} (h : CAt S c b fo bg bs fol beg) : getAttrV (Gm B m) S (.loc b) (Str.ofString "locals") = some (.flist (lawTys.map localV)) := by
  obtain ⟨d, h1⟩ := h.hB
  simp [nth, getAttrV, h1, at_body, lawBody, bodyAttrs, lookN, isClean, ofString_eq]
theorem kind_con {m : Nat} {nm : String} {fa : Addr} (h : CAt S c b fo bg bs fol beg) (h1 : nm ≠ "body" ∧ nm ≠ "followed" ∧ nm ≠ "begins") (h2 : mtF 381 (Str.ofString nm) = some fa) : kindM (Gm B m) S (.loc c) (Str.ofString nm) = some (.fn fa) := by
  obtain ⟨d, hc⟩ := h.hC
  have h2' : (Gm B m).mt 381 (Str.ofString nm) = some fa := h2
  simp [nth, kindM, hc, conAttrs, lookN, ofString_eq, h1, h2']
theorem meth_con {m : Nat} {nm : String} {fa : Addr} {own : Bool} {args : List CV} (h : CAt S c b fo bg bs fol beg) (h2 : mtF 381 (Str.ofString nm) = some fa) : methW (Gm B m) own (.loc c) (Str.ofString nm) args S Q = FnOk B m fa (.loc c :: args) S Q := by
  obtain ⟨d, hc⟩ := h.hC
  have h2' : (Gm B m).mt 381 (Str.ofString nm) = some fa := h2
  simp only [methW, hc, h2']
  rfl
theorem kind_facts {m : Nat} {a ka : Addr} {kvs : KV} {nm : String} {fa : Addr} (h : FactsAt S a ka kvs) (h1 : nm ≠ "known") (h2 : mtF 254 (Str.ofString nm) = some fa) : kindM (Gm B m) S (.loc a) (Str.ofString nm) = some (.fn fa) := by
  obtain ⟨⟨d, hc⟩, _⟩ := h
  have h2' : (Gm B m).mt 254 (Str.ofString nm) = some fa := h2
  simp [nth, kindM, hc, lookN, ofString_eq, h1, h2']
theorem meth_facts {m : Nat} {a ka : Addr} {kvs : KV} {nm : String} {fa : Addr} {own : Bool} {args : List CV} (h : FactsAt S a ka kvs) (h2 : mtF 254 (Str.ofString nm) = some fa) : methW (Gm B m) own (.loc a) (Str.ofString nm) args S Q = FnOk B m fa (.loc a :: args) S Q := by
  obtain ⟨⟨d, hc⟩, _⟩ := h
  have h2' : (Gm B m).mt 254 (Str.ofString nm) = some fa := h2
  simp only [methW, hc, h2']
  rfl
theorem m_con {m : Nat} {nm : String} {fa : Addr} {own : Bool} {args : List CV} (h : CAt S c b fo bg bs fol beg) (h2 : mtF 381 (Str.ofString nm) = some fa) (k : FnOk B m fa (.loc c :: args) S Q) : methW (Gm B m) own (.loc c) (Str.ofString nm) args S Q := by rw [meth_con h h2]; exact k
theorem m_facts {m : Nat} {a ka : Addr} {kvs : KV} {nm : String} {fa : Addr} {own : Bool} {args : List CV} (h : FactsAt S a ka kvs) (h2 : mtF 254 (Str.ofString nm) = some fa) (k : FnOk B m fa (.loc a :: args) S Q) : methW (Gm B m) own (.loc a) (Str.ofString nm) args S Q := by rw [meth_facts h h2]; exact k
theorem mt_at_operand : mtF 254 (Str.ofString "at_operand") = some 244 := by kernel_rfl
theorem mt_forget : mtF 254 (Str.ofString "forget") = some 251 := by kernel_rfl
theorem mt_type_of : mtF 381 (Str.ofString "type_of") = some 286 := by kernel_rfl
theorem mt_value_of : mtF 381 (Str.ofString "value_of") = some 291 := by kernel_rfl
theorem mt_of_two : mtF 381 (Str.ofString "of_two") = some 298 := by kernel_rfl
theorem mt_of_one : mtF 381 (Str.ofString "of_one") = some 305 := by kernel_rfl
theorem mt_of_cast : mtF 381 (Str.ofString "of_cast") = some 312 := by kernel_rfl
theorem mt_step : mtF 381 (Str.ofString "step") = some 319 := by kernel_rfl
theorem mt_behind : mtF 381 (Str.ofString "behind") = some 326 := by kernel_rfl
theorem mt_gone_on : mtF 381 (Str.ofString "gone_on") = some 331 := by kernel_rfl
theorem mt_known_target : mtF 381 (Str.ofString "known_target") = some 338 := by kernel_rfl
theorem mt_meet : mtF 381 (Str.ofString "meet") = some 343 := by kernel_rfl
theorem mt_follow : mtF 381 (Str.ofString "follow") = some 350 := by kernel_rfl
theorem value_use (E : Env0 B) {m : Nat} (hm : 4 ≤ m) {x o : CV} {a ka : Addr} {K : KV} (hF : FactsAt S a ka K) (h : FnOk B (m - 1) 244 [.loc a, o] S Q) : FnOk B m 291 [x, .tup [.str (Str.ofString "use"), o], .loc a] S Q :=
  fnm (rest := ["kind", "told"]) E (lv0 hm rfl) E.facts.f291 rfl (by decide +kernel) E.facts.b291 (q_asg (ev_i0 (ev_loc rfl) rfl) rfl (q_then (ev_cmp (ev_loc rfl) ev_const (cmp_eq _)) (q_retw (wp_meth (ev_loc rfl) (kind_facts hF (nm := "at_operand") (by decide) mt_at_operand) (evs1 (ev_i1 (ev_loc rfl) rfl)) (m_facts hF mt_at_operand h)))))
theorem other_bin (w : String) (h : w ≠ "binary" ∧ w ≠ "checked") : cmpV .In S (.str (Str.ofString w)) (.tup [.str (Str.ofString "binary"), .str (Str.ofString "checked")]) = some false := by
  rw [show ∀ a b, cmpV .In S a b = inW S a b from fun _ _ => rfl]
  simp only [nth, inW, view, toPy, toPys, strOk_of, if_true]
  rw [if_pos (by simp [nth, PyData.depth, PyData.depthAll])]
  have e1 : ¬ "binary" = w := fun e => h.1 e.symm
  have e2 : ¬ "checked" = w := fun e => h.2 e.symm
  simp [nth, PyData.eqv, ofString_beq, e1, e2]
theorem value_none (E : Env0 B) {m : Nat} (hm : 3 ≤ m) {x f : CV} {w : String} {tr : List CV} (hw : w ∉ ["use", "tuple", "binary", "checked", "unary", "cast"]) (h : Q .none S) : FnOk B m 291 [x, .tup (.str (Str.ofString w) :: tr), f] S Q := by
  have ne : ∀ {v : String} {ρ : Rho}, v ∈ ["use", "tuple", "binary", "checked", "unary", "cast"] → nth ρ 3 = some (.str (Str.ofString w)) → Ev (Gm B (m - 1)) (.cmp .Eq (.loc 3) (.const (.str (Str.ofString v)))) ρ S (.bool false) := fun hv h3 => ev_cmp (ev_loc h3) ev_const (cmp_ne (decide_eq_false fun e => hw (e ▸ hv)))
  refine fnm (rest := ["kind", "told"]) E hm E.facts.f291 rfl (by decide +kernel) E.facts.b291 ?_
  exact q_asg (ev_i0 (ev_loc rfl) rfl) rfl (q_if_f (ne (by decide) rfl) (q_if_f (ne (by decide) rfl) (q_if_f (ev_cmp (ev_loc rfl) (ev_tup (evs2 ev_const ev_const) rfl) (other_bin w ⟨by rintro rfl; exact hw (by decide), by rintro rfl; exact hw (by decide)⟩)) (q_if_f (ne (by decide) rfl) (q_if_f (ne (by decide) rfl) (q_ret ev_const h))))))
end
end Lend
namespace Lend
section
variable {G : Gl} {ρ ρ' ρ1 : Rho} {S S' : Store} {K : Fl → Rho → Store → Prop} {ss : List RS} {i k : Nat} {own : Bool} {o e : RE} {a : Addr} {xs ys : List CV} {kvs : List (Int × CV)} {l : Int} {x v d : CV} {Q : CV → Store → Prop}
theorem kd_get (h : lk S a = some (.dict kvs)) : kindM G S (.loc a) (Str.ofString "get") = some (.blt "dict" "dict.get") := by
  unfold kindM; dsimp only; rw [h]; dsimp only [dictId]; rw [if_pos rfl]
theorem kd_pop (h : lk S a = some (.dict kvs)) : kindM G S (.loc a) (Str.ofString "pop") = some (.blt "dict" "dict.pop") := by
  unfold kindM; dsimp only; rw [h]; dsimp only [dictId]; rw [if_neg (by rw [ofString_eq]; decide), if_pos rfl]
theorem kd_setd (h : lk S a = some (.dict kvs)) : kindM G S (.loc a) (Str.ofString "setdefault") = some (.blt "dict" "dict.setdefault") := by
  unfold kindM; dsimp only; rw [h]; dsimp only [dictId]; rw [if_neg (by rw [ofString_eq]; decide), if_neg (by rw [ofString_eq]; decide), if_pos rfl]
theorem kl_pop (h : lk S a = some (.list xs)) : kindM G S (.loc a) (Str.ofString "pop") = some (.blt "list" "list.pop") := by
  unfold kindM; dsimp only; rw [h]; dsimp only [listId]; rw [if_neg (by rw [ofString_eq]; decide), if_pos rfl]
theorem kl_ext (h : lk S a = some (.list xs)) : kindM G S (.loc a) (Str.ofString "extend") = some (.blt "list" "list.extend") := by
  unfold kindM; dsimp only; rw [h]; dsimp only [listId]; rw [if_neg (by rw [ofString_eq]; decide), if_neg (by rw [ofString_eq]; decide), if_pos rfl]
theorem ev_get (ho : Ev G o ρ S (.loc a)) (hl : lk S a = some (.dict kvs)) (he : Ev G e ρ S (.int l)) : Ev G (.meth own o (Str.ofString "get") [e]) ρ S ((atK kvs l).getD .none) := ev_meth ho (kd_get hl) (evs1 he) fun _ k => meth_get hl k
theorem ev_getn (ho : Ev G o ρ S (.loc a)) (hl : lk S a = some (.dict kvs)) (he : Ev G e ρ S .none) : Ev G (.meth own o (Str.ofString "get") [e]) ρ S .none := ev_meth ho (kd_get hl) (evs1 he) fun _ k => by
  unfold methW; dsimp only; rw [hl]; dsimp only [dictMethW]; rw [if_pos rfl]; exact k
theorem ev_getf (ho : Ev G o ρ S (.fdict kvs)) (he : Ev G e ρ S (.int l)) : Ev G (.meth own o (Str.ofString "get") [e]) ρ S ((atK kvs l).getD .none) := ev_meth (mk := .blt "dict" "dict.get") ho (by unfold kindM; dsimp only [dictId]; rw [if_pos rfl]) (evs1 he) fun _ k => by
  unfold methW; dsimp only; rw [if_pos rfl]; exact k
theorem meth_dpop (hl : lk S a = some (.dict kvs)) (hs : kvs.length ≤ small) (hS : up S a (.dict (delK kvs l)) = S') (h : ∀ v, Q v S') : methW G own (.loc a) (Str.ofString "pop") [.int l, .none] S Q := by
  unfold methW; dsimp only; rw [hl]; dsimp only [dictMethW]; rw [if_neg (by rw [ofString_eq]; decide), if_pos rfl]
  rcases e : atK kvs l with _ | v
  · rw [del_none e, up_self hl] at hS; subst hS; exact h _
  · subst hS; exact ⟨hs, h _⟩
theorem q_dpop (ho : Ev G o ρ S (.loc a)) (he : Ev G e ρ S (.int l)) (hl : lk S a = some (.dict kvs)) (hs : kvs.length ≤ small) (hS : up S a (.dict (delK kvs l)) = S') (k : wpSs G ss ρ S' K) : wpSs G (.expr (.meth own o (Str.ofString "pop") [e, .const .none]) :: ss) ρ S K :=
  ho _ ⟨by rw [kd_pop hl]; rfl, evs2 he ev_const _ ⟨rfl, meth_dpop hl hs hS fun _ => k⟩⟩
theorem q_dpopn (ho : Ev G o ρ S (.loc a)) (he : Ev G e ρ S .none) (hl : lk S a = some (.dict kvs)) (k : wpSs G ss ρ S K) : wpSs G (.expr (.meth own o (Str.ofString "pop") [e, .const .none]) :: ss) ρ S K :=
  ho _ ⟨by rw [kd_pop hl]; rfl, evs2 he ev_const _ ⟨rfl, by
    unfold methW; dsimp only; rw [hl]; dsimp only [dictMethW]; rw [if_neg (by rw [ofString_eq]; decide), if_pos rfl]; exact k⟩⟩
theorem q_extend (ho : Ev G o ρ S (.loc a)) (hl : lk S a = some (.list xs)) (he : Ev G e ρ S (.flist ys)) (hs : xs.length + ys.length ≤ small) (k : wpSs G ss ρ (up S a (.list (xs ++ ys))) K) : wpSs G (.expr (.meth own o (Str.ofString "extend") [e]) :: ss) ρ S K :=
  ho _ ⟨by rw [kl_ext hl]; rfl, evs1 he _ ⟨rfl, by
    unfold methW; dsimp only; rw [hl]; dsimp only [listMethW]; rw [if_neg (by rw [ofString_eq]; decide), if_neg (by rw [ofString_eq]; decide), if_pos rfl]; exact ⟨hs, k⟩⟩⟩
theorem w_lpop (ho : Ev G o ρ S (.loc a)) (hl : lk S a = some (.list xs)) (hv : xs.getLast? = some v) (hs : xs.length ≤ small) (k : Q v (up S a (.list xs.dropLast))) : wpE G (.meth own o (Str.ofString "pop") []) ρ S Q :=
  wp_meth' ho (kl_pop hl) evs_nil (by
    unfold methW; dsimp only; rw [hl]; dsimp only [listMethW]; rw [if_neg (by rw [ofString_eq]; decide), if_pos rfl]; rw [hv]; exact ⟨hs, k⟩)
theorem w_meth {n : Str} {args : List RE} {mk : MK} (ho : Ev G o ρ S x) (hk : kindM G S x n = some mk) (h : wpEs G args ρ S fun xs S2 => kindM G S2 x n = some mk ∧ methW G own x n xs S2 Q) : wpE G (.meth own o n args) ρ S Q := by
  refine ho _ ⟨by rw [hk]; rfl, ?_⟩
  rw [hk]; exact h
theorem w_newl0 (h : ∀ b, lk S b = none → (∀ p ∈ S, p.1 ≠ b) → Q (.loc b) ((b, .list []) :: S)) : wpE G (.list true []) ρ S Q := ⟨Nat.zero_le _, h⟩
theorem meth_setd (hl : lk S a = some (.dict kvs)) (hs : kvs.length ≤ small) (h : match atK kvs l with | some v => Q v S | none => Q d (up S a (.dict (putK kvs l d)))) : methW G own (.loc a) (Str.ofString "setdefault") [.int l, d] S Q := by
  unfold methW; dsimp only; rw [hl]; dsimp only [dictMethW]; rw [if_neg (by rw [ofString_eq]; decide), if_neg (by rw [ofString_eq]; decide), if_pos rfl]; exact ⟨hs, h⟩
theorem in_all {is : List Nat} {n : Nat} (h : (is.all fun i => Nat.blt i n) = true) : ∀ i ∈ is, i < n := fun i hi => Nat.le_of_ble_eq_true (List.all_eq_true.mp h i hi)
theorem q_tupw {is : List Nat} (h : wpE G e ρ S fun x S1 => (match unpackV S1 x is.length with | some xs => (∀ i ∈ is, i < ρ.length) ∧ wpSs G ss (setAll ρ is xs) S1 K | none => False)) : wpSs G (.asg (.tup is) e :: ss) ρ S K := h
theorem w_newd0 (h : ∀ b, lk S b = none → (∀ p ∈ S, p.1 ≠ b) → Q (.loc b) ((b, .dict []) :: S)) : wpE G (.dict true [] []) ρ S Q := h
theorem up_tail {b : Addr} {c c' : CO} (h : a ≠ b) : up ((b, c) :: S) a c' = (b, c) :: up S a c' := by rw [up, if_neg h]
theorem rm_tail {b : Addr} {c : CO} (h : a ≠ b) : rm ((b, c) :: S) a = (b, c) :: rm S a := by rw [rm, if_neg h]
theorem lk_tail {b : Addr} {c : CO} (h : a ≠ b) : lk ((b, c) :: S) a = lk S a := by rw [lk, if_neg h]
theorem iter_list (h : lk S a = some (.list xs)) : iterX S (.loc a) = some xs := by unfold iterX; dsimp only; rw [h]
theorem view_dict (h : lk S a = some (.dict kvs)) : view S (.loc a) = .fdict kvs := by unfold view; dsimp only; rw [h]
theorem view_list (h : lk S a = some (.list xs)) : view S (.loc a) = .flist xs := by unfold view; dsimp only; rw [h]
noncomputable def whileN (G : Gl) (c : RE) (b : List RS) (Q : Fl → Rho → Store → Prop) (n : Nat) (ρ : Rho) (S : Store) : Prop := whileW (fun ρ S Q => wpT G c ρ S Q) (fun ρ S Q => wpSs G b ρ S Q) Q n ρ S
noncomputable def whK (G : Gl) (c : RE) (b : List RS) (Q : Fl → Rho → Store → Prop) (n : Nat) : Fl → Rho → Store → Prop := fun fl ρ' S' => match fl with | .next => whileN G c b Q n ρ' S' | .ret v => Q (.ret v) ρ' S'
section
variable {c : RE} {b : List RS} {n : Nat} {Q : Fl → Rho → Store → Prop}
theorem q_while (n : Nat) (h : whileN G c b (thenW G ss K) n ρ S) : wpSs G (.while c b :: ss) ρ S K := ⟨n, h⟩
theorem wh_stop (hc : Ev G c ρ S (.bool false)) (h : Q .next ρ S) : whileN G c b Q (n + 1) ρ S := by
  show wpE G c ρ S _
  exact hc _ (if_ff (P' := wpSs G b ρ S (whK G c b Q n)) h)
theorem wh_go (hc : Ev G c ρ S (.bool true)) (h : wpSs G b ρ S (whK G c b Q n)) : whileN G c b Q (n + 1) ρ S := by
  show wpE G c ρ S _
  exact hc _ (if_tt (P' := Q .next ρ S) h)
end
theorem w_lcompw {it elt : RE} {t : RT} {ifs : List RE} (h : wpE G it ρ S fun x S1 => (match iterX S1 x with | some items => compW (stays S1 x) (compB1 G t elt ifs) items (List.replicate k none ++ ρ) S1 [] (fun ρ' S' acc => ρ'.drop k = ρ ∧ Q (.flist acc) S') | none => False)) : wpE G (.lcomp k elt it t ifs []) ρ S Q := h
theorem w_cmp {op : CmpOp} {p q : RE} (hp : Ev G p ρ S x) (h : wpE G q ρ S fun y S2 => (match cmpV op S2 x y with | some r => Q (.bool r) S2 | none => False)) : wpE G (.cmp op p q) ρ S Q := hp _ h
theorem w_type1 {B : Bs} {m : Nat} {f : Str} {t : String} (hg : glF f = some (.raw (.type t))) (h : wpE (Gm B m) e ρ S fun x S1 => typeCallW own t [x] S1 Q) : wpE (Gm B m) (.call own (.glob f) [e]) ρ S Q := by
  show wpE (Gm B m) (.glob f) ρ S fun g S1 => wpEs (Gm B m) [e] ρ S1 fun xs S2 => callW (Gm B m) own g xs S2 Q
  exact ev_gl hg _ h
theorem tc_rng {n : Int} (h0 : -(10 ^ 6) ≤ n) (h1 : n ≤ 10 ^ 6) (h : Q (.rng 0 n) S) : typeCallW own "range" [.int n] S Q := by
  unfold typeCallW
  rw [if_neg (by decide), if_pos rfl]
  exact ⟨h0, h1, h⟩
theorem range_n {n : Int} (h0 : 0 ≤ n) (h1 : n ≤ 1000) : iterX S (.rng 0 n) = some (rangeL 0 n.toNat) := by
  unfold iterX
  dsimp only
  rw [if_pos ⟨by decide, by decide, by omega, by omega⟩, Int.sub_zero]
theorem wb_nil {all : Bool} {R : Bool → Store → Prop} (h : R all S) : wpB G all [] ρ S R := h
theorem if_nt {P P' : Prop} (h : P) : if (!true) = false then P else P' := (if_pos rfl).mpr h
theorem a_setd {i : RE} {R : Rho → Store → Prop} (ho : Ev G o ρ S (.loc a)) (hi : Ev G i ρ S (.int l)) (hl : lk S a = some (.dict kvs)) (hs : kvs.length ≤ small) (k : R ρ (up S a (.dict (putK kvs l v)))) : wpAsg G (.sub o i) v ρ S R := ho _ (hi _ (by
  show setItemW (.loc a) (.int l) v S _
  unfold setItemW
  dsimp only
  rw [hl]; exact ⟨hs, k⟩))
theorem w_dict {ks : List Int} {vs : List RE} (h : wpEs G vs ρ S fun xs S1 => Q (.fdict (mergeK [] (ks.zip xs))) S1) : wpE G (.dict false ks vs) ρ S Q := h
theorem w_list' {es : List RE} (h : wpEs G es ρ S fun xs S1 => xs.length ≤ small ∧ newListW true xs S1 Q) : wpE G (.list true es) ρ S Q := h
theorem w_list {es : List RE} (h : wpEs G es ρ S fun xs S1 => xs.length ≤ small ∧ Q (.flist xs) S1) : wpE G (.list false es) ρ S Q := h
theorem w_cmpc {op : CmpOp} {p : RE} {y : CV} (h : wpE G p ρ S fun x S1 => (match cmpV op S1 x y with | some r => Q (.bool r) S1 | none => False)) : wpE G (.cmp op p (.const y)) ρ S Q := h
theorem q_forTw {t : RT} {it : RE} {body : List RS} (h : wpE G it ρ S fun x S1 => (match iterX S1 x with | some items => forT G (stays S1 x) t body items ρ S1 (thenW G ss K) | none => False)) : wpSs G (.for t it body :: ss) ρ S K := h
theorem q_ifw {c : RE} {a : List RS} (h : wpE G c ρ S fun x S1 => (match truth x with | some b => if b = true then wpSs G a ρ S1 (thenW G ss K) else wpSs G ss ρ S1 K | none => False)) : wpSs G (.ite c a [] :: ss) ρ S K := h
theorem w_newd {ks : List Int} {vs : List RE} (hs : Evs G vs ρ S xs) (h : ∀ b, lk S b = none → (∀ p ∈ S, p.1 ≠ b) → Q (.loc b) ((b, .dict (mergeK [] (ks.zip xs))) :: S)) : wpE G (.dict true ks vs) ρ S Q := hs (fun xs S1 => newDictW true (mergeK [] (ks.zip xs)) S1 Q) h
theorem w_bnot {all : Bool} {p : RE} {es : List RE} {R : Bool → Store → Prop} (h : wpE G p ρ S fun x S1 => (match truth x with | some b => if (!b) = all then wpB G all es ρ S1 R else R (!all) S1 | none => False)) : wpB G all (.not p :: es) ρ S R := by
  show wpE G p ρ S _
  exact h
theorem q_ifgt {a : List RS} {p : RE} {op : CmpOp} {y : CV} (h : wpE G p ρ S fun x S1 => (match cmpV op S1 x y with | some r => if r = true then wpSs G a ρ S1 (thenW G ss K) else wpSs G ss ρ S1 K | none => False)) : wpSs G (.ite (.cmp op p (.const y)) a [] :: ss) ρ S K := h
theorem q_owndict {B : Bs} {m : Nat} {K' : List (Int × CV)} {Kt : Fl → Rho → Store → Prop} (he : Ev (Gm B m) e ρ S x) (hx : view S x = .fdict K') (hl : K'.length ≤ small) (hi : Nat.blt i ρ.length = true) (k : ∀ b, lk S b = none → (∀ p ∈ S, p.1 ≠ b) → wpSs (Gm B m) ss (ρ.set i (some (.loc b))) ((b, .dict K') :: S) Kt) : wpSs (Gm B m) (.asg (.name i) (.call true (.glob (Str.ofString "dict")) [e]) :: ss) ρ S Kt := by
  refine q_asgw hi ?_
  show wpE (Gm B m) (.glob (Str.ofString "dict")) ρ S fun g S1 => wpEs (Gm B m) [e] ρ S1 fun xs S2 => callW (Gm B m) true g xs S2 _
  exact ev_gl gl_dict _ (evs1 he _ (tc_dict hx hl k))
end
end Lend
namespace Lend
theorem FactsAt.up {S : Store} {a ka : Addr} {K K' : KV} (h : FactsAt S a ka K) : FactsAt (up S ka (.dict K')) a ka K' := by
  obtain ⟨⟨d, h1⟩, h2⟩ := h
  have hne : a ≠ ka := ne_fg h1 h2 (by intro e; cases e)
  exact ⟨⟨d, by rw [lk_up_ne hne]; exact h1⟩, lk_up_self h2⟩
theorem isNone_sc {v : CV} (h : isSc v = true) : isNone v = some false := by cases v <;> first | rfl | cases h
section
variable {B : Bs} {S : Store} {Q : CV → Store → Prop} {gd : Addr → Str → Option CV} {c b fo bg a ka : Addr} {bs : List Blk} {fol beg K : KV}
theorem src_ok (E : Env0 B) {m : Nat} (hm : 4 ≤ m) (hF : FactsAt S a ka K) (s : Src) (h : Q ((evS K s).getD .none) S) : FnOk B m 244 [.loc a, srcV s] S Q := by
  rcases s with v | v | l
  · exact at_const E (lv0 hm rfl) (by rw [if_pos (by decide)]; exact h)
  · exact at_const E (lv0 hm rfl) (by rw [if_pos (by decide)]; exact h)
  · exact at_copy E hm (w := "copy") (ps := []) (by decide) hF rfl h
theorem eq_unit : cmpV .Eq S (.tup []) (.tup []) = some true := by kernel_rfl
theorem in_word2 (w u v : String) : cmpV .In S (.str (Str.ofString w)) (.tup [.str (Str.ofString u), .str (Str.ofString v)]) = some (decide (w = u ∨ w = v)) := by
  rw [show ∀ a b, cmpV .In S a b = inW S a b from fun _ _ => rfl]
  simp only [nth, inW, view, toPy, toPys, strOk_of, if_true]
  rw [if_pos (by simp [nth, PyData.depth, PyData.depthAll])]
  simp only [nth, List.any_cons, List.any_nil, Bool.or_false, PyData.eqv, ofString_beq]
  congr 1
  by_cases h1 : w = u
  · subst h1; simp
  · by_cases h2 : w = v
    · subst h2; simp
    · have e1 : ¬ u = w := fun e => h1 e.symm
      have e2 : ¬ v = w := fun e => h2 e.symm
      simp [nth, h1, h2, e1, e2]
noncomputable def folF (fol : KV) (l : Int) : Bool := (atK fol l).isSome
theorem in_dict {x : CV} {k : Int} {L : KV} (h : view S x = .fdict L) : cmpV .In S (.int k) x = some (atK L k).isSome := by
  rw [show ∀ a b, cmpV .In S a b = inW S a b from fun _ _ => rfl]
  unfold inW
  rw [h]
noncomputable def setO (f : Int → Bool) (K : KV) (l : Int) : Option CV → KV
  | some v => if f l = true then putK (delK K l) l v else delK K l
  | none => delK K l
theorem isnot_sc {v : CV} (hv : isSc v = true) : cmpV .IsNot S v .none = some true := by
  show (isNone v).map (!·) = _
  rw [isNone_sc hv]; rfl
theorem step_set (E : Env0 B) {m : Nat} (hm : 6 ≤ m) (hC : CAt S c b fo bg bs fol beg) (hF : FactsAt S a ka K) (n1 : ka ≠ fo) (n2 : ka ≠ bg) (g : Good K) {l : Int} {rv : CV} {o : Option CV} (hv : ∀ Q : CV → Store → Prop, Q (o.getD .none) S → FnOk B (m - 1) 291 [.loc c, rv, .loc a] S Q) (ho : ∀ v, o = some v → isSc v = true)
    (h : Q .none (up S ka (.dict (setO (folF fol) K l o)))) : FnOk B m 319 [.loc c, .tup [.str (Str.ofString "assign"), locV l, rv], .loc a] S Q := by
  refine fnm (rest := ["place", "rvalue", "value"]) E (lv0 hm rfl) E.facts.f319 rfl (by decide +kernel) E.facts.b319 ?_
  refine q_then (ev_cmp (ev_i0 (ev_loc rfl) rfl) ev_const (cmp_eq _)) (q_swap (ev_tup (evs2 (ev_i1 (ev_loc rfl) rfl) (ev_i2 (ev_loc rfl) rfl)) rfl) (xs := [locV l, rv]) rfl rfl (q_asg (ev_meth (ev_loc rfl) (kind_con hC (nm := "value_of") (by decide) mt_value_of) (evs2 (ev_loc rfl) (ev_loc rfl)) fun Q k => m_con hC mt_value_of (hv Q k)) rfl
    (q_exprw (wp_meth (ev_loc rfl) (kind_facts hF (nm := "forget") (by decide) mt_forget) (evs1 (ev_loc rfl)) (m_facts hF mt_forget (forget_ok E (lv hm rfl) hF (Nat.le_trans g.len (by decide)) ?_))))))
  have hF' := hF.up (K' := delK K l)
  have hC' := hC.up (o := .dict (delK K l)) hF.2 n1 n2
  rcases o with _ | v
  · exact q_if_f (ev_and (evb_off (ev_cmp (ev_loc rfl) ev_const rfl))) (q_done (q_next (q_done h)))
  · have hc : Ev (Gm B (m - 1)) (.and [(.cmp .IsNot (.loc 5) (.const CV.none)), (.cmp .Eq (.sub (.loc 3) (.const (.int 1))) (.tup [])), (.cmp .In (.sub (.loc 3) (.const (.int 0))) (.attr (.loc 0) (Str.ofString "followed")))]) [some (.loc c), some (.tup [.str (Str.ofString "assign"), locV l, rv]), some (.loc a), some (locV l), some rv, some v] (up S ka (.dict (delK K l))) (.bool (folF fol l)) :=
      ev_and (evb_on (ev_cmp (ev_loc rfl) ev_const (isnot_sc (ho v rfl))) (evb_on (ev_cmp (ev_i1 (ev_loc rfl) rfl) (ev_tup evs_nil rfl) eq_unit) (evb_last (ev_cmp (ev_i0 (ev_loc rfl) rfl) (ev_attr (ev_loc rfl) (attr_followed hC')) (in_dict (view_dict hC'.hFo))))))
    unfold setO at h
    dsimp only at h
    cases hf : folF fol l
    · rw [hf] at hc h
      rw [if_neg (by decide)] at h
      exact q_if_f hc (q_done (q_next (q_done h)))
    · rw [hf] at hc h
      rw [if_pos rfl] at h
      refine q_then hc (q_setd (ev_loc rfl) (ev_attr (ev_loc rfl) (attr_known hF')) (ev_i0 (ev_loc rfl) rfl) hF'.2 (Nat.le_trans (g.del l).len (by decide)) ?_)
      rw [up_up]
      exact q_done (q_next (q_done (q_next (q_done h))))
theorem step_ok (E : Env0 B) {m : Nat} (hm : 6 ≤ m) (hC : CAt S c b fo bg bs fol beg) (hF : FactsAt S a ka K) (n1 : ka ≠ fo) (n2 : ka ≠ bg) (g : Good K) {s : Stm} (hs : StmOk s)
    (h : Q .none (up S ka (.dict (stmK (folF fol) K s)))) : FnOk B m 319 [.loc c, stmV s, .loc a] S Q := by
  rcases s with ⟨l, s⟩ | ⟨w, o⟩ | ⟨w, l⟩ | l
  · exact step_set E hm hC hF n1 n2 g (o := evS K s) (fun Q k => value_use E (lv hm rfl) hF (src_ok E (lv (b := 5) (lv hm rfl) rfl) hF s k)) (fun v e => hs.2.at g e) h
  · exact step_set E hm hC hF n1 n2 g (l := 7) (o := none) (fun Q k => value_none E (lv hm rfl) (by decide) k) (fun v e => none_some e) h
  · have hw := hs.1
    have hne : decide (w = "assign") = false := by rcases hw with rfl | rfl <;> rfl
    refine fnm (rest := ["place", "rvalue", "value"]) E (lv0 hm rfl) E.facts.f319 rfl (by decide +kernel) E.facts.b319 ?_
    have hi := in_word2 (S := S) w "live" "dead"
    rw [decide_eq_true hw] at hi
    exact q_else (ev_cmp (ev_i0 (ev_loc rfl) rfl) ev_const (cmp_ne hne)) (q_then (ev_cmp (ev_i0 (ev_loc rfl) rfl) (ev_tup (evs2 ev_const ev_const) rfl) hi) (q_exprw (wp_meth (ev_loc rfl) (kind_facts hF (nm := "forget") (by decide) mt_forget) (evs1 (ev_tup (evs2 (ev_i1 (ev_loc rfl) rfl) (ev_tup evs_nil rfl)) rfl)) (m_facts hF mt_forget (forget_ok E (lv hm rfl) hF (Nat.le_trans g.len (by decide)) (q_done (q_next (q_done (q_next (q_done h))))))))))
  · refine fnm (rest := ["place", "rvalue", "value"]) E (lv0 hm rfl) E.facts.f319 rfl (by decide +kernel) E.facts.b319 ?_
    have h : Q .none (up S ka (.dict K)) := h
    rw [up_self hF.2] at h
    exact q_else (ev_cmp (ev_i0 (ev_loc rfl) rfl) ev_const (cmp_ne (by decide))) (q_if_f (ev_cmp (ev_i0 (ev_loc rfl) rfl) (ev_tup (evs2 ev_const ev_const) rfl) (in_word2 _ _ _)) (q_done (q_next (q_done h))))
end
end Lend
namespace Lend
noncomputable def BlkOk (b : Blk) : Prop := ∀ s ∈ b.1, StmOk s
section
variable {B : Bs} {S : Store} {Q : CV → Store → Prop} {gd : Addr → Str → Option CV} {c b fo bg a ka : Addr} {bs : List Blk} {fol beg K : KV}
theorem item_dict {x y : CV} {k : Int} {L : KV} (h : view S x = .fdict L) (e : atK L k = some y) : getItemV gd S x (.int k) = some y := by
  unfold getItemV
  rw [h]
  exact e
theorem item_blk {n : Int} {k : Blk} (h0 : 0 ≤ n) (h1 : n < 100) (e : blk bs n = some k) : getItemV gd S (.flist (bs.map blkV)) (.int n) = some (blkV k) := by
  simp only [nth, getItemV, getI, view]
  rw [if_pos ⟨h0, by omega⟩, List.getElem?_map]
  unfold blk at e
  rw [e]; rfl
theorem gl_Facts : glF (Str.ofString "Facts") = some (.raw (.ref 254)) := by kernel_rfl
theorem behind_loop (E : Env0 B) {m : Nat} (hm : 6 ≤ m) (hC : CAt S c b fo bg bs fol beg) {d : Addr} (l1 : lk S a = none) (l2 : lk S ka = none) (l3 : a ≠ ka) {X Y Z : Option CV} {gg : Store → Prop} (hg : ∀ S, gg S) {Kt : Fl → Rho → Store → Prop} (ss : List Stm) (K : KV) (p : Option CV) (hs : ∀ s ∈ ss, StmOk s) (g : Good K)
    (h : ∀ p, Kt .next [some (.loc c), X, some (.loc a), Y, Z, p] ((ka, .dict (ss.foldl (stmK (folF fol)) K)) :: (a, .inst 254 d [(Str.ofString "known", .loc ka)]) :: S)) :
    forN (Gm B m) gg 5 [(.expr (.meth false (.loc 0) (Str.ofString "step") [(.loc 5), (.loc 2)]))] (ss.map stmV) [some (.loc c), X, some (.loc a), Y, Z, p] ((ka, .dict K) :: (a, .inst 254 d [(Str.ofString "known", .loc ka)]) :: S) Kt := by
  induction ss generalizing K p with
  | nil => exact for_nil (h p)
  | cons s ss ih =>
    have hC3 : CAt ((ka, CO.dict K) :: (a, CO.inst 254 d [(Str.ofString "known", .loc ka)]) :: S) c b fo bg bs fol beg := (hC.cons l1).cons (by rw [lk_tail fun e => l3 e.symm]; exact l2)
    have hF : FactsAt ((ka, CO.dict K) :: (a, CO.inst 254 d [(Str.ofString "known", .loc ka)]) :: S) a ka K := ⟨⟨d, by rw [lk_tail l3, lk_head]⟩, lk_head⟩
    have n1 : ka ≠ fo := ne_fg l2 hC.hFo (by intro e; cases e)
    have n2 : ka ≠ bg := ne_fg l2 hC.hBg (by intro e; cases e)
    refine for_cons rfl (q_exprw (wp_meth (ev_loc rfl) (kind_con hC3 (nm := "step") (by decide) mt_step) (evs2 (ev_loc rfl) (ev_loc rfl)) (m_con hC3 mt_step (step_ok E (lv0 hm rfl) hC3 hF n1 n2 g (hs s (.head _)) ?_))))
    rw [up_head]
    exact q_done ⟨hg _, ih _ _ (fun t ht => hs t (.tail _ ht)) (g.stm (hs s (.head _))) h⟩
theorem behind_ok (E : Env0 B) {m : Nat} (hm : 7 ≤ m) (hC : CAt S c b fo bg bs fol beg) {n : Int} (h0 : 0 ≤ n) (h1 : n < 100) {k : Blk} (hk : blk bs n = some k) (hK : atK beg n = some (.fdict K)) (g : Good K) (hs : BlkOk k)
    (h : ∀ a ka d, lk S a = none → lk S ka = none → a ≠ ka → Q (.loc a) ((ka, .dict (k.1.foldl (stmK (folF fol)) K)) :: (a, .inst 254 d [(Str.ofString "known", .loc ka)]) :: S)) : FnOk B m 326 [.loc c, .int n] S Q := by
  refine fnm (rest := ["facts", "statements", "terminator", "statement"]) E (lv0 hm rfl) E.facts.f326 rfl (by decide +kernel) E.facts.b326 ?_
  refine q_asgw rfl (wp_call (ev_gl gl_Facts) (evs1 (ev_sub (ev_attr (ev_loc rfl) (attr_begins hC)) (ev_loc rfl) (item_dict (view_dict hC.hBg) hK))) (facts_new E (lv hm rfl) (kvs := K) (fun S' _ => rfl) (Nat.le_trans g.len (by decide)) fun a d ka l1 l2 l3 => ?_))
  have hC2 : CAt ((ka, CO.dict K) :: (a, CO.inst 254 d [(Str.ofString "known", .loc ka)]) :: S) c b fo bg bs fol beg := (hC.cons l1).cons (by rw [lk_tail fun e => l3 e.symm]; exact l2)
  exact q_tup (xs := [.flist (k.1.map stmV), trmV k.2]) (ev_sub (ev_attr (ev_attr (ev_loc rfl) (attr_body hC2)) (attr_blocks hC2)) (ev_loc rfl) (item_blk h0 h1 hk)) rfl rfl
    (q_for (xs := k.1.map stmV) (ev_loc rfl) rfl (behind_loop E (lv hm rfl) hC l1 l2 l3 (by exact fun _ => trivial) k.1 K none hs g fun p => q_next (q_ret (ev_loc rfl) (h a ka d l1 l2 l3))))
end
end Lend
namespace Lend
noncomputable def targetK (K : KV) : Trm → CV
  | .sw l k g d => (match atK K l with
    | none => .none
    | some v => .int (if eqS (.bool k) v = true then g else d))
  | _ => .none
section
variable {B : Bs} {S : Store} {Q : CV → Store → Prop} {gd : Addr → Str → Option CV} {c b fo bg a ka : Addr} {bs : List Blk} {fol beg K : KV}
theorem eqW_sc {x y : CV} (hx : isSc x = true) (hy : isSc y = true) : eqW S x y = some (eqS x y) := by
  have h := eqP_sc hx hy
  cases x <;> first | (simp [nth, isSc] at hx; done) | (cases y <;> first | (simp [nth, isSc] at hy; done) | exact h)
theorem cmp_sc {x y : CV} (hx : isSc x = true) (hy : isSc y = true) : cmpV .Eq S x y = some (eqS x y) := eqW_sc hx hy
theorem target_ok (E : Env0 B) {m : Nat} (hm : 5 ≤ m) {x : CV} (hF : FactsAt S a ka K) (g : Good K) (t : Trm) (h : Q (targetK K t) S) : FnOk B m 338 [x, trmV t, .loc a] S Q := by
  refine fnm (rest := ["value", "told", "block"]) E (lv0 hm rfl) E.facts.f338 rfl (by decide +kernel) E.facts.b338 ?_
  have other : ∀ {w : String} {tr : List CV}, decide (w = "switch") = false → decide (w = "assert") = false → Q .none S → wpSs (Gm B (m - 1)) r338 [some x, some (.tup (.str (Str.ofString w) :: tr)), some (.loc a), none, none, none] S fun fl _ S' => match fl with | .ret v => Q v S' | .next => Q .none S' :=
    fun h1 h2 h => q_if_f (ev_cmp (ev_i0 (ev_loc rfl) rfl) ev_const (cmp_ne h1)) (q_if_f (ev_and (evb_off (ev_cmp (ev_i0 (ev_loc rfl) rfl) ev_const (cmp_ne h2)))) (q_ret ev_const h))
  rcases t with _ | gl | ⟨l, k, gl, d⟩ | ⟨l, gl⟩ | ⟨l, gl⟩
  · exact other (by decide) (by decide) h
  · exact other (by decide) (by decide) h
  · refine q_then (ev_cmp (ev_i0 (ev_loc rfl) rfl) ev_const (cmp_eq _)) (q_asg (x := (atK K l).getD .none) (ev_meth (ev_loc rfl) (kind_facts hF (nm := "at_operand") (by decide) mt_at_operand) (evs1 (ev_i1 (ev_loc rfl) rfl)) fun Q k => m_facts hF mt_at_operand (src_ok E (lv hm rfl) hF (.copy l) k)) rfl ?_)
    have h : Q (match atK K l with | none => .none | some v => .int (if eqS (.bool k) v = true then gl else d)) S := h
    rcases e : atK K l with _ | v
    · rw [e] at h
      exact q_if_ret (ev_cmp (ev_loc rfl) ev_const rfl) ev_const h
    · rw [e] at h
      dsimp only at h
      have hsc := g.at e
      refine q_if_f (ev_cmp (ev_loc rfl) ev_const (is_none (isNone_sc hsc))) (q_forT (xs := [.tup [.bool k, .int gl]]) (ev_i2 (ev_loc rfl) rfl) rfl (forT_cons (t_tup (xs := [.bool k, .int gl]) rfl rfl) ?_))
      have hc : cmpV .Eq S (.bool k) v = some (eqS (.bool k) v) := cmp_sc rfl hsc
      cases q : eqS (.bool k) v
      · rw [q] at h hc
        rw [if_neg (by decide)] at h
        exact q_if_f (ev_cmp (ev_loc rfl) (ev_loc rfl) hc) (q_done ⟨stays_self, forT_nil (q_next (q_ret (ev_i3 (ev_loc rfl) rfl) h))⟩)
      · rw [q] at h hc
        rw [if_pos rfl] at h
        exact q_if_ret (ev_cmp (ev_loc rfl) (ev_loc rfl) hc) (ev_loc rfl) h
  · exact other (by decide) (by decide) h
  · exact other (by decide) (by decide) h
theorem gl_successors : glF (Str.ofString "successors") = some (.raw (.ref 202)) := by kernel_rfl
end
end Lend
namespace Lend
section
variable {B : Bs} {S : Store} {Q : CV → Store → Prop} {gd : Addr → Str → Option CV} {c b fo bg a ka : Addr} {bs : List Blk} {fol beg K : KV}
noncomputable def goneV (K : KV) (ka : Addr) (t : Trm) : CV := .flist ((goalsK K t).map fun g => .tup [.int g, .loc ka])
theorem target_cases (K : KV) (t : Trm) : targetK K t = .none ∨ ∃ g, targetK K t = .int g ∧ goalsK K t = [g] := by
  rcases t with _ | gl | ⟨l, k, gl, d⟩ | ⟨l, gl⟩ | ⟨l, gl⟩
  · exact .inl rfl
  · exact .inl rfl
  · unfold targetK goalsK
    dsimp only
    rcases atK K l with _ | v
    · exact .inl rfl
    · exact .inr ⟨_, rfl, rfl⟩
  · exact .inl rfl
  · exact .inl rfl
theorem succ_any (E : Env0 B) {m : Nat} (hm : 3 ≤ m) {K : KV} {t : Trm} (ht : targetK K t = .none) (h : Q (.flist ((goalsK K t).map .int)) S) : FnOk B m 202 [trmV t] S Q := by
  rcases t with _ | gl | ⟨l, k, gl, d⟩ | ⟨l, gl⟩ | ⟨l, gl⟩
  · exact succ_return E hm h
  · exact succ_goto E hm h
  · unfold targetK at ht
    unfold goalsK at h
    dsimp only at h ht
    rcases e : atK K l with _ | v
    · rw [e] at h
      refine succ_switch E hm ?_
      rw [apply_ite (List.map CV.int)] at h
      exact h
    · rw [e] at ht; cases ht
  · exact succ_call E hm h
  · exact succ_drop E hm h
theorem goals_len (K : KV) (t : Trm) : (goalsK K t).length ≤ small := by
  have : (goalsK K t).length ≤ 2 := by
    rcases t with _ | gl | ⟨l, k, gl, d⟩ | ⟨l, gl⟩ | ⟨l, gl⟩ <;> unfold goalsK <;> dsimp only
    · decide
    · exact Nat.le_of_ble_eq_true rfl
    · rcases atK K l with _ | v
      · dsimp only; split <;> exact Nat.le_of_ble_eq_true rfl
      · exact Nat.le_of_ble_eq_true rfl
    · exact Nat.le_of_ble_eq_true rfl
    · exact Nat.le_of_ble_eq_true rfl
  exact Nat.le_trans this (by decide)
theorem gone_mid (E : Env0 B) {m : Nat} (hm : 5 ≤ m) (hC : CAt S c b fo bg bs fol beg) (hF : FactsAt S a ka K) (g : Good K) {n : Int} (t : Trm) (h : Q (goneV K ka t) S) :
    wpSs (Gm B m) (r331.drop 3) [some (.loc c), some (.int n), some (.loc a), some (trmV t), none] S fun fl _ S' => match fl with | .ret v => Q v S' | .next => Q .none S' := by
  refine q_asg (ev_meth (ev_loc rfl) (kind_con hC (nm := "known_target") (by decide) mt_known_target) (evs2 (ev_loc rfl) (ev_loc rfl)) fun Q k => m_con hC mt_known_target (target_ok E hm hF g t k)) rfl ?_
  rcases target_cases K t with e | ⟨gl, e, eg⟩
  · rw [e]
    exact q_if_f (ev_cmp (ev_loc rfl) ev_const rfl) (q_ret (ev_map (ev_call gl_successors (evs1 (ev_loc rfl)) fun Q k => succ_any E (lv0 hm rfl) e k) rfl (goals_len K t) fun gl _ => ev_tup (evs2 (ev_loc rfl) (ev_attr (ev_loc rfl) (attr_known hF))) rfl) h)
  · rw [e]
    unfold goneV at h
    rw [eg] at h
    exact q_if_ret (ev_cmp (ev_loc rfl) ev_const rfl) (ev_list (evs1 (ev_tup (evs2 (ev_loc rfl) (ev_attr (ev_loc rfl) (attr_known hF))) rfl)) rfl) h
theorem gone_on_ok (E : Env0 B) {m : Nat} (hm : 6 ≤ m) (hC : CAt S c b fo bg bs fol beg) (hF : FactsAt S a ka K) (n1 : ka ≠ fo) (n2 : ka ≠ bg) (g : Good K) {n : Int} (h0 : 0 ≤ n) (h1 : n < 100) {k : Blk} (hk : blk bs n = some k)
    (h : Q (goneV (endK K k.2) ka k.2) (up S ka (.dict (endK K k.2)))) : FnOk B m 331 [.loc c, .int n, .loc a] S Q := by
  refine fnm (rest := ["terminator", "target"]) E (lv0 hm rfl) E.facts.f331 rfl (by decide +kernel) E.facts.b331 ?_
  have kf := kind_facts (B := B) (m := m - 1) hF (nm := "forget") (by decide) mt_forget
  have hlen : K.length ≤ small := Nat.le_trans g.len (by decide)
  obtain ⟨ss, t⟩ := k
  refine q_asg (ev_f1 (ev_sub (ev_attr (ev_attr (ev_loc rfl) (attr_body hC)) (attr_blocks hC)) (ev_loc rfl) (item_blk h0 h1 hk)) rfl) rfl ?_
  dsimp only at h
  have ne : ∀ {w w' : String} {tr : List CV} {ρ : Rho}, decide (w = w') = false → nth ρ 3 = some (.tup (.str (Str.ofString w) :: tr)) → Ev (Gm B (m - 1)) (.cmp .Eq (.sub (.loc 3) (.const (.int 0))) (.const (.str (Str.ofString w')))) ρ S (.bool false) := fun hd hw => ev_cmp (ev_i0 (ev_loc hw) rfl) ev_const (cmp_ne hd)
  rcases t with _ | gl | ⟨l, key, gl, d⟩ | ⟨l, gl⟩ | ⟨l, gl⟩
  · have h : Q (goneV K ka .ret) (up S ka (.dict K)) := h
    rw [up_self hF.2] at h
    exact q_if_f (ne (by decide) rfl) (q_if_f (ne (by decide) rfl) (gone_mid E (lv hm rfl) hC hF g .ret h))
  · have h : Q (goneV K ka (.goto gl)) (up S ka (.dict K)) := h
    rw [up_self hF.2] at h
    exact q_if_f (ne (by decide) rfl) (q_if_f (ne (by decide) rfl) (gone_mid E (lv hm rfl) hC hF g (.goto gl) h))
  · have h : Q (goneV K ka (.sw l key gl d)) (up S ka (.dict K)) := h
    rw [up_self hF.2] at h
    exact q_if_f (ne (by decide) rfl) (q_if_f (ne (by decide) rfl) (gone_mid E (lv hm rfl) hC hF g (.sw l key gl d) h))
  · refine q_then (ev_cmp (ev_i0 (ev_loc rfl) rfl) ev_const (cmp_eq _)) (q_exprw (wp_meth (ev_loc rfl) kf (evs1 (ev_i3 (ev_loc rfl) rfl)) (m_facts hF mt_forget (forget_ok E (lv hm rfl) hF hlen ?_))))
    exact q_done (q_next (q_if_f (ev_cmp (ev_i0 (ev_loc rfl) rfl) ev_const (cmp_ne (by decide))) (gone_mid E (lv hm rfl) (hC.up hF.2 n1 n2) hF.up (g.del l) (.call l gl) h)))
  · refine q_if_f (ne (by decide) rfl) (q_then (ev_cmp (ev_i0 (ev_loc rfl) rfl) ev_const (cmp_eq _)) (q_exprw (wp_meth (ev_loc rfl) kf (evs1 (ev_i1 (ev_loc rfl) rfl)) (m_facts hF mt_forget (forget_ok E (lv hm rfl) hF hlen ?_)))))
    exact q_done (q_next (gone_mid E (lv hm rfl) (hC.up hF.2 n1 n2) hF.up (g.del l) (.drop l gl) h))
end
end Lend
namespace Lend
theorem put_new {α : Type} {k : Int} {v : α} : ∀ {K : List (Int × α)}, k ∉ K.map (·.1) → putK K k v = K ++ [(k, v)]
  | [], _ => rfl
  | (j, x) :: r, h => by
    simp only [nth, List.map_cons, List.mem_cons, not_or] at h
    rw [putK, if_neg h.1, put_new h.2]; rfl
noncomputable def keepP (K : KV) (p : Int × CV) : Bool := match atK K p.1 with | some v => eqS v p.2 | none => false
theorem kept_eq {K here : KV} : keptK K here = here.filter (keepP K) := rfl
theorem merge_new : ∀ {kvs acc : KV}, Kn (acc ++ kvs) → mergeK acc kvs = acc ++ kvs
  | [], acc, _ => (List.append_nil acc).symm
  | (k, v) :: r, acc, n => by
    have h : k ∉ acc.map (·.1) := fun hm => by
      unfold Kn at n
      rw [List.map_append, List.nodup_append] at n
      exact n.2.2 k hm k (.head _) rfl
    have e : acc ++ (k, v) :: r = (acc ++ [(k, v)]) ++ r := by rw [List.append_assoc]; rfl
    rw [mergeK, put_new h, merge_new (by rw [← e]; exact n), ← e]
section
variable {B : Bs} {S : Store} {Q : CV → Store → Prop} {gd : Addr → Str → Option CV} {c b fo bg a ka : Addr} {bs : List Blk} {fol beg K here : KV}
theorem ev_keep {m : Nat} {ρ : Rho} {i j : Nat} {x : CV} {p : Int × CV} (hi : nth ρ i = some x) (hj : nth ρ j = some (.fdict here)) (h1 : nth ρ 1 = some (.int p.1)) (hx : view S x = .fdict K) (gK : Good K) (g : Good here) (hp : p ∈ here) :
    Ev (Gm B m) (.and [(.cmp .In (.loc 1) (.loc i)), (.cmp .Eq (.sub (.loc i) (.loc 1)) (.sub (.loc j) (.loc 1)))]) ρ S (.bool (keepP K p)) := by
  have hat : atK here p.1 = some p.2 := mem_atK g.n hp
  have hin : cmpV .In S (.int p.1) x = some (atK K p.1).isSome := in_dict hx
  unfold keepP
  rcases e : atK K p.1 with _ | u
  · rw [e] at hin
    exact ev_and (evb_off (ev_cmp (ev_loc h1) (ev_loc hi) hin))
  · rw [e] at hin
    exact ev_and (evb_on (ev_cmp (ev_loc h1) (ev_loc hi) hin) (by
      have h : Ev (Gm B m) (.cmp .Eq (.sub (.loc i) (.loc 1)) (.sub (.loc j) (.loc 1))) ρ S (.bool (eqS u p.2)) := ev_cmp (ev_sub (ev_loc hi) (ev_loc h1) (item_dict hx e)) (ev_sub (ev_loc hj) (ev_loc h1) (item_dict rfl hat)) (cmp_sc (gK.at e) (g.at hat))
      dsimp only
      cases hq : eqS u p.2
      · rw [hq] at h; exact evb_off h
      · rw [hq] at h; exact evb_on h evb_nil))
noncomputable def meetC : RE := .dcomp 2 (.loc 1) (.sub (.loc 5) (.loc 1)) (.loc 3) (.name 1) [(.and [(.cmp .In (.loc 1) (.loc 4)), (.cmp .Eq (.sub (.loc 4) (.loc 1)) (.sub (.loc 5) (.loc 1)))])]
theorem meetC_ok {m : Nat} {x : CV} (hx : view S x = .fdict K) (gK : Good K) (g : Good here) {X Y Z : Option CV} : Ev (Gm B m) meetC [X, Y, some x, some (.fdict here), Z] S (.fdict (keptK K here)) := by
  obtain ⟨q, hq⟩ := evd_filt (G := Gm B m) (ρ := [X, Y, some x, some (.fdict here), Z]) (S := S) (l := here) (f := fun p => .int p.1) (h := fun p => p.2) (kk := fun p => p.1) (b := keepP K) (key := .loc 1) (val := .sub (.loc 5) (.loc 1)) (e := .and [(.cmp .In (.loc 1) (.loc 4)), (.cmp .Eq (.sub (.loc 4) (.loc 1)) (.sub (.loc 5) (.loc 1)))]) none (fun p hp => ev_keep rfl rfl rfl hx gK g hp) (fun p _ => ev_loc rfl) (fun p hp _ => ev_sub (ev_loc rfl) (ev_loc rfl) (item_dict rfl (mem_atK g.n hp)))
  have e : mergeK [] (keptK K here) = keptK K here := merge_new (acc := []) (g.sub List.filter_sublist).n
  rw [← e]
  rw [List.map_id'' (fun _ => rfl)] at hq
  exact ev_dcomp (ev_loc rfl) rfl (by rw [List.length_map]; exact Nat.le_trans g.len (by decide)) hq rfl
structure GoodB (beg : KV) : Prop where
  n : Kn beg
  r : ∀ p ∈ beg, 0 ≤ p.1 ∧ p.1 < 50
  v : ∀ p ∈ beg, ∃ K, p.2 = .fdict K ∧ Good K
theorem GoodB.len {beg : KV} (g : GoodB beg) : beg.length ≤ 50 := by
  have := nodup_len (l := beg.map (·.1)) (m := (List.range 50).map Int.ofNat) (by exact g.n) fun x hx => by
    obtain ⟨p, hp, rfl⟩ := List.mem_map.mp hx
    have := g.r p hp
    refine List.mem_map.mpr ⟨p.1.toNat, List.mem_range.mpr (by omega), ?_⟩
    show ((p.1.toNat : Nat) : Int) = p.1
    omega
  simpa [nth] using this
theorem GoodB.put {beg : KV} (g : GoodB beg) {n : Int} {K : KV} (h : 0 ≤ n ∧ n < 50) (gK : Good K) : GoodB (putK beg n (.fdict K)) := ⟨g.n.put, fun p hp => by
  rcases put_mem hp with rfl | hp
  · exact h
  · exact g.r p hp, fun p hp => by
  rcases put_mem hp with rfl | hp
  · exact ⟨K, rfl, gK⟩
  · exact g.v p hp⟩
theorem GoodB.meet {beg : KV} (g : GoodB beg) {n : Int} {K : KV} (h : 0 ≤ n ∧ n < 50) (gK : Good K) : GoodB (meetK beg n K).2 := by
  rcases e : atK beg n with _ | y
  · simp [nth, meetK, e]; exact g.put h gK
  · obtain ⟨here, rfl, gh⟩ := g.v _ (atK_mem e)
    simp [nth, meetK, e]
    exact g.put h (gh.sub List.filter_sublist)
theorem meet_ok (E : Env0 B) {m : Nat} (hm : 3 ≤ m) (hC : CAt S c b fo bg bs fol beg) (gB : GoodB beg) {x : CV} (hx : view S x = .fdict K) (gK : Good K) {n : Int}
    (h : Q (.bool (meetK beg n K).1) (up S bg (.dict (meetK beg n K).2))) : FnOk B m 343 [.loc c, .int n, x] S Q := by
  refine fnm (rest := ["here", "kept"]) E hm E.facts.f343 rfl (by decide +kernel) E.facts.b343 ?_
  have hv : view S (.loc bg) = .fdict beg := by unfold view; dsimp only; rw [hC.hBg]
  have hin : cmpV .NotIn S (.int n) (.loc bg) = some (!(atK beg n).isSome) := by
    rw [show ∀ a b, cmpV .NotIn S a b = (inW S a b).map (!·) from fun _ _ => rfl]
    rw [show inW S (.int n) (.loc bg) = some (atK beg n).isSome from in_dict hv]; rfl
  have hl : beg.length ≤ small := Nat.le_trans gB.len (by decide)
  unfold meetK at h
  rcases e : atK beg n with _ | y
  · rw [e] at hin h
    exact q_then (ev_cmp (ev_loc rfl) (ev_attr (ev_loc rfl) (attr_begins hC)) hin) (q_setd (ev_dictof (ev_loc rfl) hx (Nat.le_trans gK.len (by decide))) (ev_attr (ev_loc rfl) (attr_begins hC)) (ev_loc rfl) hC.hBg hl (q_ret ev_const h))
  · obtain ⟨here, rfl, g⟩ := gB.v _ (atK_mem e)
    rw [e] at hin h
    have h1 : (keptK K here).length ≤ small := Nat.le_trans (List.length_filter_le ..) (Nat.le_trans g.len (by decide))
    have h2 : here.length ≤ small := Nat.le_trans g.len (by decide)
    refine q_if_f (ev_cmp (ev_loc rfl) (ev_attr (ev_loc rfl) (attr_begins hC)) hin) (q_asg (ev_sub (ev_attr (ev_loc rfl) (attr_begins hC)) (ev_loc rfl) (item_dict hv e)) rfl (q_asg (meetC_ok hx gK g) rfl ?_))
    refine q_setd (ev_loc rfl) (ev_attr (ev_loc rfl) (attr_begins hC)) (ev_loc rfl) hC.hBg hl (q_ret (x := .bool (decide ((keptK K here).length < here.length))) (ev_cmp (ev_len (ev_loc rfl) rfl h1) (ev_len (ev_loc rfl) rfl h2) ?_) h)
    show some (decide ((_ : Int) < _)) = _
    rw [decide_eq_decide.mpr Int.ofNat_lt]
end
end Lend
namespace Lend
noncomputable def InR (g : Int) : Prop := 0 ≤ g ∧ g < 50
noncomputable def TrmOk : Trm → Prop
  | .ret => True
  | .goto g => InR g
  | .sw l _ g d => (0 ≤ l ∧ l < 8) ∧ InR g ∧ InR d
  | .call _ g => InR g
  | .drop _ g => InR g
noncomputable def BlksOk (bs : List Blk) : Prop := ∀ n k, blk bs n = some k → BlkOk k ∧ TrmOk k.2
theorem TrmOk.goals {K : KV} {t : Trm} (h : TrmOk t) : (goalsK K t).length ≤ 2 ∧ ∀ g ∈ goalsK K t, InR g := by
  rcases t with _ | g | ⟨l, k, g, d⟩ | ⟨l, g⟩ | ⟨l, g⟩
  · exact ⟨by simp [nth, goalsK], by simp [nth, goalsK]⟩
  · exact ⟨by simp [nth, goalsK], by simp [nth, goalsK]; exact h⟩
  · obtain ⟨_, h1, h2⟩ := h
    simp only [nth, goalsK]
    split
    · split
      · exact ⟨by simp, by simpa [nth] using h1⟩
      · exact ⟨by simp, by simpa [nth] using ⟨h1, h2⟩⟩
    · split
      · exact ⟨by simp, by simpa [nth] using h1⟩
      · exact ⟨by simp, by simpa [nth] using h2⟩
  · exact ⟨by simp [nth, goalsK], by simp [nth, goalsK]; exact h⟩
  · exact ⟨by simp [nth, goalsK], by simp [nth, goalsK]; exact h⟩
section
variable {B : Bs} {S : Store} {Q : CV → Store → Prop} {gd : Addr → Str → Option CV} {c b fo bg a ka lf : Addr} {bs : List Blk} {fol beg K here : KV}
theorem CAt.ne_of {x : Addr} {xs : List CV} (hC : CAt S c b fo bg bs fol beg) (h : lk S x = some (.list xs)) : x ≠ c ∧ x ≠ b ∧ x ≠ fo ∧ x ≠ bg := by
  obtain ⟨d1, h1⟩ := hC.hC
  obtain ⟨d2, h2⟩ := hC.hB
  have h3 := hC.hFo
  have h4 := hC.hBg
  refine ⟨?_, ?_, ?_, ?_⟩ <;> rintro rfl <;> simp_all
theorem cat_upL {x : Addr} {xs : List CV} {o : CO} (hC : CAt S c b fo bg bs fol beg) (h : lk S x = some (.list xs)) : CAt (up S x o) c b fo bg bs fol beg :=
  hC.keep fun y hy => lk_up_ne (by
    obtain ⟨h1, h2, h3, h4⟩ := hC.ne_of h
    rintro rfl
    simp only [nth, List.mem_cons, List.not_mem_nil, or_false] at hy
    rcases hy with rfl | rfl | rfl | rfl <;> contradiction)
theorem cat_upB {beg' : KV} (hC : CAt S c b fo bg bs fol beg) : CAt (up S bg (.dict beg')) c b fo bg bs fol beg' := by
  obtain ⟨d1, h1⟩ := hC.hC
  obtain ⟨d2, h2⟩ := hC.hB
  have h3 := hC.hFo
  have h4 := hC.hBg
  have n1 : c ≠ bg := by rintro rfl; simp_all
  have n2 : b ≠ bg := by rintro rfl; simp_all
  exact ⟨⟨d1, by rw [lk_up_ne n1]; exact h1⟩, ⟨d2, by rw [lk_up_ne n2]; exact h2⟩, by rw [lk_up_ne hC.ne]; exact h3, lk_up_self h4, hC.ne⟩
noncomputable def meetBody : List RS := [(.ite (.meth false (.loc 0) (Str.ofString "meet") [(.loc 3), (.loc 4)]) [(.expr (.meth false (.loc 1) (Str.ofString "append") [(.loc 3)]))] [])]
theorem goals_loop (E : Env0 B) {m : Nat} (hm : 3 ≤ m) {n : Int} (gK : Good K) {Kt : Fl → Rho → Store → Prop} {gg : Store → Prop} (hg : ∀ S, gg S) (l : List Int) (S : Store) (beg : KV) (left : List Int) (p q : Option CV)
    (hC : CAt S c b fo bg bs fol beg) (gB : GoodB beg) (hlf : lk S lf = some (.list (left.map .int))) (hka : lk S ka = some (.dict K)) (n1 : ka ≠ bg) (hr : ∀ g ∈ l, InR g) (hl : left.length + l.length ≤ 50000)
    (h : ∀ S' p q, CAt S' c b fo bg bs fol (meetsK K l beg left).1 → lk S' lf = some (.list ((meetsK K l beg left).2.map .int)) → (∀ x, x ≠ bg → x ≠ lf → lk S' x = lk S x) → Kt .next [some (.loc c), some (.loc lf), some (.int n), p, q] S') :
    forT (Gm B m) gg (.tup [3, 4]) meetBody (l.map fun g => .tup [.int g, .loc ka]) [some (.loc c), some (.loc lf), some (.int n), p, q] S Kt := by
  induction l generalizing S beg left p q with
  | nil => exact forT_nil (h S p q hC hlf fun _ _ _ => rfl)
  | cons g l ih =>
    have hne : lf ≠ ka := ne_fg hlf hka (by intro e; cases e)
    have hlb := (hC.ne_of hlf).2.2.2
    have hl1 : left.length + 1 + l.length ≤ 50000 := by rw [List.length_cons, ← Nat.add_assoc, Nat.add_right_comm] at hl; exact hl
    have hC' := cat_upB hC (beg' := (meetK beg g K).2)
    have gB' := gB.meet (hr g (.head _)) gK
    have hlf' : lk (up S bg (.dict (meetK beg g K).2)) lf = some (.list (left.map .int)) := by rw [lk_up_ne hlb]; exact hlf
    have hka' : lk (up S bg (.dict (meetK beg g K).2)) ka = some (.dict K) := by rw [lk_up_ne n1]; exact hka
    have hr' : ∀ x ∈ l, InR x := fun x hx => hr x (.tail _ hx)
    refine forT_cons (t_tup (xs := [.int g, .loc ka]) rfl rfl) (q_ifw (wp_meth (ev_loc rfl) (kind_con hC (nm := "meet") (by decide) mt_meet) (evs2 (ev_loc rfl) (ev_loc rfl)) (m_con hC mt_meet (meet_ok E hm hC gB (view_dict hka) gK ?_))))
    show (if (meetK beg g K).1 = true then _ else _)
    unfold meetsK at h
    cases q : (meetK beg g K).1
    · rw [q, if_neg (by decide)] at h
      exact if_ff (q_done ⟨hg _, ih _ _ left _ _ hC' gB' hlf' hka' hr' (Nat.le_trans (Nat.add_le_add_right (Nat.le_succ _) _) hl1) fun S' p q' h1 h2 h3 => h S' p q' h1 h2 fun x hx1 hx2 => by rw [h3 x hx1 hx2, lk_up_ne hx1]⟩)
    · rw [q, if_pos rfl] at h
      have e : left.map CV.int ++ [.int g] = (left ++ [g]).map CV.int := by rw [List.map_append]; rfl
      refine if_tt (q_append (ev_loc rfl) hlf' (ev_loc rfl) (Nat.ble_eq_true_of_le (by rw [List.length_map]; exact Nat.le_trans (Nat.le_trans (Nat.le_add_right _ _) hl) (by decide))) ?_)
      rw [e]
      exact q_done (q_next (q_done ⟨hg _, ih _ _ (left ++ [g]) _ _ (cat_upL hC' hlf') gB' (lk_up_self hlf') (by rw [lk_up_ne (fun e => hne e.symm)]; exact hka') hr' (by rw [List.length_append]; exact hl1) fun S' p q' h1 h2 h3 => h S' p q' h1 h2 fun x hx1 hx2 => by rw [h3 x hx1 hx2, lk_up_ne hx2, lk_up_ne hx1]⟩))
end
end Lend
namespace Lend
noncomputable def followBody : List RS := [(.asg (.name 2) (.meth false (.loc 1) (Str.ofString "pop") [])),
    (.for (.tup [3, 4]) (.meth false (.loc 0) (Str.ofString "gone_on") [(.loc 2), (.meth false (.loc 0) (Str.ofString "behind") [(.loc 2)])]) meetBody)]
section
variable {B : Bs} {S : Store} {Q : CV → Store → Prop} {gd : Addr → Str → Option CV} {c b fo bg a ka lf : Addr} {bs : List Blk} {fol beg K here : KV}
noncomputable def KeepX (bg : Addr) (S S' : Store) : Prop := ∀ x, x ≠ bg → (lk S x).isSome = true → lk S' x = lk S x
theorem follow_turn (E : Env0 B) {m : Nat} (hm : 8 ≤ m) {Kt : Fl → Rho → Store → Prop} {left : List Int} {p q r : Option CV} (hC : CAt S c b fo bg bs fol beg) (gB : GoodB beg) (hbs : BlksOk bs) (hlf : lk S lf = some (.list (left.map .int)))
    {n : Int} (hn : left.getLast? = some n) (hr : ∀ g ∈ left, InR g) (hl : left.length ≤ 40000) (hK : atK beg n = some (.fdict K)) {k : Blk} (hk : blk bs n = some k)
    (h : ∀ S' p q r, CAt S' c b fo bg bs fol (meetsK (trB (folF fol) k K) (goalsK (trB (folF fol) k K) k.2) beg left.dropLast).1 → lk S' lf = some (.list ((meetsK (trB (folF fol) k K) (goalsK (trB (folF fol) k K) k.2) beg left.dropLast).2.map .int)) →
      (∀ x, x ≠ bg → x ≠ lf → (lk S x).isSome = true → lk S' x = lk S x) → Kt .next [some (.loc c), some (.loc lf), p, q, r] S') :
    wpSs (Gm B m) followBody [some (.loc c), some (.loc lf), p, q, r] S Kt := by
  have hnm : n ∈ left := List.mem_of_getLast? hn
  obtain ⟨n0, n50⟩ := hr n hnm
  have n100 : n < 100 := Int.lt_trans n50 (by decide)
  have hgl : (left.map CV.int).getLast? = some (.int n) := by rw [List.getLast?_map, hn]; rfl
  have gK : Good K := by
    obtain ⟨K', e, g⟩ := gB.v _ (atK_mem hK)
    cases e; exact g
  have hbk := hbs n k hk
  have hdl : (left.map CV.int).dropLast = left.dropLast.map .int := by rw [List.map_dropLast]
  have hsm : (left.map CV.int).length ≤ small := by rw [List.length_map]; exact Nat.le_trans hl (by decide)
  have hC1 := cat_upL (o := .list (left.dropLast.map .int)) hC hlf
  have hlf1 : lk (up S lf (.list (left.dropLast.map .int))) lf = some (.list (left.dropLast.map .int)) := lk_up_self hlf
  have hs1 : ∀ x, x ≠ lf → lk (up S lf (.list (left.dropLast.map .int))) x = lk S x := fun x hx => lk_up_ne hx
  refine q_asgw rfl (w_lpop (ev_loc rfl) hlf hgl hsm ?_)
  rw [hdl]
  generalize up S lf (.list (left.dropLast.map .int)) = S1 at hC1 hlf1 hs1 ⊢
  have gk1 : Good (k.1.foldl (stmK (folF fol)) K) := gK.stms hbk.1
  have gK2 : Good (trB (folF fol) k K) := gK.tr hbk.1
  refine q_forTw (w_meth (ev_loc rfl) (kind_con hC1 (nm := "gone_on") (by decide) mt_gone_on) (w_cons (w_ev (ev_loc rfl) (w_cons (wp_meth (ev_loc rfl) (kind_con hC1 (nm := "behind") (by decide) mt_behind) (evs1 (ev_loc rfl)) (m_con hC1 mt_behind (behind_ok E (lv0 hm rfl) hC1 n0 n100 hk hK gK hbk.1 fun a ka d l1 l2 l3 => ?_)))))))
  have l4 : lk ((a, CO.inst 254 d [(Str.ofString "known", .loc ka)]) :: S1) ka = none := by rw [lk_tail fun e => l3 e.symm]; exact l2
  have hC2 : ∀ K', CAt ((ka, CO.dict K') :: (a, CO.inst 254 d [(Str.ofString "known", .loc ka)]) :: S1) c b fo bg bs fol beg := fun K' => (hC1.cons l1).cons l4
  have n1 : ka ≠ fo := ne_fg l2 hC1.hFo (by intro e; cases e)
  have n2 : ka ≠ bg := ne_fg l2 hC1.hBg (by intro e; cases e)
  refine w_nil ⟨kind_con (hC2 _) (nm := "gone_on") (by decide) mt_gone_on, m_con (hC2 _) mt_gone_on (gone_on_ok E (lv0 hm rfl) (hC2 _) ⟨⟨d, by rw [lk_tail l3, lk_head]⟩, lk_head⟩ n1 n2 gk1 n0 n100 hk ?_)⟩
  rw [up_head, show endK (k.1.foldl (stmK (folF fol)) K) k.2 = trB (folF fol) k K from rfl]
  have hlfa : lf ≠ a := ne_sn hlf1 l1
  have hlfk : lf ≠ ka := ne_sn hlf1 l2
  obtain ⟨t1, t2⟩ := hbk.2.goals (K := trB (folF fol) k K)
  refine goals_loop (m := m) E (lv0 hm rfl) gK2 (by exact fun _ => trivial) (goalsK (trB (folF fol) k K) k.2) _ beg left.dropLast q r (hC2 _) gB (by rw [lk_tail hlfk, lk_tail hlfa]; exact hlf1) lk_head n2 t2 (by rw [List.length_dropLast]; exact Nat.le_trans (Nat.add_le_add (Nat.le_trans (Nat.sub_le _ _) hl) t1) (by decide)) fun S' p' q' h1 h2 h3 => q_next (q_done (h S' _ _ _ h1 h2 fun x hx1 hx2 hx3 => ?_))
  have hxa : x ≠ a := by rintro rfl; rw [← hs1 _ hx2, l1] at hx3; cases hx3
  have hxk : x ≠ ka := by rintro rfl; rw [← hs1 _ hx2, l2] at hx3; cases hx3
  rw [h3 x hx1 hx2, ← hs1 x hx2, lk_tail hxk, lk_tail hxa]
theorem meets_in {T : KV} (gT : Good T) : ∀ (l : List Int) (beg : KV) (left : List Int), (∀ g ∈ l, InR g) → (∀ g ∈ left, InR g) → GoodB beg → GoodB (meetsK T l beg left).1 ∧ (∀ g ∈ (meetsK T l beg left).2, InR g) ∧ (meetsK T l beg left).2.length ≤ left.length + l.length
  | [], beg, left, _, h2, h3 => ⟨h3, h2, Nat.le_refl _⟩
  | g :: l, beg, left, h1, h2, h3 => by
    have hl : (if (meetK beg g T).1 = true then left ++ [g] else left).length ≤ left.length + 1 := by
      split
      · rw [List.length_append]; exact Nat.le_refl _
      · exact Nat.le_succ _
    obtain ⟨i1, i2, i3⟩ := meets_in gT l (meetK beg g T).2 (if (meetK beg g T).1 = true then left ++ [g] else left) (fun x hx => h1 x (.tail _ hx)) (fun x hx => by
      split at hx
      · rcases List.mem_append.mp hx with hx | hx
        · exact h2 x hx
        · rw [List.mem_singleton.mp hx]; exact h1 _ (.head _)
      · exact h2 x hx) (h3.meet (h1 g (.head _)) gT)
    exact ⟨i1, i2, by rw [List.length_cons, Nat.add_comm l.length 1, ← Nat.add_assoc]; exact Nat.le_trans i3 (Nat.add_le_add_right hl _)⟩
theorem fol_fit {l d t n f : Nat} (h1 : l + 2 * (f + 1) ≤ 40000) (h2 : d = l - 1) (h3 : 0 < l) (h4 : t ≤ 2) (h5 : n ≤ d + t) : n + 2 * f ≤ 40000 := by omega
theorem follow_while (E : Env0 B) {m : Nat} (hm : 8 ≤ m) {beg' : KV} {Kt : Fl → Rho → Store → Prop} (hbs : BlksOk bs) (f : Nat) (S : Store) (beg : KV) (left : List Int) (p q r : Option CV) (hC : CAt S c b fo bg bs fol beg) (gB : GoodB beg) (hlf : lk S lf = some (.list (left.map .int))) (hr : ∀ g ∈ left, InR g) (hl : left.length + 2 * f ≤ 40000)
    (hf : followK (folF fol) bs f beg left = some beg') (h : ∀ S' p q r, CAt S' c b fo bg bs fol beg' → (∀ x, x ≠ bg → x ≠ lf → (lk S x).isSome = true → lk S' x = lk S x) → Kt .next [some (.loc c), some (.loc lf), p, q, r] S') :
    whileN (Gm B m) (.cmp .NotEq (.loc 1) (.list false [])) followBody Kt f [some (.loc c), some (.loc lf), p, q, r] S := by
  induction f generalizing S beg left p q r with
  | zero => exact none_some hf
  | succ f ih =>
    have hne : cmpV .NotEq S (.loc lf) (.flist []) = some (!(left.map CV.int).isEmpty) := ne_nil (view_list hlf)
    unfold followK at hf
    rcases e : left.getLast? with _ | n
    · have : left = [] := List.getLast?_eq_none_iff.mp e
      subst this
      rw [e] at hf
      have hf := Option.some.inj hf
      subst hf
      exact wh_stop (ev_cmp (ev_loc rfl) (ev_list evs_nil rfl) hne) (h S _ _ _ hC fun _ _ _ _ => rfl)
    · have hnl : left ≠ [] := by rintro rfl; exact none_some e
      rw [e] at hf
      dsimp only at hf
      have hne : cmpV .NotEq S (.loc lf) (.flist []) = some true := by
        rw [hne]
        rcases left with _ | ⟨x, y⟩
        · exact absurd rfl hnl
        · rfl
      rcases eK : atK beg n with _ | y
      · rw [eK] at hf; exact none_some hf
      · obtain ⟨K, rfl, gK⟩ := gB.v _ (atK_mem eK)
        rw [eK] at hf
        rcases ek : blk bs n with _ | k
        · rw [ek] at hf; exact none_some hf
        · rw [ek] at hf
          dsimp only at hf
          obtain ⟨t1, t2⟩ := (hbs n k ek).2.goals (K := trB (folF fol) k K)
          obtain ⟨i1, i2, i3⟩ := meets_in (gK.tr (hbs n k ek).1) (goalsK (trB (folF fol) k K) k.2) beg left.dropLast t2 (fun g hg => hr g (List.dropLast_subset _ hg)) gB
          refine wh_go (ev_cmp (ev_loc rfl) (ev_list evs_nil rfl) hne) (follow_turn E hm hC gB hbs hlf e hr (Nat.le_trans (Nat.le_add_right _ _) hl) eK ek fun S' p q r h1 h2 h3 => ?_)
          exact ih S' _ _ p q r h1 i1 h2 i2 (fol_fit hl List.length_dropLast (List.length_pos_iff.mpr hnl) t1 i3) hf fun S2 p q r j1 j2 => h S2 p q r j1 fun x hx1 hx2 hx3 => by
            have := h3 x hx1 hx2 hx3
            rw [j2 x hx1 hx2 (by rw [this]; exact hx3), this]
theorem follow_ok (E : Env0 B) {m : Nat} (hm : 9 ≤ m) {beg' : KV} (hC : CAt S c b fo bg bs fol beg) (gB : GoodB beg) (hbs : BlksOk bs) {f : Nat} (hf : f ≤ 10000) (hk : followK (folF fol) bs f beg [0] = some beg')
    (h : ∀ S', CAt S' c b fo bg bs fol beg' → KeepX bg S S' → Q .none S') : FnOk B m 350 [.loc c] S Q := by
  refine fnm (rest := ["left", "number", "block", "known"]) E (lv0 hm rfl) E.facts.f350 rfl (by decide +kernel) E.facts.b350 ?_
  refine q_newl (evs1 ev_const) rfl rfl fun lf l1 l2 => q_while f (follow_while (B := B) (lf := lf) E (lv hm rfl) hbs f _ beg [0] none none none (hC.cons l1) gB lk_head (fun g hg => by rw [List.mem_singleton.mp hg]; exact ⟨by decide, by decide⟩) (Nat.le_trans (Nat.add_le_add_left (Nat.mul_le_mul_left 2 hf) _) (by decide)) hk fun S' p q r j1 j2 => q_next (q_done (h S' j1 fun x hx1 hx2 => ?_)))
  have hxl : x ≠ lf := (by rintro rfl; rw [l1] at hx2; cases hx2)
  rw [j2 x hx1 hxl (by rw [lk_tail hxl]; exact hx2), lk_tail hxl]
end
end Lend
namespace Lend
noncomputable def lentS (acc : KV) : Stm → KV
  | .lend _ o => putK acc o (.bool true)
  | _ => acc
noncomputable def lentB (acc : KV) (b : Blk) : KV := b.1.foldl lentS acc
noncomputable def lentK (bs : List Blk) : KV := bs.foldl lentB []
theorem Good.lentS {acc : KV} (g : Good acc) {s : Stm} (h : StmOk s) : Good (lentS acc s) := by
  cases s with
  | lend w o => exact g.put h.2 rfl
  | _ => exact g
theorem Good.lentB {b : Blk} (hb : BlkOk b) {acc : KV} (g : Good acc) : Good (lentB acc b) := by
  obtain ⟨ss, t⟩ := b
  have hb' : ∀ s ∈ ss, StmOk s := hb
  clear hb
  unfold Lend.lentB
  dsimp only
  induction ss generalizing acc with
  | nil => exact g
  | cons s ss ih => exact ih (g.lentS (hb' s (.head _))) fun t ht => hb' t (.tail _ ht)
section
variable {B : Bs} {S : Store} {Q : CV → Store → Prop} {gd : Addr → Str → Option CV} {c b fo bg a ka lf : Addr} {bs : List Blk} {fol beg K here : KV}
noncomputable def lentBody : List RS := [(.ite (.and [(.cmp .Eq (.sub (.loc 4) (.const (.int 0))) (.const (.str (Str.ofString "assign")))), (.cmp .Eq (.sub (.sub (.loc 4) (.const (.int 2))) (.const (.int 0))) (.const (.str (Str.ofString "ref"))))]) [(.asg (.sub (.loc 1) (.sub (.sub (.sub (.loc 4) (.const (.int 2))) (.const (.int 3))) (.const (.int 0)))) (.const (.bool true)))] [])]
theorem lent_inner {m : Nat} {fd : Addr} {X Y Z : Option CV} {Kt : Fl → Rho → Store → Prop} {gg : Store → Prop} (hg : ∀ S, gg S) (ss : List Stm) (acc : KV) (p : Option CV) (hs : ∀ s ∈ ss, StmOk s) (g : Good acc) (h : ∀ p, Kt .next [X, some (.loc fd), Y, Z, p] ((fd, .dict (ss.foldl lentS acc)) :: S)) :
    forN (Gm B m) gg 4 lentBody (ss.map stmV) [X, some (.loc fd), Y, Z, p] ((fd, .dict acc) :: S) Kt := by
  induction ss generalizing acc p with
  | nil => exact for_nil (h p)
  | cons s ss ih =>
    have ih := ih (lentS acc s) (some (stmV s)) (fun t ht => hs t (.tail _ ht)) (g.lentS (hs s (.head _))) h
    have hok := hs s (.head _)
    clear h hs
    refine for_cons rfl ?_
    rcases s with ⟨l, s⟩ | ⟨w, o⟩ | ⟨w, l⟩ | l
    · exact q_if_f (ev_and (evb_on (ev_cmp (ev_i0 (ev_loc rfl) rfl) ev_const (cmp_eq _)) (evb_off (ev_cmp (ev_i0 (ev_i2 (ev_loc rfl) rfl) rfl) ev_const (cmp_ne (by decide)))))) (q_done ⟨hg _, ih⟩)
    · refine q_then (ev_and (evb_on (ev_cmp (ev_i0 (ev_loc rfl) rfl) ev_const (cmp_eq _)) (evb_on (ev_cmp (ev_i0 (ev_i2 (ev_loc rfl) rfl) rfl) ev_const (cmp_eq _)) evb_nil))) (q_setd ev_const (ev_loc rfl) (ev_i0 (ev_i3 (ev_i2 (ev_loc rfl) rfl) rfl) rfl) lk_head (Nat.le_trans g.len (by decide)) ?_)
      rw [up_head]
      exact q_done (q_next (q_done ⟨hg _, ih⟩))
    · exact q_if_f (ev_and (evb_off (ev_cmp (ev_i0 (ev_loc rfl) rfl) ev_const (cmp_ne (by rcases hok.1 with rfl | rfl <;> rfl))))) (q_done ⟨hg _, ih⟩)
    · exact q_if_f (ev_and (evb_off (ev_cmp (ev_i0 (ev_loc rfl) rfl) ev_const (cmp_ne (by decide))))) (q_done ⟨hg _, ih⟩)
theorem lent_outer {m : Nat} {fd : Addr} {X : Option CV} {Kt : Fl → Rho → Store → Prop} {gg : Store → Prop} (hg : ∀ S, gg S) (bs : List Blk) (acc : KV) (p q r : Option CV) (hs : ∀ b ∈ bs, BlkOk b) (g : Good acc) (h : ∀ p q r, Kt .next [X, some (.loc fd), p, q, r] ((fd, .dict (bs.foldl lentB acc)) :: S)) :
    forT (Gm B m) gg (.tup [2, 3]) [.for (.name 4) (.loc 2) lentBody] (bs.map blkV) [X, some (.loc fd), p, q, r] ((fd, .dict acc) :: S) Kt := by
  induction bs generalizing acc p q r with
  | nil => exact forT_nil (h p q r)
  | cons b bs ih =>
    exact forT_cons (t_tup (xs := [.flist (b.1.map stmV), trmV b.2]) rfl rfl) (q_for (xs := b.1.map stmV) (ev_loc rfl) rfl (lent_inner (by exact fun _ => trivial) b.1 acc _ (hs b (.head _)) g fun p => q_next (q_done ⟨hg _, ih _ _ _ _ (fun t ht => hs t (.tail _ ht)) (g.lentB (hs b (.head _))) h⟩)))
theorem attr_of {m : Nat} {x : Addr} {d : Addr} {at0 : List (Str × CV)} {n : Str} {C : Addr} {v : CV} (h : lk S x = some (.inst C d at0)) (hn : (Gm B m).atr C n = true) (hv : lookN at0 n = some v) (hc : isClean v = true) : getAttrV (Gm B m) S (.loc x) n = some v := by
  unfold getAttrV
  dsimp only
  rw [h]
  dsimp only
  rw [if_pos hn, hv]
  dsimp only
  rw [if_pos hc]
theorem look_blocks {bl : List CV} : lookN (lawBody bl) (Str.ofString "blocks") = some (.flist bl) := by simp [nth, lawBody, bodyAttrs, lookN, ofString_eq]
theorem look_locals {bl : List CV} : lookN (lawBody bl) (Str.ofString "locals") = some (.flist (lawTys.map localV)) := by simp [nth, lawBody, bodyAttrs, lookN, ofString_eq]
theorem at_blocks {m : Nat} : (Gm B m).atr 193 (Str.ofString "blocks") = true := by simp [at_body]
theorem at_locals {m : Nat} : (Gm B m).atr 193 (Str.ofString "locals") = true := by simp [at_body]
theorem lent_ok (E : Env0 B) {m : Nat} (hm : 3 ≤ m) (hB : ∃ d, lk S b = some (.inst 193 d (lawBody (bs.map blkV)))) (hs : ∀ b ∈ bs, BlkOk b) (h : Q (.fdict (lentK bs)) S) : FnOk B m 216 [.loc b] S Q := by
  refine fnm (rest := ["found", "statements", "terminator", "statement"]) E hm E.facts.f216 rfl (by decide +kernel) E.facts.b216 ?_
  obtain ⟨d, hb⟩ := hB
  refine q_newd evs_nil rfl fun fd l1 l2 => ?_
  have hne : b ≠ fd := ne_sn hb l1
  exact q_forT (xs := bs.map blkV) (ev_attr (ev_loc rfl) (attr_of (by rw [lk_tail hne]; exact hb) at_blocks look_blocks rfl)) rfl (lent_outer (by exact fun _ => trivial) bs [] none none none hs Good.nil fun p q r => q_next (q_freezeD rfl lk_head rm_head (q_ret (ev_loc rfl) h)))
end
end Lend
namespace Lend
noncomputable def folL (lent : KV) : Int → List Ty → KV → KV
  | _, [], acc => acc
  | a, t :: ts, acc => folL lent (a + 1) ts (if (tyF t && !(atK lent a).isSome) = true then putK acc a (.bool true) else acc)
noncomputable def folK (lent : KV) : KV := folL lent 0 lawTys []
section
variable {B : Bs} {S : Store} {Q : CV → Store → Prop} {gd : Addr → Str → Option CV} {c b fo bg a ka lf : Addr} {bs : List Blk} {fol beg K here : KV}
theorem gl_range : glF (Str.ofString "range") = some (.raw (.type "range")) := by kernel_rfl
theorem gl_is_followed : glF (Str.ofString "is_followed") = some (.raw (.ref 209)) := by kernel_rfl
theorem gl_lent_locals : glF (Str.ofString "lent_locals") = some (.raw (.ref 216)) := by kernel_rfl
theorem gl_Constants : glF (Str.ofString "Constants") = some (.raw (.ref 381)) := by kernel_rfl
noncomputable def folBody : List RS := [(.ite (.and [(.call false (.glob (Str.ofString "is_followed")) [(.sub (.sub (.attr (.loc 1) (Str.ofString "locals")) (.loc 3)) (.const (.int 0)))]), (.cmp .NotIn (.loc 3) (.loc 2))]) [(.asg (.sub (.attr (.loc 0) (Str.ofString "followed")) (.loc 3)) (.const (.bool true)))] [])]
theorem item_at {n : Nat} {t : Ty} (ht : lawTys[n]? = some t) : getItemV gd S (.flist (lawTys.map localV)) (.int (n : Int)) = some (localV t) := by
  have hn : n < 8 := by
    rcases Nat.lt_or_ge n lawTys.length with q | q
    · exact q
    · rw [List.getElem?_eq_none q] at ht; cases ht
  rw [item_fl (Nat.le_trans (Nat.le_of_lt hn) (by decide)), List.getElem?_map, ht]; rfl
theorem notin_dict {lent : KV} {n : Int} : cmpV .NotIn S (.int n) (.fdict lent) = some (!(atK lent n).isSome) := rfl
theorem fol_loop (E : Env0 B) {m : Nat} (hm : 3 ≤ m) {lent : KV} {d db : Addr} {at0 : List (Str × CV)} (hb : lk S b = some (.inst 193 db (lawBody (bs.map blkV)))) (hbc : b ≠ c) (hbf : b ≠ fo) (hcf : c ≠ fo) {Kt : Fl → Rho → Store → Prop} (hat : lookN at0 (Str.ofString "followed") = some (.loc fo)) {gg : Store → Prop} (hg : ∀ S, gg S) (ts : List Ty) (n : Nat) (acc : KV) (p : Option CV) (hd : lawTys.drop n = ts) (hl : acc.length ≤ n)
    (h : ∀ p, Kt .next [some (.loc c), some (.loc b), some (.fdict lent), p] ((fo, .dict (folL lent n ts acc)) :: (c, .inst 381 d at0) :: S)) :
    forN (Gm B m) gg 3 folBody (rangeL n ts.length) [some (.loc c), some (.loc b), some (.fdict lent), p] ((fo, .dict acc) :: (c, .inst 381 d at0) :: S) Kt := by
  induction ts generalizing n acc p with
  | nil => exact for_nil (h p)
  | cons t ts ih =>
    have hn : n < lawTys.length := by
      rcases Nat.lt_or_ge n lawTys.length with q | q
      · exact q
      · rw [List.drop_eq_nil_of_le q] at hd; cases hd
    have ht : lawTys[n]? = some t := by
      have := congrArg List.head? hd
      rw [List.head?_drop] at this
      exact this
    have ih := fun acc => ih (n + 1) acc (some (.int (n : Int))) (by rw [← List.drop_drop, hd]; rfl)
    have hs : acc.length ≤ small := Nat.le_trans hl (Nat.le_trans (Nat.le_of_lt hn) (by decide))
    have hc : Ev (Gm B m) (.and [(.call false (.glob (Str.ofString "is_followed")) [(.sub (.sub (.attr (.loc 1) (Str.ofString "locals")) (.loc 3)) (.const (.int 0)))]), (.cmp .NotIn (.loc 3) (.loc 2))]) [some (.loc c), some (.loc b), some (.fdict lent), some (.int n)] ((fo, .dict acc) :: (c, .inst 381 d at0) :: S) (.bool (tyF t && !(atK lent n).isSome)) :=
      ev_and (evb_and2 (ev_call gl_is_followed (evs1 (ev_i0 (ev_sub (ev_attr (ev_loc rfl) (attr_of (by rw [lk_tail hbf, lk_tail hbc]; exact hb) at_locals look_locals rfl)) (ev_loc rfl) (item_at ht)) rfl)) fun Q k => is_followed_ok E hm t k) fun _ => ev_cmp (ev_loc rfl) (ev_loc rfl) notin_dict)
    unfold folL at h
    refine for_cons rfl ?_
    cases q : (tyF t && !(atK lent n).isSome)
    · rw [q] at hc h
      rw [if_neg (by decide)] at h
      exact q_if_f hc (q_done ⟨hg _, ih acc (Nat.le_trans hl (Nat.le_succ _)) h⟩)
    · rw [q] at hc h
      rw [if_pos rfl] at h
      refine q_then hc (q_setd ev_const (ev_attr (ev_loc rfl) (attr_of (by rw [lk_tail hcf, lk_head]) at_con.2.1 hat rfl)) (ev_loc rfl) lk_head hs ?_)
      rw [up_head]
      exact q_done (q_next (q_done ⟨hg _, ih _ (Nat.le_trans put_len (Nat.succ_le_succ hl)) h⟩))
theorem put2 {x y : CV} : putN [(Str.ofString "body", x)] (Str.ofString "followed") y = [(Str.ofString "body", x), (Str.ofString "followed", y)] := by simp [putN, ofString_eq]
theorem put3 {x y z : CV} : putN [(Str.ofString "body", x), (Str.ofString "followed", y)] (Str.ofString "begins") z = [(Str.ofString "body", x), (Str.ofString "followed", y), (Str.ofString "begins", z)] := by simp [putN, ofString_eq]
theorem look2 {x y : CV} : lookN [(Str.ofString "body", x), (Str.ofString "followed", y)] (Str.ofString "followed") = some y := by simp [lookN, ofString_eq]
theorem con_init (E : Env0 B) {m : Nat} (hm : 4 ≤ m) {d : Addr} (hB : ∃ d, lk S b = some (.inst 193 d (lawBody (bs.map blkV)))) (hs : ∀ b ∈ bs, BlkOk b) (hc : lk S c = none)
    (h : ∀ fo bg, lk S fo = none → lk S bg = none → c ≠ fo → c ≠ bg → fo ≠ bg → Q .none ((bg, .dict [(0, .fdict [])]) :: (fo, .dict (folK (lentK bs))) :: (c, .inst 381 d (conAttrs b fo bg)) :: S)) :
    FnOk B m 279 [.loc c, .loc b] ((c, .inst 381 d []) :: S) Q := by
  refine fnm (rest := ["lent", "local"]) E (lv0 hm rfl) E.facts.f279 rfl (by decide +kernel) E.facts.b279 ?_
  obtain ⟨db, hb⟩ := hB
  have hbc : b ≠ c := by rintro rfl; rw [hb] at hc; cases hc
  obtain ⟨a1, a2, a3⟩ := at_con (B := B) (m := m - 1)
  refine q_asgr (w_ev (ev_loc rfl) (a_seta (ev_loc rfl) lk_head a1 rfl up_head (q_asg (ev_call gl_lent_locals (evs1 (ev_loc rfl)) fun Q k => lent_ok E (lv hm rfl) (bs := bs) ⟨db, by rw [lk_tail hbc]; exact hb⟩ hs k) rfl (q_asgr (w_newd0 fun fo f1 f2 => ?_)))))
  have hcf : c ≠ fo := by rintro rfl; rw [lk_head] at f1; cases f1
  have hfo : lk S fo = none := by rw [lk_tail fun e => hcf e.symm] at f1; exact f1
  have hbf : b ≠ fo := by rintro rfl; rw [hb] at hfo; cases hfo
  refine a_seta (S' := (fo, CO.dict []) :: (c, CO.inst 381 d [(Str.ofString "body", .loc b), (Str.ofString "followed", .loc fo)]) :: S) (ev_loc rfl) (by rw [lk_tail hcf]; exact lk_head) a2 rfl (by rw [up_tail hcf]; exact (congrArg _ up_head).trans (congrArg (fun z => (fo, CO.dict []) :: (c, CO.inst 381 d z) :: S) put2)) ?_
  refine q_for (ev_type gl_range (evs1 (ev_len (ev_attr (ev_loc rfl) (attr_of (by rw [lk_tail hbf, lk_tail hbc]; exact hb) at_locals look_locals rfl)) (n := 8) rfl (by decide))) (v := .rng 0 8) fun _ k => tc_rng (by decide) (by decide) k) (range_n (n := 8) (by decide) (by decide)) (fol_loop (B := B) E (m := m - 1) (lv hm rfl) (lent := lentK bs) (d := d) (bs := bs) hb hbc hbf hcf look2 (by exact fun _ => trivial) lawTys 0 [] none rfl (Nat.le_refl _) fun p => ?_)
  refine q_next (q_asgr (w_newd (evs1 (ev_dict evs_nil)) fun bg g1 g2 => ?_))
  have hbgf : bg ≠ fo := by rintro rfl; rw [lk_head] at g1; cases g1
  have hbgc : bg ≠ c := by rintro rfl; rw [lk_tail hcf, lk_head] at g1; cases g1
  have hbg : lk S bg = none := by rw [lk_tail hbgf, lk_tail hbgc] at g1; exact g1
  have n1 : c ≠ bg := fun e => hbgc e.symm
  refine a_seta (S' := (bg, CO.dict [(0, .fdict [])]) :: (fo, CO.dict (folK (lentK bs))) :: (c, CO.inst 381 d (conAttrs b fo bg)) :: S) (ev_loc rfl) (by rw [lk_tail n1, lk_tail hcf]; exact lk_head) a3 rfl (by rw [up_tail n1, up_tail hcf, up_head, put3]; rfl) (q_done ?_)
  exact h fo bg hfo hbg hcf n1 fun e => hbgf e.symm
theorem con_new (E : Env0 B) {m : Nat} (hm : 5 ≤ m) (hB : ∃ d, lk S b = some (.inst 193 d (lawBody (bs.map blkV)))) (hs : ∀ b ∈ bs, BlkOk b)
    (h : ∀ c fo bg S', CAt S' c b fo bg bs (folK (lentK bs)) [(0, .fdict [])] → (∀ x, (lk S x).isSome = true → lk S' x = lk S x) → lk S bg = none → Q (.loc c) S') : FnOk B m 381 [.loc b] S Q := by
  refine cls_of (init := 279) E (by first | exact lv hm rfl | exact lv0 hm rfl | omega) E.facts.c381 fun c d h1 h2 => ?_
  refine con_init E (by first | exact lv hm rfl | exact lv0 hm rfl | omega) hB hs h1 fun fo bg f1 g1 n1 n2 n3 => ⟨rfl, ?_⟩
  obtain ⟨db, hb⟩ := hB
  have hbc : b ≠ c := by rintro rfl; rw [hb] at h1; cases h1
  have hbf : b ≠ fo := by rintro rfl; rw [hb] at f1; cases f1
  have hbg : b ≠ bg := by rintro rfl; rw [hb] at g1; cases g1
  have n4 : ¬ fo = c := fun e => n1 e.symm
  refine h c fo bg _ ⟨⟨d, by simp [nth, lk, n1, n2]⟩, ⟨db, by simp [nth, lk, hbc, hbf, hbg, hb]⟩, by simp [nth, lk, n3], by simp [nth, lk], n3⟩ (fun x hx => ?_) g1
  have x1 : x ≠ c := by rintro rfl; rw [h1] at hx; cases hx
  have x2 : x ≠ fo := by rintro rfl; rw [f1] at hx; cases hx
  have x3 : x ≠ bg := by rintro rfl; rw [g1] at hx; cases hx
  simp [nth, lk, x1, x2, x3]
end
end Lend
namespace Lend
section
variable {B : Bs} {S : Store} {Q : CV → Store → Prop} {gd : Addr → Str → Option CV} {c b fo bg a ka lf : Addr} {bs : List Blk} {fol beg K here : KV}
theorem type_const (E : Env0 B) {m : Nat} (hm : 3 ≤ m) {x t v : CV} (h : Q t S) : FnOk B m 286 [x, .tup [.str (Str.ofString "const"), t, v]] S Q :=
  fnm (rest := ["local", "projections", "t", "projection"]) E hm E.facts.f286 rfl (by decide +kernel) E.facts.b286 (q_if_ret (ev_cmp (ev_i0 (ev_loc rfl) rfl) ev_const (cmp_eq _)) (ev_i1 (ev_loc rfl) rfl) h)
theorem type_local (E : Env0 B) {m : Nat} (hm : 3 ≤ m) (hC : CAt S c b fo bg bs fol beg) {w : String} (hw : w ≠ "const") {n : Nat} {t : Ty} (ht : lawTys[n]? = some t) (h : Q (tyV t) S) : FnOk B m 286 [.loc c, .tup [.str (Str.ofString w), placeV n []]] S Q :=
  fnm (rest := ["local", "projections", "t", "projection"]) E hm E.facts.f286 rfl (by decide +kernel) E.facts.b286 (q_if_f (ev_cmp (ev_i0 (ev_loc rfl) rfl) ev_const (cmp_ne (decide_eq_false hw))) (q_tup (ev_i1 (ev_loc rfl) rfl) (xs := [.int n, .tup []]) rfl rfl (q_asg (ev_i0 (ev_sub (ev_attr (ev_attr (ev_loc rfl) (attr_body hC)) (attr_locals hC)) (ev_loc rfl) (item_at ht)) rfl) rfl
    (q_for (xs := []) (ev_loc rfl) rfl (for_nil (q_next (q_ret (ev_loc rfl) h)))))))
theorem type_pair (E : Env0 B) {m : Nat} (hm : 3 ≤ m) (hC : CAt S c b fo bg bs fol beg) {w : String} (hw : w ≠ "const") (h : Q (tyV .u8) S) : FnOk B m 286 [.loc c, .tup [.str (Str.ofString w), placeV 5 [.field 0]]] S Q :=
  fnm (rest := ["local", "projections", "t", "projection"]) E hm E.facts.f286 rfl (by decide +kernel) E.facts.b286 (q_if_f (ev_cmp (ev_i0 (ev_loc rfl) rfl) ev_const (cmp_ne (decide_eq_false hw))) (q_tup (ev_i1 (ev_loc rfl) rfl) (xs := [.int 5, .tup [stepV (.field 0)]]) rfl rfl (q_asg (ev_i0 (ev_sub (ev_attr (ev_attr (ev_loc rfl) (attr_body hC)) (attr_locals hC)) (ev_loc rfl) (item_at (n := 5) (t := .pair) rfl)) rfl) rfl
    (q_for (xs := [stepV (.field 0)]) (ev_loc rfl) rfl (for_cons rfl (q_if_f (ev_or (evb_on (ev_cmp (ev_i0 (ev_loc rfl) rfl) ev_const (ncmp_eq _)) (evb_on (ev_cmp (ev_i0 (ev_loc rfl) rfl) ev_const (ncmp_eq _)) evb_nil))) (q_asg (ev_sub (ev_i1 (ev_loc rfl) rfl) (ev_i1 (ev_loc rfl) rfl) item_tup0) rfl (q_done ⟨trivial, for_nil (q_next (q_ret (ev_loc rfl) h))⟩))))))))
structure Opd (B : Bs) (K : KV) (o t r : CV) : Prop where
  at' : ∀ {m : Nat} {S : Store} {Q : CV → Store → Prop} {a ka : Addr}, 4 ≤ m → FactsAt S a ka K → Q r S → FnOk B m 244 [.loc a, o] S Q
  ty : ∀ {m : Nat} {S : Store} {Q : CV → Store → Prop} {c b fo bg : Addr} {bs : List Blk} {fol beg : KV}, 3 ≤ m → CAt S c b fo bg bs fol beg → Q t S → FnOk B m 286 [.loc c, o] S Q
  law : ∀ {m : Nat} {S : Store} {Q : CV → Store → Prop}, 4 ≤ m → Q r S → FnOk B m 432 [.fdict K, o] S Q
noncomputable def optI : Option Int → CV
  | some i => .int i
  | none => .none
noncomputable def optB : Option Bool → CV
  | some i => .bool i
  | none => .none
theorem gl_reckoned : glF (Str.ofString "reckoned_binary") = some (.raw (.ref 265)) := by kernel_rfl
theorem u8_plain : cmpV .NotIn S (.str (Str.ofString "int")) (strT ["int", "bool"]) = some false := by
  rw [show ∀ S a b, cmpV .NotIn S a b = (inW S a b).map (!·) from fun _ _ _ => rfl, in_PLAIN]; rfl
theorem two_head (E : Env0 B) {m : Nat} (hm : 4 ≤ m) (hC : CAt S c b fo bg bs fol beg) (hF : FactsAt S a ka K) {o1 o2 t2 : CV} {v1 v2 : CV} (h1 : Opd B K o1 (tyV .u8) v1) (h2 : Opd B K o2 t2 v2) {w op : String} {rest : List RS} {Kt : Fl → Rho → Store → Prop}
    (k : wpSs (Gm B m) rest [some (.loc c), some (.tup [.str (Str.ofString w), .str (Str.ofString op), o1, o2]), some (.loc a), some (.str (Str.ofString w)), some (.str (Str.ofString op)), some o1, some o2, some v1, some v2, some (tyV .u8), none] S Kt) :
    wpSs (Gm B m) (r298.take 2 ++ rest) [some (.loc c), some (.tup [.str (Str.ofString w), .str (Str.ofString op), o1, o2]), some (.loc a), none, none, none, none, none, none, none, none] S Kt := by
  have kf := kind_facts (B := B) (m := m) hF (nm := "at_operand") (by decide) mt_at_operand
  have kc := kind_con (B := B) (m := m) hC (nm := "type_of") (by decide) mt_type_of
  exact q_tup (ev_loc rfl) (xs := [.str (Str.ofString w), .str (Str.ofString op), o1, o2]) rfl rfl
    (q_swap (ev_tup (evs3 (ev_meth (ev_loc rfl) kf (evs1 (ev_loc rfl)) fun Q k => by rw [meth_facts hF mt_at_operand]; exact h1.at' hm hF k) (ev_meth (ev_loc rfl) kf (evs1 (ev_loc rfl)) fun Q k => by rw [meth_facts hF mt_at_operand]; exact h2.at' hm hF k)
      (ev_meth (ev_loc rfl) kc (evs1 (ev_loc rfl)) fun Q k => by rw [meth_con hC mt_type_of]; exact h1.ty (Nat.le_of_succ_le hm) hC k)) rfl) (xs := [v1, v2, tyV .u8]) rfl rfl k)
theorem two_bin (E : Env0 B) {m : Nat} (hm : 5 ≤ m) (hC : CAt S c b fo bg bs fol beg) (hF : FactsAt S a ka K) {o1 o2 t2 : CV} {r1 r2 : Option Int} (h1 : Opd B K o1 (tyV .u8) (optI r1)) (h2 : Opd B K o2 t2 (optI r2)) {op : String}
    (h : match r1, r2 with | some x, some y => FnOk B (m - 1) 265 [.str (Str.ofString op), tyV .u8, .int x, .int y] S Q | _, _ => Q .none S) : FnOk B m 298 [.loc c, .tup [.str (Str.ofString "binary"), .str (Str.ofString op), o1, o2], .loc a] S Q := by
  refine fnm (rest := ["kind", "op", "left", "right", "a", "b", "t", "told"]) E (lv0 hm rfl) E.facts.f298 rfl (by decide +kernel) E.facts.b298 ?_
  refine two_head E (lv hm rfl) hC hF h1 h2 (rest := r298.drop 2) ?_
  rcases r1 with _ | x
  · exact q_if_ret (ev_or (evb_off (ev_cmp (ev_loc rfl) ev_const rfl))) ev_const h
  · rcases r2 with _ | y
    · exact q_if_ret (ev_or (evb_on (ev_cmp (ev_loc rfl) ev_const rfl) (evb_off (ev_cmp (ev_loc rfl) ev_const rfl)))) ev_const h
    · exact q_if_f (ev_or (evb_on (ev_cmp (ev_loc rfl) ev_const rfl) (evb_on (ev_cmp (ev_loc rfl) ev_const rfl) (evb_on (ev_cmp (ev_loc rfl) ev_const rfl) (evb_on (ev_cmp (ev_i0 (ev_loc rfl) rfl) (ev_gl gl_PLAIN) u8_plain) evb_nil)))))
        (q_if_t (ev_cmp (ev_loc rfl) ev_const (cmp_eq _)) (q_retw (wp_call (ev_gl gl_reckoned) (evs4 (ev_loc rfl) (ev_loc rfl) (ev_loc rfl) (ev_loc rfl)) h)))
theorem two_chk (E : Env0 B) {m : Nat} (hm : 7 ≤ m) (hC : CAt S c b fo bg bs fol beg) (hF : FactsAt S a ka K) {o1 o2 t2 : CV} {r1 r2 : Option Int} (h1 : Opd B K o1 (tyV .u8) (optI r1)) (h2 : Opd B K o2 t2 (optI r2))
    (h : match r1, r2 with | some x, some y => Q (.tup [.int ((x + y) % 256), .bool (!decide (0 ≤ x + y ∧ x + y ≤ 255))]) S | _, _ => Q .none S) : FnOk B m 298 [.loc c, .tup [.str (Str.ofString "checked"), .str (Str.ofString "+"), o1, o2], .loc a] S Q := by
  refine fnm (rest := ["kind", "op", "left", "right", "a", "b", "t", "told"]) E (lv0 hm rfl) E.facts.f298 rfl (by decide +kernel) E.facts.b298 ?_
  refine two_head E (lv hm rfl) hC hF h1 h2 (rest := r298.drop 2) ?_
  rcases r1 with _ | x
  · exact q_if_ret (ev_or (evb_off (ev_cmp (ev_loc rfl) ev_const rfl))) ev_const h
  · rcases r2 with _ | y
    · exact q_if_ret (ev_or (evb_on (ev_cmp (ev_loc rfl) ev_const rfl) (evb_off (ev_cmp (ev_loc rfl) ev_const rfl)))) ev_const h
    · exact q_if_f (ev_or (evb_on (ev_cmp (ev_loc rfl) ev_const rfl) (evb_on (ev_cmp (ev_loc rfl) ev_const rfl) (evb_on (ev_cmp (ev_loc rfl) ev_const rfl) (evb_on (ev_cmp (ev_i0 (ev_loc rfl) rfl) (ev_gl gl_PLAIN) u8_plain) evb_nil)))))
        (q_if_f (ev_cmp (ev_loc rfl) ev_const (cmp_ne (by decide))) (q_asg (ev_call gl_checked (evs4 (ev_i1 (ev_loc rfl) rfl) (ev_loc rfl) (ev_loc rfl) (ev_loc rfl)) fun Q k => checked_add E (lv hm rfl) k) rfl
        (q_ret (ev_ite_f (ev_cmp (ev_i0 (ev_loc rfl) rfl) ev_const rfl) (ev_loc rfl)) h)))
end
end Lend
namespace Lend
section
variable {B : Bs} {S : Store} {Q : CV → Store → Prop} {gd : Addr → Str → Option CV} {c b fo bg a ka lf : Addr} {bs : List Blk} {fol beg K here : KV}
theorem one_head (E : Env0 B) {m : Nat} (hm : 5 ≤ m) (hC : CAt S c b fo bg bs fol beg) (hF : FactsAt S a ka K) {o v : CV} {t : Ty} (h1 : Opd B K o (tyV t) v) {w z : String} {rest : List RS} {Kt : Fl → Rho → Store → Prop}
    (k : wpSs (Gm B (m - 1)) rest [some (.loc c), some (.tup [.str (Str.ofString w), .str (Str.ofString z), o]), some (.loc a), some v, some (tyV t)] S Kt) :
    wpSs (Gm B (m - 1)) (r305.take 1 ++ rest) [some (.loc c), some (.tup [.str (Str.ofString w), .str (Str.ofString z), o]), some (.loc a), none, none] S Kt :=
  q_swap (ev_tup (evs2 (ev_meth (ev_loc rfl) (kind_facts hF (nm := "at_operand") (by decide) mt_at_operand) (evs1 (ev_i2 (ev_loc rfl) rfl)) fun Q k => m_facts hF mt_at_operand (h1.at' (lv hm rfl) hF k)) (ev_meth (ev_loc rfl) (kind_con hC (nm := "type_of") (by decide) mt_type_of) (evs1 (ev_i2 (ev_loc rfl) rfl)) fun Q k => m_con hC mt_type_of (h1.ty (lv hm rfl) hC k))) rfl) (xs := [v, tyV t]) rfl rfl k
theorem one_not (E : Env0 B) {m : Nat} (hm : 5 ≤ m) (hC : CAt S c b fo bg bs fol beg) (hF : FactsAt S a ka K) {o : CV} {r : Option Bool} (h1 : Opd B K o (tyV .bool) (optB r)) {w : String} (h : Q (optB (r.map (!·))) S) :
    FnOk B m 305 [.loc c, .tup [.str (Str.ofString w), .str (Str.ofString "!"), o], .loc a] S Q := by
  refine fnm (rest := ["a", "t"]) E (lv0 hm rfl) E.facts.f305 rfl (by decide +kernel) E.facts.b305 ?_
  refine one_head E hm hC hF h1 (rest := r305.drop 1) ?_
  rcases r with _ | x
  · exact q_if_ret (ev_or (evb_off (ev_cmp (ev_loc rfl) ev_const rfl))) ev_const h
  · exact q_if_f (ev_or (evb_on (ev_cmp (ev_loc rfl) ev_const rfl) (evb_on (ev_cmp (ev_loc rfl) ev_const rfl) evb_nil))) (q_if_ret (ev_cmp (ev_i1 (ev_loc rfl) rfl) ev_const (cmp_eq _)) (ev_ite_t (ev_cmp (ev_i0 (ev_loc rfl) rfl) ev_const (cmp_eq _)) (ev_not (ev_loc rfl))) h)
theorem one_neg (E : Env0 B) {m : Nat} (hm : 6 ≤ m) (hC : CAt S c b fo bg bs fol beg) (hF : FactsAt S a ka K) {o : CV} {r : Option Int} (h1 : Opd B K o (tyV .u8) (optI r)) {w : String} (h : Q (optI (r.map fun x => (0 - x) % 256)) S) :
    FnOk B m 305 [.loc c, .tup [.str (Str.ofString w), .str (Str.ofString "-"), o], .loc a] S Q := by
  refine fnm (rest := ["a", "t"]) E (lv0 hm rfl) E.facts.f305 rfl (by decide +kernel) E.facts.b305 ?_
  refine one_head E (lv0 hm rfl) hC hF h1 (rest := r305.drop 1) ?_
  rcases r with _ | x
  · exact q_if_ret (ev_or (evb_off (ev_cmp (ev_loc rfl) ev_const rfl))) ev_const h
  · exact q_if_f (ev_or (evb_on (ev_cmp (ev_loc rfl) ev_const rfl) (evb_on (ev_cmp (ev_loc rfl) ev_const rfl) evb_nil))) (q_if_f (ev_cmp (ev_i1 (ev_loc rfl) rfl) ev_const (cmp_ne (by decide)))
      (q_ret (ev_call gl_wrapped (evs2 (ev_i1 (ev_loc rfl) rfl) (ev_minus ev_const (ev_loc rfl))) fun Q k => wrapped_u8 E (lv hm rfl) k) h))
theorem cast_head (E : Env0 B) {m : Nat} (hm : 5 ≤ m) (hF : FactsAt S a ka K) {x o t v : CV} (h1 : Opd B K o t v) {w : String} {y : CV} {rest : List RS} {Kt : Fl → Rho → Store → Prop}
    (k : wpSs (Gm B (m - 1)) rest [some x, some (.tup [.str (Str.ofString w), o, y]), some (.loc a), some v] S Kt) :
    wpSs (Gm B (m - 1)) (r312.take 1 ++ rest) [some x, some (.tup [.str (Str.ofString w), o, y]), some (.loc a), none] S Kt :=
  q_asg (ev_meth (ev_loc rfl) (kind_facts hF (nm := "at_operand") (by decide) mt_at_operand) (evs1 (ev_i1 (ev_loc rfl) rfl)) fun Q k => m_facts hF mt_at_operand (h1.at' (lv hm rfl) hF k)) rfl k
theorem cast_int_i8 (E : Env0 B) {m : Nat} (hm : 7 ≤ m) (hF : FactsAt S a ka K) {x o t : CV} {r : Option Int} (h1 : Opd B K o t (optI r)) {w : String} (h : Q (optI (r.map fun x => (x + 128) % 256 - 128)) S) :
    FnOk B m 312 [x, .tup [.str (Str.ofString w), o, .tup [.str (Str.ofString "int"), .str (Str.ofString "i8")]], .loc a] S Q := by
  refine fnm (rest := ["a"]) E (lv0 hm rfl) E.facts.f312 rfl (by decide +kernel) E.facts.b312 ?_
  refine cast_head E (lv0 hm rfl) hF h1 (rest := r312.drop 1) ?_
  rcases r with _ | x
  · exact q_if_ret (ev_or (evb_off (ev_cmp (ev_loc rfl) ev_const rfl))) ev_const h
  · exact q_if_f (ev_or (evb_on (ev_cmp (ev_loc rfl) ev_const rfl) (evb_on (ev_cmp (ev_i0 (ev_i2 (ev_loc rfl) rfl) rfl) ev_const (ncmp_eq _)) evb_nil)))
      (q_ret (ev_call gl_cast_int (evs2 (ev_i1 (ev_i2 (ev_loc rfl) rfl) rfl) (ev_type gl_int (evs1 (ev_loc rfl)) (v := .int x) fun _ k => k)) fun Q k => cast_i8 E (lv hm rfl) k) h)
theorem cast_bool_u8 (E : Env0 B) {m : Nat} (hm : 7 ≤ m) (hF : FactsAt S a ka K) {x o t : CV} {r : Option Bool} (h1 : Opd B K o t (optB r)) {w : String} (h : Q (optI (r.map fun x => if x = true then 1 else 0)) S) :
    FnOk B m 312 [x, .tup [.str (Str.ofString w), o, .tup [.str (Str.ofString "int"), .str (Str.ofString "u8")]], .loc a] S Q := by
  refine fnm (rest := ["a"]) E (lv0 hm rfl) E.facts.f312 rfl (by decide +kernel) E.facts.b312 ?_
  refine cast_head E (lv0 hm rfl) hF h1 (rest := r312.drop 1) ?_
  rcases r with _ | z
  · exact q_if_ret (ev_or (evb_off (ev_cmp (ev_loc rfl) ev_const rfl))) ev_const h
  · have h : Q (.int ((if z = true then 1 else 0) % 256)) S := by cases z <;> exact h
    exact q_if_f (ev_or (evb_on (ev_cmp (ev_loc rfl) ev_const rfl) (evb_on (ev_cmp (ev_i0 (ev_i2 (ev_loc rfl) rfl) rfl) ev_const (ncmp_eq _)) evb_nil)))
      (q_ret (ev_call gl_cast_int (evs2 (ev_i1 (ev_i2 (ev_loc rfl) rfl) rfl) (ev_type gl_int (evs1 (ev_loc rfl)) (v := .int (if z = true then 1 else 0)) fun _ k => k)) fun Q k => cast_u8 E (lv hm rfl) k) h)
section
variable {m : Nat} {x f : CV} {w : String} {tr : List CV} {Kt : Fl → Rho → Store → Prop}
theorem val_head (h1 : decide (w = "use") = false) (h2 : decide (w = "tuple") = false) (k : wpSs (Gm B m) (r291.drop 3) [some x, some (.tup (.str (Str.ofString w) :: tr)), some f, some (.str (Str.ofString w)), none] S Kt) : wpSs (Gm B m) r291 [some x, some (.tup (.str (Str.ofString w) :: tr)), some f, none, none] S Kt :=
  q_asg (ev_i0 (ev_loc rfl) rfl) rfl (q_if_f (ev_cmp (ev_loc rfl) ev_const (cmp_ne h1)) (q_if_f (ev_cmp (ev_loc rfl) ev_const (cmp_ne h2)) k))
theorem in_two (w : String) : cmpV .In S (.str (Str.ofString w)) (.tup [.str (Str.ofString "binary"), .str (Str.ofString "checked")]) = some (decide (w = "binary" ∨ w = "checked")) := in_word2 w _ _
end
theorem value_binary (E : Env0 B) {m : Nat} (hm : 3 ≤ m) (hC : CAt S c b fo bg bs fol beg) {f : CV} {w : String} (hw : w = "binary" ∨ w = "checked") {tr : List CV} (h : FnOk B (m - 1) 298 [.loc c, .tup (.str (Str.ofString w) :: tr), f] S Q) :
    FnOk B m 291 [.loc c, .tup (.str (Str.ofString w) :: tr), f] S Q := by
  refine fnm (rest := ["kind", "told"]) E (lv0 hm rfl) E.facts.f291 rfl (by decide +kernel) E.facts.b291 ?_
  have hi := in_two (S := S) w
  rw [decide_eq_true hw] at hi
  exact val_head (by rcases hw with rfl | rfl <;> rfl) (by rcases hw with rfl | rfl <;> rfl) (q_then (ev_cmp (ev_loc rfl) (ev_tup (evs2 ev_const ev_const) rfl) hi) (q_retw (wp_meth (ev_loc rfl) (kind_con hC (nm := "of_two") (by decide) mt_of_two) (evs2 (ev_loc rfl) (ev_loc rfl)) (m_con hC mt_of_two h))))
theorem value_unary (E : Env0 B) {m : Nat} (hm : 3 ≤ m) (hC : CAt S c b fo bg bs fol beg) {f : CV} {tr : List CV} (h : FnOk B (m - 1) 305 [.loc c, .tup (.str (Str.ofString "unary") :: tr), f] S Q) :
    FnOk B m 291 [.loc c, .tup (.str (Str.ofString "unary") :: tr), f] S Q := by
  refine fnm (rest := ["kind", "told"]) E (lv0 hm rfl) E.facts.f291 rfl (by decide +kernel) E.facts.b291 ?_
  exact val_head rfl rfl (q_if_f (ev_cmp (ev_loc rfl) (ev_tup (evs2 ev_const ev_const) rfl) (in_two _)) (q_then (ev_cmp (ev_loc rfl) ev_const (cmp_eq _)) (q_retw (wp_meth (ev_loc rfl) (kind_con hC (nm := "of_one") (by decide) mt_of_one) (evs2 (ev_loc rfl) (ev_loc rfl)) (m_con hC mt_of_one h)))))
theorem value_cast (E : Env0 B) {m : Nat} (hm : 3 ≤ m) (hC : CAt S c b fo bg bs fol beg) {f : CV} {tr : List CV} (h : FnOk B (m - 1) 312 [.loc c, .tup (.str (Str.ofString "cast") :: tr), f] S Q) :
    FnOk B m 291 [.loc c, .tup (.str (Str.ofString "cast") :: tr), f] S Q := by
  refine fnm (rest := ["kind", "told"]) E (lv0 hm rfl) E.facts.f291 rfl (by decide +kernel) E.facts.b291 ?_
  exact val_head rfl rfl (q_if_f (ev_cmp (ev_loc rfl) (ev_tup (evs2 ev_const ev_const) rfl) (in_two _)) (q_if_f (ev_cmp (ev_loc rfl) ev_const (cmp_ne (by decide))) (q_then (ev_cmp (ev_loc rfl) ev_const (cmp_eq _)) (q_retw (wp_meth (ev_loc rfl) (kind_con hC (nm := "of_cast") (by decide) mt_of_cast) (evs2 (ev_loc rfl) (ev_loc rfl)) (m_con hC mt_of_cast h))))))
theorem gl_tuple : glF (Str.ofString "tuple") = some (.raw (.type "tuple")) := by kernel_rfl
theorem tc_tuple {own : Bool} {x : CV} {xs : List CV} (hx : view S x = .flist xs) (hl : xs.length ≤ small) (h : Q (.tup xs) S) : typeCallW own "tuple" [x] S Q := by
  unfold typeCallW
  rw [if_neg (by decide), if_neg (by decide), if_neg (by decide), if_neg (by decide), if_pos rfl]
  dsimp only
  rw [hx]; exact ⟨hl, h⟩
theorem value_tup (E : Env0 B) {m : Nat} (hm : 3 ≤ m) {x f : CV} {os vs : List CV} {n : Bool} (hl : Nat.ble vs.length small = true) (hv : Ev (Gm B (m - 1)) (.lcomp 2 (.meth false (.loc 4) (Str.ofString "at_operand") [(.loc 1)]) (.sub (.loc 1) (.const (.int 1))) (.name 1) [] []) [some x, some (.tup [.str (Str.ofString "tuple"), .tup os]), some f, some (.str (Str.ofString "tuple")), none] S (.flist vs))
    (hn : cmpV .In S .none (.flist vs) = some n) (h : Q (if n = true then .none else .tup vs) S) : FnOk B m 291 [x, .tup [.str (Str.ofString "tuple"), .tup os], f] S Q := by
  refine fnm (rest := ["kind", "told"]) E hm E.facts.f291 rfl (by decide +kernel) E.facts.b291 ?_
  refine q_asg (ev_i0 (ev_loc rfl) rfl) rfl (q_if_f (ev_cmp (ev_loc rfl) ev_const (cmp_ne (by decide))) (q_then (ev_cmp (ev_loc rfl) ev_const (cmp_eq _)) (q_asg hv rfl ?_)))
  cases n
  · exact q_ret (ev_ite_f (ev_cmp ev_const (ev_loc rfl) hn) (ev_type gl_tuple (evs1 (ev_loc rfl)) (v := .tup vs) fun _ k => tc_tuple rfl (Nat.le_of_ble_eq_true hl) k)) h
  · exact q_ret (ev_ite_t (ev_cmp ev_const (ev_loc rfl) hn) ev_const) h
theorem value_tup0 (E : Env0 B) {m : Nat} (hm : 3 ≤ m) {x f : CV} (h : Q (.tup []) S) : FnOk B m 291 [x, .tup [.str (Str.ofString "tuple"), .tup []], f] S Q :=
  value_tup E hm (n := false) (vs := []) rfl (ev_lcomp (ev_i1 (ev_loc rfl) rfl) rfl rfl c_nil rfl) (by kernel_rfl) h
theorem value_tup2 (E : Env0 B) {m : Nat} (hm : 5 ≤ m) (hF : FactsAt S a ka K) {x o1 o2 t1 t2 : CV} {r1 : Option Int} {r2 : Option Bool} (h1 : Opd B K o1 t1 (optI r1)) (h2 : Opd B K o2 t2 (optB r2))
    (h : match r1, r2 with | some x, some y => Q (.tup [.int x, .bool y]) S | _, _ => Q .none S) : FnOk B m 291 [x, .tup [.str (Str.ofString "tuple"), .tup [o1, o2]], .loc a] S Q := by
  have kf := kind_facts (B := B) (m := m - 1) hF (nm := "at_operand") (by decide) mt_at_operand
  have hin : cmpV .In S .none (.flist [optI r1, optB r2]) = some (r1.isNone || r2.isNone) := by
    cases r1 <;> cases r2 <;> rfl
  refine value_tup E (lv0 hm rfl) rfl (ev_lcomp (ev_i1 (ev_loc rfl) rfl) (items := [o1, o2]) rfl rfl
    (c_on (t_name rfl) ts_nil (ev_meth (ev_loc rfl) kf (evs1 (ev_loc rfl)) fun Q k => m_facts hF mt_at_operand (h1.at' (lv hm rfl) hF k)) (c_on (t_name rfl) ts_nil (ev_meth (ev_loc rfl) kf (evs1 (ev_loc rfl)) fun Q k => m_facts hF mt_at_operand (h2.at' (lv hm rfl) hF k)) c_nil)) rfl) hin ?_
  rcases r1 with _ | x
  · exact h
  · rcases r2 with _ | y <;> exact h
end
end Lend
namespace Lend
section
variable {B : Bs} {S : Store} {Q : CV → Store → Prop} {gd : Addr → Str → Option CV} {c b fo bg a ka lf src : Addr} {bs : List Blk} {fol beg K here : KV}
theorem opd_local (E : Env0 B) {w : String} (hw : w ≠ "const") {n : Nat} {t : Ty} (ht : lawTys[n]? = some t) {r : CV} (hr : (atK K n).getD .none = r) : Opd B K (.tup [.str (Str.ofString w), placeV n []]) (tyV t) r where
  at' := fun hm hF h => at_copy E hm hw hF (congrArg some hr) h
  ty := fun hm hC h => type_local E hm hC hw ht h
  law := fun {m S Q} hm h => law_of_copy E hm hw (r := atK K n) rfl (by rw [hr]; exact h)
theorem opd_const (E : Env0 B) {v : CV} : Opd B K (.tup [.str (Str.ofString "const"), tyV .u8, v]) (tyV .u8) v where
  at' := fun hm hF h => at_const E (lv0 hm rfl) (by rw [if_pos (by decide)]; exact h)
  ty := fun hm hC h => type_const E hm h
  law := fun hm h => law_of_const E (lv0 hm rfl) (by rw [if_pos (by decide)]; exact h)
theorem opd_field (E : Env0 B) {w : String} (hw : w ≠ "const") {r : Option Int} (hr : (atK K 5 = none ∧ r = none) ∨ ∃ x y, r = some x ∧ atK K 5 = some (.tup [.int x, y])) : Opd B K (.tup [.str (Str.ofString w), placeV 5 [.field 0]]) (tyV .u8) (optI r) where
  at' := fun hm hF h => at_copy E hm hw hF (r := optI r) (by
    rcases hr with ⟨e, rfl⟩ | ⟨x, y, rfl, e⟩
    · rw [e]; simp [nth, walkS, isNone, optI]
    · rw [e]; simp [nth, walkS, isNone, optI]) h
  ty := fun hm hC h => type_pair E hm hC hw h
  law := fun {m S Q} hm h => law_of_copy E hm hw (r := r.map .int) (by
    rcases hr with ⟨e, rfl⟩ | ⟨x, y, rfl, e⟩
    · rw [e]; simp [nth, lawS]
    · rw [e]; simp [nth, lawS]) (by cases r <;> exact h)
noncomputable def RowOk (B : Bs) (m : Nat) (S : Store) (c a : Addr) (row : CV) : Prop := ∃ rv e, row = .tup [rv, e] ∧ (∀ Q : CV → Store → Prop, Q e S → FnOk B m 291 [.loc c, rv, .loc a] S Q) ∧ eqW S e e = some true
noncomputable def rowsEnd : RS := (.ret (some (.cmp .Eq (.lcomp 2 (.loc 1) (.loc 12) (.name 1) [(.cmp .NotEq (.meth false (.loc 4) (Str.ofString "value_of") [(.sub (.loc 1) (.const (.int 0))), (.loc 5)]) (.sub (.loc 1) (.const (.int 1))))] []) (.list false []))))
theorem rows_end {m : Nat} (hC : CAt S c b fo bg bs fol beg) {X Y : Option CV} {ρr : Rho} {rows : List CV} (hi : nth ρr 8 = some (.flist rows)) (hl : rows.length ≤ 1000) (hr : ∀ row ∈ rows, RowOk B m S c a row) (h : Q (.bool true) S) :
    wpSs (Gm B m) [rowsEnd] (X :: Y :: some (.loc c) :: some (.loc a) :: ρr) S fun fl _ S' => match fl with | .ret v => Q v S' | .next => Q .none S' := by
  have he : (rows.filter fun _ => false) = [] := List.filter_eq_nil_iff.mpr fun _ _ h => Bool.noConfusion h
  have key := ev_filt (G := Gm B m) (ρ := X :: Y :: some (.loc c) :: some (.loc a) :: ρr) (S := S) (l := rows) (f := id) (h := id) (b := fun _ => false) (it := .loc 12) (elt := .loc 1) (e := .cmp .NotEq (.meth false (.loc 4) (Str.ofString "value_of") [(.sub (.loc 1) (.const (.int 0))), (.loc 5)]) (.sub (.loc 1) (.const (.int 1)))) (ev_loc hi) (by rw [List.map_id]; rfl) (Nat.le_trans hl (by decide)) (fun row hrow => ?_) fun _ _ h => Bool.noConfusion h
  · rw [he] at key
    exact q_ret (ev_cmp key (ev_list evs_nil rfl) (eq_nil (S := S) (x := .flist []) (xs := []) rfl)) h
  · obtain ⟨rv, e, rfl, h1, h2⟩ := hr _ hrow
    have hne : cmpV .NotEq S e e = some false := by
      show (eqW S e e).map _ = _
      rw [h2]; rfl
    exact ev_cmp (ev_meth (ev_loc rfl) (kind_con hC (nm := "value_of") (by decide) mt_value_of) (evs2 (ev_i0 (ev_loc rfl) rfl) (ev_loc rfl)) fun Q k => m_con hC mt_value_of (h1 _ k)) (ev_i1 (ev_loc rfl) rfl) hne
end
end Lend
namespace Lend
section
variable {B : Bs} {S : Store} {Q : CV → Store → Prop} {gd : Addr → Str → Option CV} {c b fo bg a ka lf src : Addr} {bs : List Blk} {fol beg K here : KV}
theorem eqW_int (x : Int) : eqW S (.int x) (.int x) = some true := by rw [eqW_sc rfl rfl]; simp [nth, eqS]
theorem eqW_bool (x : Bool) : eqW S (.bool x) (.bool x) = some true := by rw [eqW_sc rfl rfl]; simp [nth, eqS]
theorem eqW_pair (x : Int) (y : Bool) : eqW S (.tup [.int x, .bool y]) (.tup [.int x, .bool y]) = some true := by
  simp [nth, eqW, view, eqP, toPy, toPys, PyData.depth, PyData.depthAll, PyData.eqv, PyData.eqvAll]
theorem eqW_optI (r : Option Int) : eqW S (optI r) (optI r) = some true := by
  rcases r with _ | x
  · rfl
  · exact eqW_int x
theorem eqW_optB (r : Option Bool) : eqW S (optB r) (optB r) = some true := by
  rcases r with _ | x
  · rfl
  · exact eqW_bool x
section
variable {one other tru : CV} {ra rb : Option Int} {rc : Option Bool} {m : Nat}
theorem row_use (E : Env0 B) (hm : 8 ≤ m) (hF : FactsAt S a ka K) (h1 : Opd B K one (tyV .u8) (optI ra)) : RowOk B m S c a (.tup [.tup [.str (Str.ofString "use"), one], optI ra]) :=
  ⟨_, _, rfl, fun Q h => value_use E (by first | exact lv hm rfl | exact lv0 hm rfl | omega) hF (h1.at' (by omega) hF h), eqW_optI ra⟩
theorem row_tup0 (E : Env0 B) (hm : 8 ≤ m) : RowOk B m S c a (.tup [.tup [.str (Str.ofString "tuple"), .tup []], .tup []]) :=
  ⟨_, _, rfl, fun Q h => value_tup0 E (by first | exact lv hm rfl | exact lv0 hm rfl | omega) h, rfl⟩
noncomputable def rowP (ra : Option Int) (rc : Option Bool) : CV := match ra, rc with | some x, some y => .tup [.int x, .bool y] | _, _ => .none
theorem row_tup2 (E : Env0 B) (hm : 8 ≤ m) (hF : FactsAt S a ka K) (h1 : Opd B K one (tyV .u8) (optI ra)) (h3 : Opd B K tru (tyV .bool) (optB rc)) : RowOk B m S c a (.tup [.tup [.str (Str.ofString "tuple"), .tup [one, tru]], rowP ra rc]) :=
  ⟨_, _, rfl, fun Q h => value_tup2 E (by first | exact lv hm rfl | exact lv0 hm rfl | omega) hF h1 h3 (by cases ra <;> cases rc <;> exact h), by
    cases ra <;> cases rc <;> first | rfl | exact eqW_pair _ _⟩
noncomputable def rowI (f : Int → Int → CV) (ra rb : Option Int) : CV := match ra, rb with | some x, some y => f x y | _, _ => .none
theorem row_add (E : Env0 B) (hm : 10 ≤ m) (hC : CAt S c b fo bg bs fol beg) (hF : FactsAt S a ka K) (h1 : Opd B K one (tyV .u8) (optI ra)) (h2 : Opd B K other (tyV .u8) (optI rb)) :
    RowOk B m S c a (.tup [.tup [.str (Str.ofString "binary"), .str (Str.ofString "+"), one, other], rowI (fun x y => .int ((x + y).fmod 256)) ra rb]) :=
  ⟨_, _, rfl, fun Q h => value_binary E (by first | exact lv hm rfl | exact lv0 hm rfl | omega) hC (.inl rfl) (two_bin E (by first | exact lv hm rfl | exact lv0 hm rfl | omega) hC hF h1 h2 (by
    rcases ra with _ | x
    · exact h
    · rcases rb with _ | y
      · exact h
      · refine reckon_add E (by first | exact lv hm rfl | exact lv0 hm rfl | omega) ?_
        simp only [nth, rowI] at h
        rw [Int.fmod_eq_emod_of_nonneg _ (by decide)] at h
        exact h)), by cases ra <;> cases rb <;> first | rfl | exact eqW_int _⟩
theorem row_chk (E : Env0 B) (hm : 10 ≤ m) (hC : CAt S c b fo bg bs fol beg) (hF : FactsAt S a ka K) (h1 : Opd B K one (tyV .u8) (optI ra)) (h2 : Opd B K other (tyV .u8) (optI rb)) (pa : ∀ x, ra = some x → 0 ≤ x) (pb : ∀ x, rb = some x → 0 ≤ x) :
    RowOk B m S c a (.tup [.tup [.str (Str.ofString "checked"), .str (Str.ofString "+"), one, other], rowI (fun x y => .tup [.int ((x + y).fmod 256), .bool (decide (x + y > 255))]) ra rb]) :=
  ⟨_, _, rfl, fun Q h => value_binary E (by first | exact lv hm rfl | exact lv0 hm rfl | omega) hC (.inr rfl) (two_chk E (by first | exact lv hm rfl | exact lv0 hm rfl | omega) hC hF h1 h2 (by
    rcases ra with _ | x
    · exact h
    · rcases rb with _ | y
      · exact h
      · simp only [nth, rowI] at h
        rw [Int.fmod_eq_emod_of_nonneg _ (by decide)] at h
        have p1 := pa x rfl
        have p2 := pb y rfl
        have : (!decide (0 ≤ x + y ∧ x + y ≤ 255)) = decide (x + y > 255) := by
          by_cases q : x + y > 255
          · rw [decide_eq_true q, decide_eq_false (by omega)]; rfl
          · rw [decide_eq_false q, decide_eq_true (by omega)]; rfl
        dsimp only
        rw [this]; exact h)), by cases ra <;> cases rb <;> first | rfl | exact eqW_pair _ _⟩
theorem row_lt (E : Env0 B) (hm : 10 ≤ m) (hC : CAt S c b fo bg bs fol beg) (hF : FactsAt S a ka K) (h1 : Opd B K one (tyV .u8) (optI ra)) (h2 : Opd B K other (tyV .u8) (optI rb)) :
    RowOk B m S c a (.tup [.tup [.str (Str.ofString "binary"), .str (Str.ofString "<"), one, other], rowI (fun x y => .bool (decide (x < y))) ra rb]) :=
  ⟨_, _, rfl, fun Q h => value_binary E (by first | exact lv hm rfl | exact lv0 hm rfl | omega) hC (.inl rfl) (two_bin E (by first | exact lv hm rfl | exact lv0 hm rfl | omega) hC hF h1 h2 (by
    rcases ra with _ | x
    · exact h
    · rcases rb with _ | y
      · exact h
      · exact reckon_lt E (by first | exact lv hm rfl | exact lv0 hm rfl | omega) h)), by cases ra <;> cases rb <;> first | rfl | exact eqW_bool _⟩
theorem row_not (E : Env0 B) (hm : 10 ≤ m) (hC : CAt S c b fo bg bs fol beg) (hF : FactsAt S a ka K) (h3 : Opd B K tru (tyV .bool) (optB rc)) :
    RowOk B m S c a (.tup [.tup [.str (Str.ofString "unary"), .str (Str.ofString "!"), tru], optB (rc.map (!·))]) :=
  ⟨_, _, rfl, fun Q h => value_unary E (by first | exact lv hm rfl | exact lv0 hm rfl | omega) hC (one_not E (by first | exact lv hm rfl | exact lv0 hm rfl | omega) hC hF h3 h), eqW_optB _⟩
theorem row_neg (E : Env0 B) (hm : 10 ≤ m) (hC : CAt S c b fo bg bs fol beg) (hF : FactsAt S a ka K) (h1 : Opd B K one (tyV .u8) (optI ra)) :
    RowOk B m S c a (.tup [.tup [.str (Str.ofString "unary"), .str (Str.ofString "-"), one], optI (ra.map fun x => (256 - x).fmod 256)]) :=
  ⟨_, _, rfl, fun Q h => value_unary E (by first | exact lv hm rfl | exact lv0 hm rfl | omega) hC (one_neg E (by first | exact lv hm rfl | exact lv0 hm rfl | omega) hC hF h1 (by
    have : (fun x : Int => (256 - x).fmod 256) = fun x => (0 - x) % 256 := funext fun x => by rw [Int.fmod_eq_emod_of_nonneg _ (by decide)]; omega
    rw [this] at h; exact h)), eqW_optI _⟩
theorem row_i8 (E : Env0 B) (hm : 10 ≤ m) (hC : CAt S c b fo bg bs fol beg) (hF : FactsAt S a ka K) (h1 : Opd B K one (tyV .u8) (optI ra)) :
    RowOk B m S c a (.tup [.tup [.str (Str.ofString "cast"), one, .tup [.str (Str.ofString "int"), .str (Str.ofString "i8")]], optI (ra.map fun x => (x + 128).fmod 256 - 128)]) :=
  ⟨_, _, rfl, fun Q h => value_cast E (by first | exact lv hm rfl | exact lv0 hm rfl | omega) hC (cast_int_i8 E (by first | exact lv hm rfl | exact lv0 hm rfl | omega) hF h1 (by
    have : (fun x : Int => (x + 128).fmod 256 - 128) = fun x => (x + 128) % 256 - 128 := funext fun x => by rw [Int.fmod_eq_emod_of_nonneg _ (by decide)]
    rw [this] at h; exact h)), eqW_optI _⟩
theorem row_u8 (E : Env0 B) (hm : 10 ≤ m) (hC : CAt S c b fo bg bs fol beg) (hF : FactsAt S a ka K) (h3 : Opd B K tru (tyV .bool) (optB rc)) :
    RowOk B m S c a (.tup [.tup [.str (Str.ofString "cast"), tru, .tup [.str (Str.ofString "int"), .str (Str.ofString "u8")]], optI (rc.map fun x => if x = true then 1 else 0)]) :=
  ⟨_, _, rfl, fun Q h => value_cast E (by first | exact lv hm rfl | exact lv0 hm rfl | omega) hC (cast_bool_u8 E (by first | exact lv hm rfl | exact lv0 hm rfl | omega) hF h3 h), eqW_optI _⟩
theorem row_none (E : Env0 B) (hm : 10 ≤ m) {w : String} {tr : List CV} (hw : w ∉ ["use", "tuple", "binary", "checked", "unary", "cast"]) : RowOk B m S c a (.tup [.tup (.str (Str.ofString w) :: tr), .none]) :=
  ⟨_, _, rfl, fun Q h => value_none E (by first | exact lv hm rfl | exact lv0 hm rfl | omega) hw h, rfl⟩
noncomputable def ρV (X Y Z one other tru A B' C W : CV) (c a : Addr) (rows : List CV) : Rho := [some X, some Y, some (.loc c), some (.loc a), some Z, some one, some other, some tru, some A, some B', some C, some W, some (.flist rows)]
noncomputable def RowsOk (B : Bs) (m : Nat) (S : Store) (c a : Addr) (n : Nat) (rows : List CV) : Prop := rows.length ≤ n ∧ ∀ row ∈ rows, RowOk B m S c a row
theorem mem1 {P : CV → Prop} {x : CV} (h : P x) : ∀ r ∈ [x], P r := fun _ e => (List.mem_singleton.mp e) ▸ h
theorem mem2 {P : CV → Prop} {x y : CV} (h : P x) (k : P y) : ∀ r ∈ [x, y], P r := fun r e => (List.mem_cons.mp e).elim (fun e => e ▸ h) (mem1 k r)
theorem mem3 {P : CV → Prop} {x y z : CV} (h : P x) (k : P y) (l : P z) : ∀ r ∈ [x, y, z], P r := fun r e => (List.mem_cons.mp e).elim (fun e => e ▸ h) (mem2 k l r)
theorem row_step {X Y Z A B' C W : CV} {vs : List CV} {es : List RE} {rest : List RS} {Kt : Fl → Rho → Store → Prop} {n n' : Nat} (he : ∀ rows, Evs (Gm B m) es (ρV X Y Z one other tru A B' C W c a rows) S vs) (hv : ∀ row ∈ vs, RowOk B m S c a row) (hn : Nat.ble (n + vs.length) n' = true) (h1 : Nat.ble n' 100 = true)
    (k : ∀ rows, RowsOk B m S c a n' rows → wpSs (Gm B m) rest (ρV X Y Z one other tru A B' C W c a rows) S Kt) (rows : List CV) (hr : RowsOk B m S c a n rows) : wpSs (Gm B m) (.asg (.name 12) (.bin .Add (.loc 12) (.list false es)) :: rest) (ρV X Y Z one other tru A B' C W c a rows) S Kt := by
  have hl := hr.1
  have hn := Nat.le_of_ble_eq_true hn
  have h1 := Nat.le_of_ble_eq_true h1
  have hs : small = 100000 := rfl
  have hl2 : (rows ++ vs).length ≤ n' := by rw [List.length_append]; omega
  refine q_asgw rfl ?_
  show wpEs (Gm B m) es _ S _
  refine he rows _ ⟨by omega, ?_⟩
  refine ⟨by omega, k (rows ++ vs) ⟨hl2, fun row h => ?_⟩⟩
  rcases List.mem_append.mp h with h | h
  · exact hr.2 row h
  · exact hv row h
section
variable {G : Gl} {ρ : Rho} {e : RE} {i j k : Nat} {f : Int → Int → CV}
theorem ev_rowI (h11 : nth ρ 11 = some (.bool (ra.isSome && rb.isSome))) (h8 : nth ρ 8 = some (optI ra)) (h9 : nth ρ 9 = some (optI rb)) (h : ∀ x y, nth ρ 8 = some (.int x) → nth ρ 9 = some (.int y) → Ev G e ρ S (f x y)) : Ev G (.ite (.loc 11) e (.const .none)) ρ S (rowI f ra rb) := by
  rcases ra with _ | x
  · exact ev_ite_f (ev_loc h11) ev_const
  · rcases rb with _ | y
    · exact ev_ite_f (ev_loc h11) ev_const
    · exact ev_ite_t (ev_loc h11) (h x y h8 h9)
theorem ev_rowO {α : Type} {z v : Option α → CV} {r : Option α} (h0 : nth ρ i = some (v r)) (hv : v none = .none) (h1 : ∀ x, isNone (v (some x)) = some false) (hz : z none = .none) (h : ∀ x, nth ρ i = some (v (some x)) → Ev G e ρ S (z (some x))) : Ev G (.ite (.cmp .Is (.loc i) (.const .none)) (.const .none) e) ρ S (z r) := by
  rcases r with _ | x
  · rw [hz]; rw [hv] at h0; exact ev_ite_t (ev_cmp (ev_loc h0) ev_const rfl) ev_const
  · exact ev_ite_f (ev_cmp (ev_loc h0) ev_const (is_none (h1 x))) (h x h0)
theorem ev_rowP (h8 : nth ρ 8 = some (optI ra)) (h10 : nth ρ 10 = some (optB rc)) : Ev G (.ite (.or [(.cmp .Is (.loc 8) (.const CV.none)), (.cmp .Is (.loc 10) (.const CV.none))]) (.const CV.none) (.tup [(.loc 8), (.loc 10)])) ρ S (rowP ra rc) := by
  rcases ra with _ | x
  · exact ev_ite_t (ev_or (evb_off (ev_cmp (ev_loc h8) ev_const rfl))) ev_const
  · rcases rc with _ | z
    · exact ev_ite_t (ev_or (evb_on (ev_cmp (ev_loc h8) ev_const rfl) (evb_off (ev_cmp (ev_loc h10) ev_const rfl)))) ev_const
    · exact ev_ite_f (ev_or (evb_on (ev_cmp (ev_loc h8) ev_const rfl) (evb_on (ev_cmp (ev_loc h10) ev_const rfl) evb_nil))) (ev_tup (evs2 (ev_loc h8) (ev_loc h10)) rfl)
theorem ev_both (h8 : nth ρ 8 = some (optI ra)) (h9 : nth ρ 9 = some (optI rb)) : Ev G (.and [(.cmp .IsNot (.loc 8) (.const CV.none)), (.cmp .IsNot (.loc 9) (.const CV.none))]) ρ S (.bool (ra.isSome && rb.isSome)) := by
  rcases ra with _ | x
  · exact ev_and (evb_off (ev_cmp (ev_loc h8) ev_const rfl))
  · rcases rb with _ | y
    · exact ev_and (evb_on (ev_cmp (ev_loc h8) ev_const rfl) (evb_off (ev_cmp (ev_loc h9) ev_const rfl)))
    · exact ev_and (evb_on (ev_cmp (ev_loc h8) ev_const rfl) (evb_on (ev_cmp (ev_loc h9) ev_const rfl) evb_nil))
theorem ev_int {own : Bool} {z : Bool} (h : Ev (Gm B m) e ρ S (.bool z)) : Ev (Gm B m) (.call own (.glob (Str.ofString "int")) [e]) ρ S (.int (if z = true then 1 else 0)) := fun Q k => (ev_gl gl_int : Ev (Gm B m) _ ρ S _) (fun g S1 => wpEs (Gm B m) [e] ρ S1 fun xs S2 => callW (Gm B m) own g xs S2 Q) (evs1 h (fun xs S2 => callW (Gm B m) own (.raw (.type "int")) xs S2 Q) k)
end
theorem rows_all (E : Env0 B) (hm : 10 ≤ m) (hC : CAt S c b fo bg bs fol beg) (hF : FactsAt S a ka K) (h1 : Opd B K one (tyV .u8) (optI ra)) (h2 : Opd B K other (tyV .u8) (optI rb)) (h3 : Opd B K tru (tyV .bool) (optB rc)) (pa : ∀ x, ra = some x → 0 ≤ x) (pb : ∀ x, rb = some x → 0 ≤ x)
    {X Y Z : CV} (h : Q (.bool true) S) :
    wpSs (Gm B m) (r442.drop 6) [some X, some Y, some (.loc c), some (.loc a), some Z, some one, some other, some tru, some (optI ra), some (optI rb), some (optB rc), none, none] S fun fl _ S' => match fl with | .ret v => Q v S' | .next => Q .none S' := by
  refine q_asg (ev_both rfl rfl) rfl (q_asg (ev_list (evs2 (ev_tup (evs2 (ev_tup (evs2 ev_const (ev_loc rfl)) rfl) (ev_loc rfl)) rfl) (ev_tup (evs2 (ev_tup (evs2 ev_const (ev_tup evs_nil rfl)) rfl) (ev_tup evs_nil rfl)) rfl)) rfl) rfl ?_)
  refine row_step (n := 2) (n' := 5) (vs := [.tup [.tup [.str (Str.ofString "tuple"), .tup [one, tru]], rowP ra rc]]) (fun rows => evs1 (ev_tup (evs2 (ev_tup (evs2 ev_const (ev_tup (evs2 (ev_loc rfl) (ev_loc rfl)) rfl)) rfl) (ev_rowP rfl rfl)) rfl)) (mem1 (row_tup2 E (lv0 hm rfl) hF h1 h3)) rfl rfl ?_ _
    ⟨Nat.le_of_ble_eq_true rfl, mem2 (row_use E (lv0 hm rfl) hF h1) (row_tup0 E (lv0 hm rfl))⟩
  refine row_step (n' := 6) (vs := [.tup [.tup [.str (Str.ofString "binary"), .str (Str.ofString "+"), one, other], rowI (fun x y => .int ((x + y).fmod 256)) ra rb]]) (fun rows => evs1 (ev_tup (evs2 (ev_tup (evs4 ev_const ev_const (ev_loc rfl) (ev_loc rfl)) rfl) (ev_rowI rfl rfl rfl fun x y h8 h9 => ev_mod (ev_plus (ev_loc h8) (ev_loc h9)) rfl)) rfl)) (mem1 (row_add E hm hC hF h1 h2)) rfl rfl ?_
  refine row_step (n' := 7) (vs := [.tup [.tup [.str (Str.ofString "checked"), .str (Str.ofString "+"), one, other], rowI (fun x y => .tup [.int ((x + y).fmod 256), .bool (decide (x + y > 255))]) ra rb]]) (fun rows => evs1 (ev_tup (evs2 (ev_tup (evs4 ev_const ev_const (ev_loc rfl) (ev_loc rfl)) rfl) (ev_rowI rfl rfl rfl fun x y h8 h9 => ev_tup (evs2 (ev_mod (ev_plus (ev_loc h8) (ev_loc h9)) rfl) (ev_cmp (ev_plus (ev_loc h8) (ev_loc h9)) ev_const rfl)) rfl)) rfl)) (mem1 (row_chk E hm hC hF h1 h2 pa pb)) rfl rfl ?_
  refine row_step (n' := 8) (vs := [.tup [.tup [.str (Str.ofString "binary"), .str (Str.ofString "<"), one, other], rowI (fun x y => .bool (decide (x < y))) ra rb]]) (fun rows => evs1 (ev_tup (evs2 (ev_tup (evs4 ev_const ev_const (ev_loc rfl) (ev_loc rfl)) rfl) (ev_rowI rfl rfl rfl fun x y h8 h9 => ev_cmp (ev_loc h8) (ev_loc h9) rfl)) rfl)) (mem1 (row_lt E hm hC hF h1 h2)) rfl rfl ?_
  refine row_step (n' := 9) (vs := [.tup [.tup [.str (Str.ofString "unary"), .str (Str.ofString "!"), tru], optB (rc.map (!·))]]) (fun rows => evs1 (ev_tup (evs2 (ev_tup (evs3 ev_const ev_const (ev_loc rfl)) rfl) (ev_rowO (v := optB) (z := fun r => optB (r.map (!·))) rfl rfl (fun _ => rfl) rfl fun x h8 => ev_not (ev_loc h8))) rfl)) (mem1 (row_not E hm hC hF h3)) rfl rfl ?_
  refine row_step (n' := 10) (vs := [.tup [.tup [.str (Str.ofString "unary"), .str (Str.ofString "-"), one], optI (ra.map fun x => (256 - x).fmod 256)]]) (fun rows => evs1 (ev_tup (evs2 (ev_tup (evs3 ev_const ev_const (ev_loc rfl)) rfl) (ev_rowO (v := optI) (z := fun r => optI (r.map fun x => (256 - x).fmod 256)) rfl rfl (fun _ => rfl) rfl fun x h8 => ev_mod (ev_minus ev_const (ev_loc h8)) rfl)) rfl)) (mem1 (row_neg E hm hC hF h1)) rfl rfl ?_
  refine row_step (n' := 11) (vs := [.tup [.tup [.str (Str.ofString "cast"), one, .tup [.str (Str.ofString "int"), .str (Str.ofString "i8")]], optI (ra.map fun x => (x + 128).fmod 256 - 128)]]) (fun rows => evs1 (ev_tup (evs2 (ev_tup (evs3 ev_const (ev_loc rfl) (ev_tup (evs2 ev_const ev_const) rfl)) rfl) (ev_rowO (v := optI) (z := fun r => optI (r.map fun x => (x + 128).fmod 256 - 128)) rfl rfl (fun _ => rfl) rfl fun x h8 => ev_minus (ev_mod (ev_plus (ev_loc h8) ev_const) rfl) ev_const)) rfl)) (mem1 (row_i8 E hm hC hF h1)) rfl rfl ?_
  refine row_step (n' := 12) (vs := [.tup [.tup [.str (Str.ofString "cast"), tru, .tup [.str (Str.ofString "int"), .str (Str.ofString "u8")]], optI (rc.map fun x => if x = true then 1 else 0)]]) (fun rows => evs1 (ev_tup (evs2 (ev_tup (evs3 ev_const (ev_loc rfl) (ev_call gl_u8 evs_nil fun Q k => u8_ok E (lv0 hm rfl) k)) rfl) (ev_rowO (v := optB) (z := fun r => optI (r.map fun x => if x = true then 1 else 0)) rfl rfl (fun _ => rfl) rfl fun x h8 => ev_int (ev_loc h8))) rfl)) (mem1 (row_u8 E hm hC hF h3)) rfl rfl ?_
  refine row_step (n' := 13) (vs := [.tup [.tup [.str (Str.ofString "ref"), .none, .str (Str.ofString "shared"), .tup [.int 0, .tup []]], .none]]) (fun rows => evs1 (ev_tup (evs2 (ev_tup (evs4 ev_const ev_const ev_const (ev_tup (evs2 ev_const (ev_tup evs_nil rfl)) rfl)) rfl) ev_const) rfl)) (mem1 (row_none E hm (by decide))) rfl rfl ?_
  refine row_step (n' := 16) (vs := [.tup [.tup [.str (Str.ofString "array"), .tup [one, one]], .none], .tup [.tup [.str (Str.ofString "box"), one], .none], .tup [.tup [.str (Str.ofString "discriminant"), .tup [.int 5, .tup []]], .none]])
    (fun rows => evs3 (ev_tup (evs2 (ev_tup (evs2 ev_const (ev_tup (evs2 (ev_loc rfl) (ev_loc rfl)) rfl)) rfl) ev_const) rfl) (ev_tup (evs2 (ev_tup (evs2 ev_const (ev_loc rfl)) rfl) ev_const) rfl) (ev_tup (evs2 (ev_tup (evs2 ev_const (ev_tup (evs2 ev_const (ev_tup evs_nil rfl)) rfl)) rfl) ev_const) rfl))
    (mem3 (row_none E hm (by decide)) (row_none E hm (by decide)) (row_none E hm (by decide))) rfl rfl ?_
  refine row_step (n' := 17) (vs := [.tup [.tup [.str (Str.ofString "adt"), .tup [.str (Str.ofString "adt"), .str (Str.ofString "S"), .tup [], .tup []], .int 0, .tup [one]], .none]])
    (fun rows => evs1 (ev_tup (evs2 (ev_tup (evs4 ev_const (ev_tup (evs4 ev_const ev_const (ev_tup evs_nil rfl) (ev_tup evs_nil rfl)) rfl) ev_const (ev_tup (evs1 (ev_loc rfl)) rfl)) rfl) ev_const) rfl)) (mem1 (row_none E hm (by decide))) rfl rfl ?_
  exact fun rows hr => rows_end hC (hi := rfl) (Nat.le_trans hr.1 (by decide)) hr.2 h
end
end
end Lend
namespace Lend
structure KOk (K : KV) : Prop where
  k0 : ∃ r, (atK K 0).getD .none = optI r ∧ ∀ x, r = some x → 0 ≤ x
  k1 : ∃ r, (atK K 1).getD .none = optI r ∧ ∀ x, r = some x → 0 ≤ x
  k4 : ∃ r, (atK K 4).getD .none = optB r
  k5 : atK K 5 = none ∨ ∃ x y, 0 ≤ x ∧ atK K 5 = some (.tup [.int x, y])
  len : K.length ≤ 100
noncomputable def KeepAll (S S' : Store) : Prop := ∀ x, (lk S x).isSome = true → lk S' x = lk S x
theorem KeepAll.trans {S S' S'' : Store} (h : KeepAll S S') (k : KeepAll S' S'') : KeepAll S S'' := fun x hx => by rw [k x (by rw [h x hx]; exact hx), h x hx]
theorem KeepAll.ext {S : Store} {a : Addr} {o : CO} (n : lk S a = none) : KeepAll S ((a, o) :: S) := fun x hx => by
  rw [lk, if_neg]; exact (by rintro rfl; rw [n] at hx; cases hx)
theorem facts_put {S : Store} {a ka : Addr} {d : Addr} {K : KV} (l1 : lk S a = none) (l2 : lk S ka = none) (l3 : a ≠ ka) : FactsAt ((ka, CO.dict K) :: (a, CO.inst 254 d [(Str.ofString "known", .loc ka)]) :: S) a ka K ∧ KeepAll S ((ka, CO.dict K) :: (a, CO.inst 254 d [(Str.ofString "known", .loc ka)]) :: S) := by
  have e : lk ((a, CO.inst 254 d [(Str.ofString "known", .loc ka)]) :: S) ka = none := by rw [lk, if_neg (fun e => l3 e.symm)]; exact l2
  refine ⟨⟨⟨d, ?_⟩, by rw [lk, if_pos rfl]⟩, (KeepAll.ext l1).trans (KeepAll.ext e)⟩
  rw [lk, if_neg l3, lk, if_pos rfl]
theorem SrcAt.keep {S S' : Store} {a : Addr} (h : SrcAt S a) (k : KeepAll S S') : SrcAt S' a := by
  obtain ⟨p, q, h1, h2⟩ := h
  exact ⟨p, q, by rw [k a (by rw [h1]; rfl)]; exact h1, h2⟩
theorem SrcAt.upS {S : Store} {a : Addr} (h : SrcAt S a) {p q : Int} (h0 : 0 ≤ q) (h1 : q < 2147483647) : SrcAt (up S a (.list [.int p, .int q])) a := by
  obtain ⟨p', q', h2, _⟩ := h
  exact ⟨p, q, lk_up_self h2, h0, h1⟩
theorem SrcAt.cons {S : Store} {a x : Addr} {o : CO} (h : SrcAt S a) (n : lk S x = none) : SrcAt ((x, o) :: S) a := by
  obtain ⟨p, q, h1, h2⟩ := h
  have : a ≠ x := ne_sn h1 n
  exact ⟨p, q, by simp [nth, lk, this, h1], h2⟩
theorem SrcAt.ne {S : Store} {a x : Addr} (h : SrcAt S a) (n : lk S x = none) : a ≠ x := by
  obtain ⟨p, q, h1, h2⟩ := h
  exact ne_sn h1 n
structure VS (S : Store) (c b fo bg a ka src : Addr) (bs : List Blk) (fol beg K : KV) : Prop where
  hC : CAt S c b fo bg bs fol beg
  hF : FactsAt S a ka K
  hS : SrcAt S src
theorem vs_take {S : Store} {c b fo bg a ka src : Addr} {bs : List Blk} {fol beg K : KV} (h : VS S c b fo bg a ka src bs fol beg K) {p q : Int} (h0 : 0 ≤ q) (h1 : q < 2147483647) : VS (up S src (.list [.int p, .int q])) c b fo bg a ka src bs fol beg K := by
  obtain ⟨p', q', h2, h3⟩ := h.hS
  refine ⟨cat_upL h.hC h2, ?_, h.hS.upS h0 h1⟩
  obtain ⟨⟨d, f1⟩, f2⟩ := h.hF
  have n1 : a ≠ src := ne_fg f1 h2 (by intro e; cases e)
  have n2 : ka ≠ src := ne_fg f2 h2 (by intro e; cases e)
  exact ⟨⟨d, by rw [lk_up_ne n1]; exact f1⟩, by rw [lk_up_ne n2]; exact f2⟩
section
variable {B : Bs} {S : Store} {Q : CV → Store → Prop} {gd : Addr → Str → Option CV} {c b fo bg a ka lf src : Addr} {bs : List Blk} {fol beg K here : KV}
theorem gl_law_body : glF (Str.ofString "_law_body") = some (.raw (.ref 418)) := by kernel_rfl
theorem gl_law_one : glF (Str.ofString "_law_one") = some (.raw (.ref 406)) := by kernel_rfl
theorem gl_law_of : glF (Str.ofString "_law_of") = some (.raw (.ref 432)) := by kernel_rfl
noncomputable def bs0 : List Blk := [([], .ret)]
theorem bs0_ok : ∀ b ∈ bs0, BlkOk b := by
  intro b hb
  simp [nth, bs0] at hb
  subst hb
  intro s hs
  cases hs
theorem con_plain (E : Env0 B) {m : Nat} (hm : 5 ≤ m) (h : ∀ (b c fo bg : Addr) (S' : Store), lk S b = none → CAt S' c b fo bg bs0 (folK (lentK bs0)) [(0, .fdict [])] → KeepAll S S' → lk S bg = none → Q (.loc c) S') :
    FnOk B m 418 [.flist [.flist [.flist [], .tup [.str (Str.ofString "return")]]]] S fun x S1 => FnOk B m 381 [x] S1 Q := by
  refine law_body_ok E hm fun b d hb => ?_
  refine con_new (bs := bs0) E hm ⟨d, by simp [nth, lk]; rfl⟩ bs0_ok fun c fo bg S' h1 h2 h3 => ?_
  refine h b c fo bg S' hb h1 (fun x hx => ?_) ?_
  · have : x ≠ b := (by rintro rfl; rw [hb] at hx; cases hx)
    rw [h2 x (by simp [nth, lk, this, hx])]
    simp [nth, lk, this]
  · have : ¬ bg = b := by rintro rfl; simp [nth, lk] at h3
    simpa [nth, lk, this] using h3
noncomputable def OpI (B : Bs) (K : KV) (o : CV) : Prop := ∃ r : Option Int, Opd B K o (tyV .u8) (optI r) ∧ ∀ x, r = some x → 0 ≤ x
theorem values_ok (E : Env0 B) {m : Nat} (hm : 12 ≤ m) (hS : SrcAt S src) (hK : KOk K) (h : ∀ S', SrcAt S' src → Q (.bool true) S') : FnOk B m 442 [.loc src, .fdict K] S Q := by
  refine fnm (rest := ["constants", "facts", "ops", "one", "other", "truth", "a", "b", "c", "both", "rows"]) E (lv0 hm rfl) E.facts.f442 rfl (by decide +kernel) E.facts.b442 ?_
  obtain ⟨rc, e4⟩ := hK.k4
  have ht : Opd B K (.tup [.str (Str.ofString "copy"), placeV 4 []]) (tyV .bool) (optB rc) := opd_local E (n := 4) (t := .bool) (by decide) rfl e4
  refine q_tup2w (w_call1 (ev_gl gl_Constants) (wp_call (ev_gl gl_law_body) (evs1 (ev_list (evs1 (ev_list (evs2 (ev_list evs_nil rfl) (ev_tup (evs1 ev_const) rfl)) rfl)) rfl)) (con_plain (m := m - 1) E (lv hm rfl) fun b c fo bg S1 l1 hC1 k1 _ => wp_call (ev_gl gl_Facts) (evs1 (ev_loc rfl)) (facts_new E (lv hm rfl) (kvs := K) (fun S' _ => rfl) (Nat.le_trans hK.len (by decide)) fun a d' ka l2 l3 l4 => swap_in rfl rfl ?_))))
  have n : lk ((a, CO.inst 254 d' [(Str.ofString "known", .loc ka)]) :: S1) ka = none := by rw [lk_tail fun e => l4 e.symm]; exact l3
  have hV : VS ((ka, CO.dict K) :: (a, CO.inst 254 d' [(Str.ofString "known", .loc ka)]) :: S1) c b fo bg a ka src bs0 (folK (lentK bs0)) [(0, .fdict [])] K := ⟨(hC1.cons l2).cons n, (facts_put l2 l3 l4).1, ((hS.keep k1).cons l2).cons n⟩
  generalize ((ka, CO.dict K) :: (a, CO.inst 254 d' [(Str.ofString "known", .loc ka)]) :: S1) = S2 at hV ⊢
  have cp : ∀ {ρ : Rho} {S : Store} {w : String} {i : Int}, Ev (Gm B (m - 1)) (.tup [(.const (.str (Str.ofString w))), (.tup [(.const (.int i)), (.tup [])])]) ρ S (.tup [.str (Str.ofString w), placeV i []]) := ev_tup (evs2 ev_const (ev_tup (evs2 ev_const (ev_tup evs_nil rfl)) rfl)) rfl
  refine q_asgw rfl (w_list' (w_cons (w_ev cp (w_cons (w_ev cp (w_cons (w_tup (w_cons (w_ev ev_const (w_cons (w_ev (ev_call gl_u8 evs_nil fun Q k => u8_ok E (lv hm rfl) k) (w_cons (wp_call (ev_gl gl_take) (evs2 (ev_loc rfl) ev_const) (take_ok E (lv hm rfl) hV.hS (by decide) (by decide) fun n p q n0 n1 q0 q1 => w_nil ⟨Nat.le_of_ble_eq_true rfl, w_nil ⟨Nat.le_of_ble_eq_true rfl, fun ops l6 l7 => ?_⟩⟩))))))))))))))
  have hV3 := vs_take hV (p := p) q0 q1
  generalize up S2 src (.list [.int p, .int q]) = S3 at hV3 l6 ⊢
  have hops : ∀ o ∈ [CV.tup [.str (Str.ofString "copy"), placeV 0 []], CV.tup [.str (Str.ofString "move"), placeV 1 []], CV.tup [.str (Str.ofString "const"), tyV .u8, .int n], CV.tup [.str (Str.ofString "copy"), placeV 5 [.field 0]]], OpI B K o := by
    intro o ho
    simp only [nth, List.mem_cons, List.not_mem_nil, or_false] at ho
    rcases ho with rfl | rfl | rfl | rfl
    · obtain ⟨r, e, p⟩ := hK.k0
      exact ⟨r, opd_local E (n := 0) (t := .u8) (by decide) rfl e, p⟩
    · obtain ⟨r, e, p⟩ := hK.k1
      exact ⟨r, opd_local E (n := 1) (t := .u8) (by decide) rfl e, p⟩
    · exact ⟨some n, opd_const E, fun x e => by cases e; exact n0⟩
    · rcases hK.k5 with e | ⟨x, y, p, e⟩
      · exact ⟨none, opd_field E (by decide) (.inl ⟨e, rfl⟩), fun _ e => by cases e⟩
      · exact ⟨some x, opd_field E (by decide) (.inr ⟨x, y, rfl, e⟩), fun z e => by cases e; exact p⟩
  refine q_append (ev_loc rfl) lk_head (ev_tup (evs2 ev_const (ev_tup (evs2 ev_const (ev_tup (evs1 (ev_tup (evs2 ev_const ev_const) rfl)) rfl)) rfl)) rfl) rfl (q_freeze rfl lk_up_head rm_up_head ?_)
  show wpSs _ _ [some (.loc src), some (.fdict K), some (.loc c), some (.loc a), some (.flist [.tup [.str (Str.ofString "copy"), placeV 0 []], .tup [.str (Str.ofString "move"), placeV 1 []], .tup [.str (Str.ofString "const"), tyV .u8, .int n], .tup [.str (Str.ofString "copy"), placeV 5 [.field 0]]]), none, none, none, none, none, none, none, none] S3 _
  refine q_swap3w (wp_call (ev_gl gl_law_one) (evs2 (ev_loc rfl) (ev_loc rfl)) (one_ok E (lv hm rfl) hV3.hS (by simp) (Nat.le_of_ble_eq_true rfl) fun one h1 p q q0 q1 => ?_))
  have hV4 := vs_take hV3 (p := p) q0 q1
  generalize up S3 src (.list [.int p, .int q]) = S4 at hV4 ⊢
  refine wp_call (ev_gl gl_law_one) (evs2 (ev_loc rfl) (ev_loc rfl)) (one_ok E (lv hm rfl) hV4.hS (by simp) (Nat.le_of_ble_eq_true rfl) fun other h2 p q q0 q1 => ?_)
  have hV5 := vs_take hV4 (p := p) q0 q1
  generalize up S4 src (.list [.int p, .int q]) = S5 at hV5 ⊢
  obtain ⟨ra, o1, p1⟩ := hops one h1
  obtain ⟨rb, o2, p2⟩ := hops other h2
  refine cp _ (swap_in rfl rfl (q_swap (ev_tup (evs3 (ev_call gl_law_of (evs2 (ev_loc rfl) (ev_loc rfl)) fun Q k => o1.law (lv hm rfl) k) (ev_call gl_law_of (evs2 (ev_loc rfl) (ev_loc rfl)) fun Q k => o2.law (lv hm rfl) k) (ev_call gl_law_of (evs2 (ev_loc rfl) (ev_loc rfl)) fun Q k => ht.law (lv hm rfl) k)) rfl) (xs := [optI ra, optI rb, optB rc]) rfl rfl ?_))
  exact rows_all E (lv hm rfl) hV5.hC hV5.hF o1 o2 ht p1 p2 (h _ hV5.hS)
end
end Lend
namespace Lend
noncomputable def SelfEq (r : CV) : Prop := ∃ d, toPy r = some d ∧ d.depth ≤ 50 ∧ PyData.eqv d d = true
noncomputable def PlaceOk (K : KV) (p : Int × List Step) : Prop := ∃ r, walkS ((atK K p.1).getD .none) p.2 = some r ∧ (∃ r', lawS (atK K p.1) p.2 = some r' ∧ r'.getD .none = r) ∧ SelfEq r
section
variable {B : Bs} {S : Store} {Q : CV → Store → Prop} {gd : Addr → Str → Option CV} {c b fo bg a ka lf src : Addr} {bs : List Blk} {fol beg K here : KV}
theorem three_eq {r : CV} (h : SelfEq r) : cmpV .NotEq S (.flist [r, r, r]) (.flist [r, r, r]) = some false := by
  obtain ⟨d, h1, h2, h3⟩ := h
  show (eqW S _ _).map _ = _
  have : eqW S (.flist [r, r, r]) (.flist [r, r, r]) = some true := by
    simp only [nth, eqW, view, List.length_cons, List.length_nil, if_true, eqP, toPy, toPys, h1, Option.map_some]
    rw [if_pos (by simp [nth, PyData.depth, PyData.depthAll]; omega)]
    simp [nth, PyData.eqv, PyData.eqvAll, h3]
  rw [this]; rfl
noncomputable def placesBody : List RS := [(.asg (.name 4) (.call false (.glob (Str.ofString "_law_at")) [(.loc 0), (.loc 3)])),
    (.asg (.name 5) (.list false [(.meth false (.loc 1) (Str.ofString "at_place") [(.loc 3)]), (.meth false (.loc 1) (Str.ofString "at_operand") [(.tup [(.const (.str (Str.ofString "copy"))), (.loc 3)])]), (.meth false (.loc 1) (Str.ofString "at_operand") [(.tup [(.const (.str (Str.ofString "move"))), (.loc 3)])])])),
    (.ite (.cmp .NotEq (.loc 5) (.list false [(.loc 4), (.loc 4), (.loc 4)])) [(.ret (some (.const (.bool false))))] [])]
theorem mt_at_place' : mtF 254 (Str.ofString "at_place") = some 237 := by kernel_rfl
theorem places_loop (E : Env0 B) {m : Nat} (hm : 5 ≤ m) (hF : FactsAt S a ka K) {X : CV} {Kt : Fl → Rho → Store → Prop} {gg : Store → Prop} (hg : ∀ S, gg S) {ps : List (Int × List Step)} (hp : ∀ p ∈ ps, PlaceOk K p) (p q r : Option CV)
    (h : ∀ p q r, Kt .next [some (.fdict K), some (.loc a), some X, p, q, r] S) : forN (Gm B m) gg 3 placesBody (ps.map fun p => placeV p.1 p.2) [some (.fdict K), some (.loc a), some X, p, q, r] S Kt := by
  have kf := kind_facts (B := B) (m := m) hF (nm := "at_operand") (by decide) mt_at_operand
  have kp := kind_facts (B := B) (m := m) hF (nm := "at_place") (by decide) mt_at_place'
  induction ps generalizing p q r with
  | nil => exact for_nil (h p q r)
  | cons pl ps ih =>
    obtain ⟨v, h1, ⟨v', h2, h3⟩, h4⟩ := hp pl (.head _)
    subst h3
    refine for_cons rfl (q_asg (ev_call gl_law_at (evs2 (ev_loc rfl) (ev_loc rfl)) fun Q k => law_at_ok E (lv0 hm rfl) h2 k) rfl (q_asg (ev_list (evs3 (ev_meth (ev_loc rfl) kp (evs1 (ev_loc rfl)) fun Q k => m_facts hF mt_at_place' (at_place_ok E (lv0 hm rfl) hF h1 k))
      (ev_meth (ev_loc rfl) kf (evs1 (ev_tup (evs2 ev_const (ev_loc rfl)) rfl)) fun Q k => m_facts hF mt_at_operand (at_copy E (lv0 hm rfl) (by decide) hF h1 k))
      (ev_meth (ev_loc rfl) kf (evs1 (ev_tup (evs2 ev_const (ev_loc rfl)) rfl)) fun Q k => m_facts hF mt_at_operand (at_copy E (lv0 hm rfl) (by decide) hF h1 k))) rfl) rfl
      (q_if_f (ev_cmp (ev_loc rfl) (ev_list (evs3 (ev_loc rfl) (ev_loc rfl) (ev_loc rfl)) rfl) (three_eq h4)) (q_done ⟨hg S, ih (fun p hp' => hp p (.tail _ hp')) _ _ _⟩))))
noncomputable def pairsK (x y z : Int) : KV := [(0, .tup [.int x, .tup [.bool true, .int y]]), (2, .int z)]
noncomputable def lawPlaces : List (Int × List Step) := [(0, []), (0, [.field 0]), (0, [.field 1]), (0, [.field 1, .field 0]), (0, [.deref]), (1, []), (1, [.field 0]), (1, [.field 1]), (1, [.field 1, .field 0]), (1, [.deref]), (2, []), (2, [.index 0]), (3, [])]
theorem se_none : SelfEq .none := ⟨.none, rfl, by simp [nth, PyData.depth], rfl⟩
theorem se_int (x : Int) : SelfEq (.int x) := ⟨.int x, rfl, by simp [nth, PyData.depth], by simp [nth, PyData.eqv]⟩
theorem se_bool (x : Bool) : SelfEq (.bool x) := ⟨.bool x, rfl, by simp [nth, PyData.depth], by simp [nth, PyData.eqv]⟩
theorem se_tup {x y : CV} (h1 : SelfEq x) (h2 : SelfEq y) (p : ∀ d, toPy x = some d → d.depth ≤ 10) (q : ∀ d, toPy y = some d → d.depth ≤ 10) : SelfEq (.tup [x, y]) := by
  obtain ⟨d, a1, a2, a3⟩ := h1
  obtain ⟨e, b1, b2, b3⟩ := h2
  have p' := p d a1
  have q' := q e b1
  exact ⟨.tuple [d, e], by simp [nth, toPy, toPys, a1, b1], by simp [nth, PyData.depth, PyData.depthAll]; omega, by simp [nth, PyData.eqv, PyData.eqvAll, a3, b3]⟩
theorem places_ok (x y z : Int) : ∀ p ∈ lawPlaces, PlaceOk (pairsK x y z) p := by
  have i1 : SelfEq (.tup [.bool true, .int y]) := se_tup (se_bool _) (se_int _) (by simp [nth, toPy, PyData.depth]) (by simp [nth, toPy, PyData.depth])
  have i2 : SelfEq (.tup [.int x, .tup [.bool true, .int y]]) := se_tup (se_int _) i1 (by simp [nth, toPy, PyData.depth]) (by simp [nth, toPy, toPys, PyData.depth, PyData.depthAll])
  have ok : ∀ {p : Int × List Step} {r : CV} {r' : Option CV}, walkS ((atK (pairsK x y z) p.1).getD .none) p.2 = some r → lawS (atK (pairsK x y z) p.1) p.2 = some r' → r'.getD .none = r → SelfEq r → PlaceOk (pairsK x y z) p := fun h1 h2 h3 h4 => ⟨_, h1, ⟨_, h2, h3⟩, h4⟩
  intro p hp
  simp only [nth, lawPlaces, List.mem_cons, List.not_mem_nil, or_false] at hp
  rcases hp with rfl | rfl | rfl | rfl | rfl | rfl | rfl | rfl | rfl | rfl | rfl | rfl | rfl
  · exact ok rfl rfl rfl i2
  · exact ok rfl rfl rfl (se_int _)
  · exact ok rfl rfl rfl i1
  · exact ok rfl rfl rfl (se_bool _)
  · exact ok rfl rfl rfl se_none
  · exact ok rfl rfl rfl se_none
  · exact ok rfl rfl rfl se_none
  · exact ok rfl rfl rfl se_none
  · exact ok rfl rfl rfl se_none
  · exact ok rfl rfl rfl se_none
  · exact ok rfl rfl rfl (se_int _)
  · exact ok rfl rfl rfl se_none
  · exact ok rfl rfl rfl se_none
theorem pairs_self (x y z : Int) : dictEq eq2 (pairsK x y z) (pairsK x y z) = some true := by
  simp [nth, pairsK, dictEq, hits, atK, eq2, eqP, toPy, toPys, PyData.depth, PyData.depthAll, PyData.eqv, PyData.eqvAll]
theorem known_self (hF : FactsAt S a ka K) (h : dictEq eq2 K K = some true) : cmpV .Eq S (.loc ka) (.fdict K) = some true := by
  show eqW S (.loc ka) (.fdict K) = some true
  have hv : view S (.loc ka) = .fdict K := by unfold view; dsimp only; rw [hF.2]
  unfold eqW
  rw [hv]
  exact h
noncomputable def stepsL : List CV := [.tup [], .tup [stepV (.field 0)], .tup [stepV (.field 1)], .tup [stepV (.field 1), stepV (.field 0)], .tup [stepV .deref]]
theorem c_five {m : Nat} {x : CV} {A p : Option CV} {ρ : Rho} {a1 a2 a3 a4 a5 : CV} : Evc (Gm B m) (.name 2) (.tup [(.loc 1), (.loc 2)]) [] (A :: some x :: p :: ρ) S [a1, a2, a3, a4, a5] (A :: some x :: some a5 :: ρ) [.tup [x, a1], .tup [x, a2], .tup [x, a3], .tup [x, a4], .tup [x, a5]] := by
  have tt : ∀ {p : Option CV} {ys out : List CV} {y : CV} {ρ' : Rho}, Evc (Gm B m) (.name 2) (.tup [(.loc 1), (.loc 2)]) [] (A :: some x :: some y :: ρ) S ys ρ' out → Evc (Gm B m) (.name 2) (.tup [(.loc 1), (.loc 2)]) [] (A :: some x :: p :: ρ) S (y :: ys) ρ' (.tup [x, y] :: out) := fun h => c_on (t_name rfl) ts_nil (ev_tup (evs2 (ev_loc rfl) (ev_loc rfl)) rfl) h
  exact tt (tt (tt (tt (tt c_nil))))
theorem ev_places {m : Nat} {A D : Option CV} {ρ : Rho} : Ev (Gm B m) (.bin .Add (.lcomp 3 (.tup [(.loc 1), (.loc 2)]) (.list false [(.const (.int 0)), (.const (.int 1))]) (.name 1) [] [(.mk (.loc 5) (.name 2) [])]) (.list false [(.tup [(.const (.int 2)), (.tup [])]), (.tup [(.const (.int 2)), (.tup [(.tup [(.const (.str (Str.ofString "index"))), (.const (.int 0))])])]), (.tup [(.const (.int 3)), (.tup [])])]))
    (A :: D :: some (.flist stepsL) :: ρ) S (.flist (lawPlaces.map fun (p : Int × List Step) => placeV p.1 p.2)) :=
  ev_listadd (xs := [0, 1].flatMap fun (i : Int) => stepsL.map fun s => .tup [.int i, s]) (ev_lcomp2 (ev_list (evs2 ev_const ev_const) rfl) rfl (N := 10) rfl
      (c2_on (n := 5) (N := 5) (ρ1 := [none, some (.int 0), none] ++ (A :: D :: some (.flist stepsL) :: ρ)) (t_name rfl) ts_nil (ev_loc rfl) (items2 := stepsL) rfl c_five rfl rfl
      (c2_on (n := 5) (N := 0) (ρ1 := [none, some (.int 1), some (.tup [stepV .deref])] ++ (A :: D :: some (.flist stepsL) :: ρ)) (t_name rfl) ts_nil (ev_loc rfl) (items2 := stepsL) rfl c_five rfl rfl c2_nil)) rfl)
    (ev_list (evs3 (ev_tup (evs2 ev_const (ev_tup evs_nil rfl)) rfl) (ev_tup (evs2 ev_const (ev_tup (evs1 (ev_tup (evs2 ev_const ev_const) rfl)) rfl)) rfl) (ev_tup (evs2 ev_const (ev_tup evs_nil rfl)) rfl)) rfl) rfl
theorem facts_ok (E : Env0 B) {m : Nat} (hm : 6 ≤ m) {x y z : Int} (h : ∀ S', KeepAll S S' → Q (.bool true) S') : FnOk B m 437 [.fdict (pairsK x y z)] S Q := by
  refine fnm (rest := ["facts", "steps", "place", "due", "told"]) E (lv0 hm rfl) E.facts.f437 rfl (by decide +kernel) E.facts.b437 ?_
  have hpl := places_ok x y z
  have hse := pairs_self x y z
  have hlen : (pairsK x y z).length ≤ small := Nat.le_of_ble_eq_true rfl
  generalize pairsK x y z = K at hpl hse hlen
  have ef : ∀ {ρ : Rho} {S : Store} {i : Int}, Ev (Gm B (m - 1)) (.tup [(.const (.str (Str.ofString "field"))), (.const (.int i))]) ρ S (.tup [.str (Str.ofString "field"), .int i]) := ev_tup (evs2 ev_const ev_const) rfl
  refine q_tup2w (wp_call (ev_gl gl_Facts) (evs1 (ev_loc rfl)) (facts_new E (lv hm rfl) (kvs := K) (fun S' _ => rfl) hlen fun a d ka l1 l2 l3 => ?_))
  obtain ⟨hF, hk⟩ := facts_put (K := K) (d := d) l1 l2 l3
  generalize ((ka, CO.dict K) :: (a, CO.inst 254 d [(Str.ofString "known", .loc ka)]) :: S) = S1 at hF hk ⊢
  refine ev_list (evs_cons (ev_tup evs_nil rfl) (evs4 (ev_tup (evs1 ef) rfl) (ev_tup (evs1 ef) rfl) (ev_tup (evs2 ef ef) rfl) (ev_tup (evs1 (ev_tup (evs1 ev_const) rfl)) rfl))) rfl _ (swap_in rfl rfl ?_)
  show wpSs _ _ [some (.fdict K), some (.loc a), some (.flist stepsL), none, none, none] S1 _
  exact q_for (xs := lawPlaces.map fun (p : Int × List Step) => placeV p.1 p.2) ev_places rfl
    (places_loop E (lv hm rfl) hF (by exact fun _ => trivial) hpl none none none fun p q r => q_next (q_ret (ev_cmp (ev_attr (ev_loc rfl) (attr_known hF)) (ev_loc rfl) (known_self hF hse)) (h S1 hk)))
end
end Lend
namespace Lend
theorem pairs_tups : ∀ {kvs : KV}, pairsOf (kvs.map fun p => .tup [.int p.1, p.2]) = some kvs
  | [] => rfl
  | (k, v) :: r => by simp [nth, pairsOf, pairs_tups (kvs := r)]
theorem hits_of {veq : CV → CV → Option Bool} {kb : KV} : ∀ {ka : KV}, (∀ p ∈ ka, ∃ y, atK kb p.1 = some y ∧ veq p.2 y = some true) → hits veq kb ka = some true
  | [], _ => rfl
  | (k, v) :: r, h => by
    obtain ⟨y, h1, h2⟩ := h (k, v) (.head _)
    have ih := hits_of (veq := veq) (kb := kb) (ka := r) fun p hp => h p (.tail _ hp)
    simp only [nth, hits]
    rw [h1]
    dsimp only at h2 ⊢
    rw [h2, ih]; rfl
theorem eq2_sc {a b : CV} (ha : isSc a = true) (hb : isSc b = true) : eq2 a b = some (eqS a b) := by
  have h := eqP_sc ha hb
  cases a <;> first | (simp [nth, isSc] at ha; done) | (cases b <;> first | (simp [nth, isSc] at hb; done) | exact h)
theorem eqS_refl (a : CV) : eqS a a = true := by simp [nth, eqS]
theorem dict_refl {k : KV} (g : Good k) : dictEq eq2 k k = some true := by
  unfold dictEq
  rw [if_pos rfl]
  exact hits_of fun p hp => ⟨p.2, mem_atK g.n hp, by rw [eq2_sc (g.s p hp) (g.s p hp), eqS_refl]⟩
noncomputable def keptV : Option KV → CV
  | none => .none
  | some k => .fdict k
section
variable {B : Bs} {S : Store} {Q : CV → Store → Prop} {gd : Addr → Str → Option CV} {c b fo bg a ka lf src : Addr} {bs : List Blk} {fol beg K here : KV}
noncomputable def pairC : RE := .lcomp 2 (.tup [(.loc 1), (.sub (.loc 6) (.loc 1))]) (.loc 4) (.name 1) [(.and [(.cmp .In (.loc 1) (.loc 5)), (.cmp .Eq (.sub (.loc 5) (.loc 1)) (.sub (.loc 6) (.loc 1)))])] []
theorem pairC_ok {m : Nat} (gK : Good K) (g : Good here) {X Y Z : Option CV} : Ev (Gm B m) pairC [X, Y, Z, some (.fdict K), some (.fdict here)] S (.flist ((keptK K here).map fun p => .tup [.int p.1, p.2])) :=
  ev_filt (l := here) (f := fun p => .int p.1) (h := fun p => .tup [.int p.1, p.2]) (b := keepP K) (ev_loc rfl) rfl (Nat.le_trans g.len (by decide)) (fun p hp => ev_keep rfl rfl rfl rfl gK g hp) fun p hp _ => ev_tup (evs2 (ev_loc rfl) (ev_sub (ev_loc rfl) (ev_loc rfl) (item_dict rfl (mem_atK g.n hp)))) rfl
noncomputable def meetsTest : RS := (.ite (.or [(.cmp .NotEq (.meth false (.loc 1) (Str.ofString "meet") [(.const (.int 3)), (.call false (.glob (Str.ofString "dict")) [(.loc 3)])]) (.or [(.cmp .Is (.loc 4) (.const CV.none)), (.cmp .Lt (.call false (.glob (Str.ofString "len")) [(.loc 2)]) (.call false (.glob (Str.ofString "len")) [(.loc 4)]))])), (.cmp .NotEq (.sub (.attr (.loc 1) (Str.ofString "begins")) (.const (.int 3))) (.loc 2))]) [(.ret (some (.const (.bool false))))] [])
noncomputable def meetsBody : List RS := [(.asg (.name 4) (.loc 2)),
    (.asg (.name 2) (.call false (.glob (Str.ofString "dict")) [(.loc 3)])),
    (.ite (.cmp .IsNot (.loc 4) (.const CV.none)) [(.asg (.name 2) (.call false (.glob (Str.ofString "dict")) [pairC]))] []),
    meetsTest]
theorem ne_bool (x : Bool) : cmpV .NotEq S (.bool x) (.bool x) = some false := by
  show (eqW S (.bool x) (.bool x)).map (!·) = _
  rw [eqW_bool]; rfl
theorem ne_dict {k : KV} (g : Good k) : cmpV .NotEq S (.fdict k) (.fdict k) = some false := by
  show (eqW S (.fdict k) (.fdict k)).map (!·) = _
  rw [show eqW S (.fdict k) (.fdict k) = dictEq eq2 k k from rfl, dict_refl g]; rfl
noncomputable def lessB (kept : KV) : Option KV → Bool
  | none => true
  | some k => decide (kept.length < k.length)
theorem ev_less {m : Nat} {ρ : Rho} {kept : KV} {before : Option KV} (gk : Good kept) (gb : ∀ k, before = some k → Good k) (h2 : nth ρ 2 = some (.fdict kept)) (h4 : nth ρ 4 = some (keptV before)) :
    Ev (Gm B m) (.or [(.cmp .Is (.loc 4) (.const CV.none)), (.cmp .Lt (.call false (.glob (Str.ofString "len")) [(.loc 2)]) (.call false (.glob (Str.ofString "len")) [(.loc 4)]))]) ρ S (.bool (lessB kept before)) := by
  rcases before with _ | k
  · exact ev_or (evb_off (ev_cmp (ev_loc h4) ev_const rfl))
  · refine ev_or (evb_on (ev_cmp (ev_loc h4) ev_const rfl) (evb_last (ev_cmp (ev_len (ev_loc h2) rfl (Nat.le_trans gk.len (by decide))) (ev_len (ev_loc h4) rfl (Nat.le_trans (gb k rfl).len (by decide))) ?_)))
    exact congrArg some (decide_eq_decide.mpr Int.ofNat_lt)
theorem meets_test (E : Env0 B) {m : Nat} (hm : 5 ≤ m) {X : CV} {Kt : Fl → Rho → Store → Prop} {row kept : KV} {before : Option KV} (hC : CAt S c b fo bg bs fol beg) (gB : GoodB beg) (gr : Good row) (gk : Good kept) (gb : ∀ k, before = some k → Good k)
    (e1 : (meetK beg 3 row).1 = lessB kept before) (e3 : atK (meetK beg 3 row).2 3 = some (.fdict kept))
    (h : Kt .next [some X, some (.loc c), some (.fdict kept), some (.fdict row), some (keptV before)] (up S bg (.dict (meetK beg 3 row).2))) :
    wpSs (Gm B m) [meetsTest] [some X, some (.loc c), some (.fdict kept), some (.fdict row), some (keptV before)] S Kt := by
  have hC' := cat_upB hC (beg' := (meetK beg 3 row).2)
  refine q_if_orw (w_bcmp (wp_meth (ev_loc rfl) (kind_con hC (nm := "meet") (by decide) mt_meet) (evs2 ev_const (ev_dictof (ev_loc rfl) rfl (Nat.le_trans gr.len (by decide)))) (m_con hC mt_meet (meet_ok E (lv0 hm rfl) hC gB rfl gr ?_))))
  rw [e1]
  refine ev_less gk gb rfl rfl _ (w_bcmp_on (ne_bool _) (evb_on (ev_cmp (ev_sub (ev_attr (ev_loc rfl) (attr_begins hC')) ev_const (item_dict ?_ e3)) (ev_loc rfl) (ne_dict gk)) evb_nil _ (if_ff h)))
  unfold view; dsimp only; rw [hC'.hBg]
theorem meets_loop (E : Env0 B) {m : Nat} (hm : 5 ≤ m) {X : CV} {Kt : Fl → Rho → Store → Prop} {gg : Store → Prop} (hg : ∀ S, gg S) {rows : List KV} (hr : ∀ r ∈ rows, Good r) (S : Store) (beg : KV) (kept : Option KV) (p q : Option CV) (hC : CAt S c b fo bg bs fol beg) (gB : GoodB beg) (hk : atK beg 3 = kept.map .fdict) (gk : ∀ k, kept = some k → Good k)
    (h : ∀ S' ρ, (∀ x, x ≠ bg → lk S' x = lk S x) → Kt .next ρ S') : forN (Gm B m) gg 3 meetsBody (rows.map .fdict) [some X, some (.loc c), some (keptV kept), p, q] S Kt := by
  induction rows generalizing S beg kept p q with
  | nil => exact for_nil (h _ _ fun _ _ => rfl)
  | cons row rows ih =>
    have gr := hr row (.head _)
    have hC' := cat_upB hC (beg' := (meetK beg 3 row).2)
    have tail := fun (k2 : KV) (g2 : Good k2) e1 (e3 : atK (meetK beg 3 row).2 3 = some (.fdict k2)) => meets_test (X := X) E hm hC gB gr g2 gk e1 e3 (Kt := fun fl ρ' S' => match fl with
      | .next => gg S' ∧ forN (Gm B m) gg 3 meetsBody (rows.map .fdict) ρ' S' Kt
      | .ret v => Kt (.ret v) ρ' S') ⟨hg _, ih (fun r hr' => hr r (.tail _ hr')) (up S bg (.dict (meetK beg 3 row).2)) (meetK beg 3 row).2 (some k2) (some (.fdict row)) (some (keptV kept)) hC' (gB.meet (n := 3) (K := row) (by decide) gr) e3 (fun k hk => by cases hk; exact g2) fun S' ρ hS => h S' ρ fun x hx => by rw [hS x hx, lk_up_ne hx]⟩
    refine for_cons rfl (q_asg (ev_loc rfl) rfl (q_asg (ev_dictof (ev_loc rfl) rfl (Nat.le_trans gr.len (by decide))) rfl ?_))
    unfold meetK at tail
    rcases kept with _ | k
    · rw [show atK beg 3 = none from hk] at tail
      exact q_if_f (ev_cmp (ev_loc rfl) ev_const rfl) (tail row gr rfl at_put_self)
    · have g := gk k rfl
      rw [show atK beg 3 = some (.fdict k) from hk] at tail
      have gk2 : Good (keptK row k) := g.sub List.filter_sublist
      have hm2 : mergeK [] (keptK row k) = keptK row k := merge_new (acc := []) gk2.n
      exact q_then (ev_cmp (ev_loc rfl) ev_const rfl) (q_asg (x := .fdict (keptK row k)) (hm2 ▸ ev_dictofL (pairC_ok gr g) rfl pairs_tups (by rw [List.length_map]; exact Nat.le_trans gk2.len (by decide))) rfl (q_done (q_next (tail (keptK row k) gk2 rfl at_put_self))))
theorem meets_ok (E : Env0 B) {m : Nat} (hm : 7 ≤ m) {rows : List KV} (hr : ∀ r ∈ rows, Good r) (h : ∀ S', KeepAll S S' → Q (.bool true) S') : FnOk B m 447 [.flist (rows.map .fdict)] S Q := by
  refine fnm (rest := ["constants", "kept", "row", "before"]) E (lv0 hm rfl) E.facts.f447 rfl (by decide +kernel) E.facts.b447 ?_
  refine q_swap2w (w_call1 (ev_gl gl_Constants) (wp_call (ev_gl gl_law_body) (evs1 (ev_list (evs1 (ev_list (evs2 (ev_list evs_nil rfl) (ev_tup (evs1 ev_const) rfl)) rfl)) rfl)) (con_plain (m := m - 1) E (lv hm rfl) fun b c fo bg S1 l1 hC1 k1 l2 => ?_)))
  refine ev_const _ (swap_in rfl rfl (q_for (ev_loc rfl) rfl (meets_loop E (lv hm rfl) (fun _ => trivial) hr S1 [(0, .fdict [])] none none none hC1 ⟨by simp [nth, Kn], by simp, by simp; exact Good.nil⟩ rfl (fun _ e => by cases e) fun S' ρ hS => ?_)))
  refine q_next (q_ret ev_const (h S' fun x hx => ?_))
  have : x ≠ bg := (by rintro rfl; rw [l2] at hx; cases hx)
  rw [hS x this, k1 x hx]
end
end Lend
namespace Lend
noncomputable def toldBlks : List Blk := [([.set 4 (.cb (.bool true)), .set 0 (.cu (.int 9)), .set 1 (.cu (.int 1)), .lend "mut" 1], .sw 4 false 1 2), ([], .ret), ([], .sw 6 true 3 4), ([.set 2 (.copy 0)], .goto 4), ([], .ret)]
noncomputable def toldK : KV := [(4, .bool true), (0, .int 9)]
noncomputable def toldBeg : KV := [(0, .fdict []), (2, .fdict toldK), (3, .fdict toldK), (4, .fdict toldK)]
noncomputable def toldDue : KV := [(0, .fdict []), (2, .fdict [(0, .int 9), (4, .bool true)]), (3, .fdict [(0, .int 9), (4, .bool true)]), (4, .fdict [(0, .int 9), (4, .bool true)])]
theorem told_follow : followK (folF (folK (lentK toldBlks))) toldBlks 6 [(0, .fdict [])] [0] = some toldBeg := by rfl
theorem told_eq : dictEq eq2 toldBeg toldDue = some true := by
  have h : eq2 (.fdict toldK) (.fdict [(0, .int 9), (4, .bool true)]) = some true := by
    show dictEq eqP _ _ = _
    simp [nth, dictEq, toldK, hits, atK, eqP_sc (a := .bool true) (b := .bool true) rfl rfl, eqP_sc (a := .int 9) (b := .int 9) rfl rfl, eqS]
  have h0 : eq2 (.fdict []) (.fdict []) = some true := rfl
  simp [nth, dictEq, toldBeg, toldDue, hits, atK, h, h0]
theorem told_blks : BlksOk toldBlks := by
  intro n k hk
  unfold blk at hk
  have hm : k ∈ toldBlks := List.mem_of_getElem? hk
  simp only [nth, toldBlks, List.mem_cons, List.not_mem_nil, or_false] at hm
  rcases hm with rfl | rfl | rfl | rfl | rfl
  all_goals
    refine ⟨?_, ?_⟩
    · intro s hs
      simp at hs
      try (rcases hs with rfl | rfl | rfl | rfl <;> simp [nth, StmOk, SrcOk, isSc])
      try (subst hs; simp [nth, StmOk, SrcOk, isSc])
    · simp [nth, TrmOk, InR]
section
variable {B : Bs} {S : Store} {Q : CV → Store → Prop} {gd : Addr → Str → Option CV} {c b fo bg a ka lf src : Addr} {bs : List Blk} {fol beg K here : KV}
theorem ne_none_false : cmpV .NotEq S (.flist [.none, .bool false]) (.flist [.none, .bool false]) = some false := by kernel_rfl
theorem ne_three : cmpV .NotEq S (.flist [.int 3, .none, .none]) (.flist [.int 3, .none, .none]) = some false := by kernel_rfl
theorem told_ok_blks : ∀ b ∈ toldBlks, BlkOk b := fun b hb => by
  obtain ⟨n, hn⟩ := List.getElem?_of_mem hb
  exact (told_blks (n : Int) b (by unfold blk; rw [Int.toNat_natCast]; exact hn)).1
theorem one_lent : cmpV .Eq S (.fdict [(1, .bool true)]) (.fdict [(1, .bool true)]) = some true := by
  show dictEq eq2 [(1, .bool true)] [(1, .bool true)] = _
  simp [nth, dictEq, hits, atK, eq2_sc (a := .bool true) (b := .bool true) rfl rfl, eqS]
theorem beg_eq (hC : CAt S c b fo bg bs fol toldBeg) : cmpV .Eq S (.loc bg) (.fdict toldDue) = some true := by
  show eqW S _ _ = _
  have hv : view S (.loc bg) = .fdict toldBeg := by unfold view; dsimp only; rw [hC.hBg]
  unfold eqW
  rw [hv]
  exact told_eq
theorem none_of_ne {x b : Addr} (hb : lk S b = none) (hx : (lk S x).isSome = true) : x ≠ b := (by rintro rfl; rw [hb] at hx; cases hx)
theorem told_end (E : Env0 B) {m : Nat} (hm : 10 ≤ m) {X Y Z W V : CV} (h : ∀ S', KeepAll S S' → Q (.bool true) S') :
    wpSs (Gm B m) (r474.drop 12) [some X, some Y, some Z, some W, some V, some (.flist (toldBlks.map blkV)), none, none] S fun fl _ S' => match fl with | .ret v => Q v S' | .next => Q .none S' := by
  refine q_asgw rfl (w_call1 (ev_gl gl_Constants) (wp_call (ev_gl gl_law_body) (evs1 (ev_loc rfl)) (law_body_ok E (lv0 hm rfl) fun b d hb => con_new (bs := toldBlks) E (lv0 hm rfl) ⟨d, lk_head⟩ told_ok_blks fun c fo bg S1 hC k1 l1 => ?_)))
  have kk1 : KeepAll S S1 := (KeepAll.ext hb).trans k1
  refine q_exprw (wp_meth (ev_loc rfl) (kind_con hC (nm := "follow") (by decide) mt_follow) evs_nil (m_con hC mt_follow (follow_ok E (lv0 hm rfl) hC ⟨by simp [nth, Kn], by simp, by simp; exact Good.nil⟩ told_blks (f := 6) (by decide) told_follow fun S2 hC2 k2 => ?_)))
  have hbgS : ∀ x, (lk S x).isSome = true → x ≠ bg := fun x hx => none_of_ne l1 (by rw [KeepAll.ext hb x hx]; exact hx)
  have kk2 : KeepAll S S2 := fun x hx => by rw [k2 x (hbgS x hx) (by rw [kk1 x hx]; exact hx), kk1 x hx]
  refine q_asg (x := .fdict toldDue) (ev_dict (evs4 (ev_dict evs_nil) (ev_dict (evs2 ev_const ev_const)) (ev_dict (evs2 ev_const ev_const)) (ev_dict (evs2 ev_const ev_const)))) rfl (q_retw (w_and (wb_on (ev_cmp (ev_attr (ev_loc rfl) (attr_begins hC2)) (ev_loc rfl) (beg_eq hC2)) (w_bcmp (w_call1 (ev_gl gl_lent_locals) (wp_call (ev_gl gl_law_body) (evs1 (ev_loc rfl)) (law_body_ok E (lv0 hm rfl) fun b2 d2 hb2 => lent_ok E (lv0 hm rfl) (bs := toldBlks) ⟨d2, lk_head⟩ told_ok_blks ?_)))))))
  refine ev_dict (evs1 ev_const) _ (w_bcmp_on (x := .fdict (lentK toldBlks)) one_lent ?_)
  exact h _ (kk2.trans (KeepAll.ext hb2))
theorem told_ok (E : Env0 B) {m : Nat} (hm : 11 ≤ m) (h : ∀ S', KeepAll S S' → Q (.bool true) S') : FnOk B m 474 [] S Q := by
  refine fnm (names := []) (rest := ["facts", "told", "places", "some", "known", "blocks", "constants", "due"]) E (lv0 hm rfl) E.facts.f474 rfl (by decide +kernel) E.facts.b474 ?_
  refine q_asgw rfl (wp_call (ev_gl gl_Facts) (evs1 (ev_dict (evs2 ev_const (ev_tup (evs2 ev_const ev_const) rfl)))) (facts_new E (lv hm rfl) (kvs := [(0, CV.int 5), (5, .tup [.int 3, .bool true])]) (fun S' _ => rfl) (Nat.le_of_ble_eq_true rfl) fun a d ka l1 l2 l3 => ?_))
  obtain ⟨hF, hk⟩ := facts_put (K := [(0, CV.int 5), (5, .tup [.int 3, .bool true])]) (d := d) l1 l2 l3
  generalize ((ka, CO.dict [(0, CV.int 5), (5, .tup [.int 3, .bool true])]) :: (a, CO.inst 254 d [(Str.ofString "known", .loc ka)]) :: S) = S1 at hF hk ⊢
  have kf := kind_facts (B := B) (m := m - 1) hF (nm := "at_operand") (by decide) mt_at_operand
  have kp := kind_facts (B := B) (m := m - 1) hF (nm := "at_place") (by decide) mt_at_place'
  refine q_asg (ev_lcomp (ev_list (evs2 (ev_tup (evs2 (ev_tup (evs2 ev_const (ev_tup evs_nil rfl)) rfl) (ev_tup evs_nil rfl)) rfl) (ev_tup (evs2 (ev_tup (evs1 ev_const) rfl) ev_const) rfl)) rfl) rfl rfl
    (c_on (t_tup rfl rfl) ts_nil (ev_meth (ev_loc rfl) kf (evs1 (ev_tup (evs3 ev_const (ev_loc rfl) (ev_loc rfl)) rfl)) fun Q k => m_facts hF mt_at_operand (at_const E (lv hm rfl) (w := "tuple") (by rw [if_neg (by decide)]; exact k)))
    (c_on (t_tup rfl rfl) ts_nil (ev_meth (ev_loc rfl) kf (evs1 (ev_tup (evs3 ev_const (ev_loc rfl) (ev_loc rfl)) rfl)) fun Q k => m_facts hF mt_at_operand (at_const E (lv hm rfl) (w := "bool") (by rw [if_pos (by decide)]; exact k)))
    c_nil)) rfl) rfl
    (q_if_f (ev_cmp (ev_loc rfl) (ev_list (evs2 ev_const ev_const) rfl) ne_none_false) ?_)
  refine q_asg (ev_list (evs3 (ev_tup (evs2 ev_const (ev_tup (evs1 (ev_tup (evs2 ev_const ev_const) rfl)) rfl)) rfl) (ev_tup (evs2 ev_const (ev_tup (evs1 (ev_tup (evs1 ev_const) rfl)) rfl)) rfl) (ev_tup (evs2 ev_const (ev_tup evs_nil rfl)) rfl)) rfl) rfl
    (q_if_f (ev_cmp (ev_lcomp (ev_loc rfl) rfl rfl
      (c_on (t_name rfl) ts_nil (ev_meth (ev_loc rfl) kp (evs1 (ev_loc rfl)) fun Q k => m_facts hF mt_at_place' (at_place_ok E (lv hm rfl) (l := 5) (ps := [.field 0]) (r := .int 3) hF rfl k))
      (c_on (t_name rfl) ts_nil (ev_meth (ev_loc rfl) kp (evs1 (ev_loc rfl)) fun Q k => m_facts hF mt_at_place' (at_place_ok E (lv hm rfl) (l := 0) (ps := [.deref]) (r := .none) hF rfl k))
      (c_on (t_name rfl) ts_nil (ev_meth (ev_loc rfl) kp (evs1 (ev_loc rfl)) fun Q k => m_facts hF mt_at_place' (at_place_ok E (lv hm rfl) (l := 1) (ps := []) (r := .none) hF rfl k)) c_nil))) rfl) (ev_list (evs3 ev_const ev_const ev_const) rfl) ne_three) ?_)
  refine q_asg (ev_list (evs1 (ev_tup (evs3 ev_const (ev_tup (evs2 ev_const (ev_tup evs_nil rfl)) rfl) (ev_tup (evs2 ev_const (ev_tup (evs3 ev_const (ev_tup (evs1 ev_const) rfl) ev_const) rfl)) rfl)) rfl)) rfl) rfl ?_
  have eu : ∀ {ρ : Rho}, Ev (Gm B (m - 1)) (.call false (.glob (Str.ofString "_law_u8")) []) ρ S1 (tyV .u8) := ev_call gl_u8 evs_nil fun Q k => u8_ok E (lv hm rfl) k
  have es : ∀ {ρ : Rho} {x y : CV}, nth ρ 1 = some x → nth ρ 2 = some y → Ev (Gm B (m - 1)) (.tup [(.const (.str (Str.ofString "assign"))), (.tup [(.loc 1), (.tup [])]), (.tup [(.const (.str (Str.ofString "use"))), (.tup [(.const (.str (Str.ofString "const"))), (.call false (.glob (Str.ofString "_law_u8")) []), (.loc 2)])])]) ρ S1 (.tup [.str (Str.ofString "assign"), .tup [x, .tup []], .tup [.str (Str.ofString "use"), .tup [.str (Str.ofString "const"), tyV .u8, y]]]) :=
    fun h1 h2 => ev_tup (evs3 ev_const (ev_tup (evs2 (ev_loc h1) (ev_tup evs_nil rfl)) rfl) (ev_tup (evs2 ev_const (ev_tup (evs3 ev_const eu (ev_loc h2)) rfl)) rfl)) rfl
  refine q_cat (ev_loc rfl) (ev_lcomp (ev_list (evs2 (ev_tup (evs2 ev_const ev_const) rfl) (ev_tup (evs2 ev_const ev_const) rfl)) rfl) rfl rfl (c_on (t_tup rfl rfl) ts_nil (es rfl rfl) (c_on (t_tup rfl rfl) ts_nil (es rfl rfl) c_nil)) rfl) rfl rfl fun sl s1 s2 => ?_
  refine q_append (ev_loc rfl) lk_head (ev_tup (evs3 ev_const (ev_tup (evs2 ev_const (ev_tup evs_nil rfl)) rfl) (ev_tup (evs4 ev_const ev_const ev_const (ev_tup (evs2 ev_const (ev_tup evs_nil rfl)) rfl)) rfl)) rfl) rfl (q_freeze rfl lk_up_head rm_up_head ?_)
  refine q_asg (ev_tup (evs4 ev_const (ev_tup (evs2 ev_const (ev_tup (evs2 ev_const (ev_tup evs_nil rfl)) rfl)) rfl) (ev_tup (evs1 (ev_tup (evs2 ev_const ev_const) rfl)) rfl) ev_const) rfl) rfl ?_
  refine q_asg (ev_list (evs3 (ev_list (evs2 (ev_loc rfl) (ev_loc rfl)) rfl) (ev_list (evs2 (ev_list evs_nil rfl) (ev_tup (evs1 ev_const) rfl)) rfl) (ev_list (evs2 (ev_list evs_nil rfl) (ev_tup (evs4 ev_const (ev_tup (evs2 ev_const (ev_tup (evs2 ev_const (ev_tup evs_nil rfl)) rfl)) rfl) (ev_tup (evs1 (ev_tup (evs2 ev_const ev_const) rfl)) rfl) ev_const) rfl)) rfl)) rfl) rfl ?_
  refine q_asg (ev_listadd (ev_loc rfl) (ev_list (evs2 (ev_list (evs2 (ev_list (evs1 (ev_tup (evs3 ev_const (ev_tup (evs2 ev_const (ev_tup evs_nil rfl)) rfl) (ev_tup (evs2 ev_const (ev_tup (evs2 ev_const (ev_tup (evs2 ev_const (ev_tup evs_nil rfl)) rfl)) rfl)) rfl)) rfl)) rfl) (ev_tup (evs2 ev_const ev_const) rfl)) rfl) (ev_list (evs2 (ev_list evs_nil rfl) (ev_tup (evs1 ev_const) rfl)) rfl)) rfl) rfl) rfl ?_
  exact told_end E (lv hm rfl) fun S' hS => h S' (hk.trans hS)
end
end Lend
namespace Lend
noncomputable def deedV : Stm → CV
  | .set l (.cu v) => .tup [.int l, v, .none]
  | .set l (.cb v) => .tup [.int l, v, .none]
  | .set l (.copy o) => .tup [.int l, .none, .int o]
  | .lend _ _ => .tup [.int 7, .none, .none]
  | .mark _ l => .tup [.int l, .none, .none]
  | .print _ => .none
noncomputable def In4 (l : Int) : Prop := 0 ≤ l ∧ l < 4
noncomputable def LSrc : Src → Prop
  | .cu v => ∃ i, v = .int i
  | .cb _ => False
  | .copy o => In4 o
noncomputable def LStm : Stm → Prop
  | .set l s => In4 l ∧ LSrc s
  | .lend w o => w = "shared" ∧ In4 o
  | .mark w l => (w = "live" ∨ w = "dead") ∧ In4 l
  | .print l => In4 l
noncomputable def outsT : Trm → List Int
  | .ret => []
  | .goto g => [g]
  | .sw _ _ g d => [g, d]
  | .call _ g => [g]
  | .drop _ g => [g]
noncomputable def goneT : Trm → CV
  | .call l _ => .int l
  | .drop l _ => .int l
  | _ => .none
noncomputable def LEnd (n : Int) : Trm → Prop
  | .ret => True
  | .goto g => n < g ∧ g ≤ 4
  | .sw l k g d => l = 6 ∧ k = true ∧ (n < g ∧ g ≤ 4) ∧ n < d ∧ d ≤ 4
  | .call l g => In4 l ∧ n < g ∧ g ≤ 4
  | .drop l g => In4 l ∧ n < g ∧ g ≤ 4
noncomputable def KeepBut (src : Addr) (S S' : Store) : Prop := ∀ x, x ≠ src → lk S' x = lk S x
theorem KeepBut.refl (src : Addr) (S : Store) : KeepBut src S S := fun _ _ => rfl
theorem KeepBut.trans {src : Addr} {S S' S'' : Store} (h : KeepBut src S S') (k : KeepBut src S' S'') : KeepBut src S S'' := fun x hx => by rw [k x hx, h x hx]
section
variable {B : Bs} {S : Store} {Q : CV → Store → Prop} {gd : Addr → Str → Option CV} {c b fo bg a ka lf src : Addr} {bs : List Blk} {fol beg K here : KV}
theorem take_keep (E : Env0 B) {m : Nat} (hm : 3 ≤ m) {top : Int} (hS : SrcAt S src) (h0 : 0 < top) (h1 : top ≤ 1000) (h : ∀ r S', 0 ≤ r → r < top → SrcAt S' src → KeepBut src S S' → Q (.int r) S') : FnOk B m 399 [.loc src, .int top] S Q :=
  take_ok E hm hS h0 h1 fun r p q r0 r1 q0 q1 => h r _ r0 r1 (hS.upS q0 q1) fun x hx => lk_up_ne hx
theorem one_keep (E : Env0 B) {m : Nat} (hm : 4 ≤ m) {xs : List CV} (hS : SrcAt S src) (h0 : xs ≠ []) (h1 : xs.length ≤ 1000) (h : ∀ x ∈ xs, ∀ S', SrcAt S' src → KeepBut src S S' → Q x S') : FnOk B m 406 [.loc src, .flist xs] S Q :=
  one_ok E hm hS h0 h1 fun x hx p q q0 q1 => h x hx _ (hS.upS q0 q1) fun x hx => lk_up_ne hx
theorem cmp_ieq (x y : Int) : cmpV .Eq S (.int x) (.int y) = some (decide (x = y)) := cmp_sc (x := .int x) (y := .int y) rfl rfl
theorem cmp_ieq_t (x : Int) : cmpV .Eq S (.int x) (.int x) = some true := by rw [cmp_ieq, decide_eq_true rfl]
theorem cmp_ieq_f {x y : Int} (h : x ≠ y) : cmpV .Eq S (.int x) (.int y) = some false := by rw [cmp_ieq, decide_eq_false h]
section
variable {m : Nat} {ρ : Rho} {i : Nat} {l : CV}
theorem ev_place (h : nth ρ i = some l) : Ev (Gm B m) (.tup [(.loc i), (.tup [])]) ρ S (.tup [l, .tup []]) := ev_tup (evs2 (ev_loc h) (ev_tup evs_nil rfl)) rfl
theorem ev_placeC {l : CV} : Ev (Gm B m) (.tup [(.const l), (.tup [])]) ρ S (.tup [l, .tup []]) := ev_tup (evs2 ev_const (ev_tup evs_nil rfl)) rfl
theorem ev_copy {p : RE} {w : CV} (h : Ev (Gm B m) p ρ S l) : Ev (Gm B m) (.tup [(.const w), p]) ρ S (.tup [w, l]) := ev_tup (evs2 ev_const h) rfl
theorem ev_u8 (E : Env0 B) (hm : 3 ≤ m) : Ev (Gm B m) (.call false (.glob (Str.ofString "_law_u8")) []) ρ S (.tup [.str (Str.ofString "int"), .str (Str.ofString "u8")]) := ev_call gl_u8 evs_nil fun Q k => u8_ok E hm k
end
theorem in02 {x : Int} (h0 : 0 ≤ x) (h : x < 7) : x < 2 ∨ (2 ≤ x ∧ x < 4) ∨ x = 4 ∨ x = 5 ∨ x = 6 := by omega
theorem statement_ok (E : Env0 B) {m : Nat} (hm : 5 ≤ m) (hS : SrcAt S src) (h : ∀ s S', LStm s → SrcAt S' src → KeepBut src S S' → Q (.tup [stmV s, deedV s]) S') : FnOk B m 454 [.loc src] S Q := by
  refine fnm (rest := ["way", "local", "other", "value"]) E (lv0 hm rfl) E.facts.f454 rfl (by decide +kernel) E.facts.b454 ?_
  refine q_swap3w (wp_call (ev_gl gl_take) (evs2 (ev_loc rfl) ev_const) (take_keep E (lv hm rfl) hS (by decide) (by decide) fun way S1 w0 w1 hS1 k1 => wp_call (ev_gl gl_take) (evs2 (ev_loc rfl) ev_const) (take_keep E (lv hm rfl) hS1 (by decide) (by decide) fun l S2 l0 l1 hS2 k2 => wp_call (ev_gl gl_take) (evs2 (ev_loc rfl) ev_const) (take_keep E (lv hm rfl) hS2 (by decide) (by decide) fun o S3 o0 o1 hS3 k3 => swap_in rfl rfl ?_))))
  show wpSs _ _ [some (.loc src), some (.int way), some (.int l), some (.int o), none] S3 _
  have h := fun s S' hs hS' k => h s S' hs hS' (((k1.trans k2).trans k3).trans k)
  have hl : In4 l := ⟨l0, l1⟩
  have ho : In4 o := ⟨o0, o1⟩
  clear k1 k2 k3 hS hS1 hS2 l0 l1 o0 o1
  rcases in02 w0 w1 with hw | ⟨q1, q2⟩ | rfl | rfl | rfl
  · refine q_then (ev_cmp (ev_loc rfl) ev_const (cmp_lt_t hw)) (q_asgw rfl (wp_call (ev_gl gl_take) (evs2 (ev_loc rfl) ev_const) (take_keep E (lv hm rfl) hS3 (by decide) (by decide) fun v S4 v0 v1 hS4 k4 => ?_)))
    exact q_ret (ev_tup (evs2 (ev_tup (evs3 ev_const (ev_place rfl) (ev_copy (ev_tup (evs3 ev_const (ev_u8 E (lv hm rfl)) (ev_loc rfl)) rfl))) rfl) (ev_tup (evs3 (ev_loc rfl) (ev_loc rfl) ev_const) rfl)) rfl) (h (.set l (.cu (.int v))) S4 ⟨hl, v, rfl⟩ hS4 k4)
  · exact q_if_f (ev_cmp (ev_loc rfl) ev_const (cmp_lt_f (Int.not_lt.mpr q1))) (q_if_ret (ev_cmp (ev_loc rfl) ev_const (cmp_lt_t q2)) (ev_tup (evs2 (ev_tup (evs3 ev_const (ev_place rfl) (ev_copy (ev_copy (ev_place rfl)))) rfl) (ev_tup (evs3 (ev_loc rfl) ev_const (ev_loc rfl)) rfl)) rfl) (h (.set l (.copy o)) S3 ⟨hl, ho⟩ hS3 (KeepBut.refl _ _)))
  · exact q_if_f (ev_cmp (ev_loc rfl) ev_const (cmp_lt_f (by decide))) (q_if_f (ev_cmp (ev_loc rfl) ev_const (cmp_lt_f (by decide))) (q_if_ret (ev_cmp (ev_loc rfl) ev_const (cmp_ieq_t _)) (ev_tup (evs2 (ev_tup (evs3 ev_const ev_placeC (ev_tup (evs4 ev_const ev_const ev_const (ev_place rfl)) rfl)) rfl) (ev_tup (evs3 ev_const ev_const ev_const) rfl)) rfl) (h (.lend "shared" o) S3 ⟨rfl, ho⟩ hS3 (KeepBut.refl _ _))))
  · refine q_if_f (ev_cmp (ev_loc rfl) ev_const (cmp_lt_f (by decide))) (q_if_f (ev_cmp (ev_loc rfl) ev_const (cmp_lt_f (by decide))) (q_if_f (ev_cmp (ev_loc rfl) ev_const (cmp_ieq_f (by decide))) (q_then (ev_cmp (ev_loc rfl) ev_const (cmp_ieq_t _)) (q_retw (w_tup (w_cons (w_tup (w_cons (wp_call (ev_gl gl_law_one) (evs2 (ev_loc rfl) (ev_list (evs2 ev_const ev_const) rfl)) (one_keep E (lv hm rfl) hS3 (by decide) (Nat.le_of_ble_eq_true rfl) fun x hx S4 hS4 k4 => ?_))))))))))
    have ok : Q (.tup [.tup [x, .int l], .tup [.int l, .none, .none]]) S4 := by
      rcases List.mem_cons.mp hx with rfl | hx
      · exact h (.mark "live" l) S4 ⟨.inl rfl, hl⟩ hS4 k4
      · rw [List.mem_singleton] at hx
        subst hx
        exact h (.mark "dead" l) S4 ⟨.inr rfl, hl⟩ hS4 k4
    exact evs1 (ev_loc rfl) _ ⟨Nat.le_of_ble_eq_true rfl, evs1 (ev_tup (evs3 (ev_loc rfl) ev_const ev_const) rfl) _ ⟨Nat.le_of_ble_eq_true rfl, ok⟩⟩
  · exact q_if_f (ev_cmp (ev_loc rfl) ev_const (cmp_lt_f (by decide))) (q_if_f (ev_cmp (ev_loc rfl) ev_const (cmp_lt_f (by decide))) (q_if_f (ev_cmp (ev_loc rfl) ev_const (cmp_ieq_f (by decide))) (q_if_f (ev_cmp (ev_loc rfl) ev_const (cmp_ieq_f (by decide)))
      (q_ret (ev_tup (evs2 (ev_copy (ev_copy (ev_place rfl))) ev_const) rfl) (h (.print l) S3 hl hS3 (KeepBut.refl _ _))))))
theorem tc_range {own : Bool} {n : Int} (h0 : decide (-(10 ^ 6) ≤ n ∧ n ≤ 10 ^ 6) = true) (h : Q (.rng 0 n) S) : typeCallW own "range" [.int n] S Q := by
  unfold typeCallW
  rw [if_neg (by decide), if_pos rfl]
  exact ⟨(of_decide_eq_true h0).1, (of_decide_eq_true h0).2, h⟩
theorem iter_rng2 : iterX S (.rng 0 2) = some [.int 0, .int 1] := by simp [nth, iterX, rangeL]
theorem in05 {x : Int} (h0 : 0 ≤ x) (h : x < 5) : x = 0 ∨ (x ≠ 0 ∧ x < 3) ∨ x = 3 ∨ x = 4 := by omega
theorem goal_in {n g : Int} (n1 : n ≤ 4) (g0 : 0 ≤ g) (g1 : g < 4 - n) : n < n + 1 + g ∧ n + 1 + g ≤ 4 := by omega
theorem end_ok (E : Env0 B) {m : Nat} (hm : 5 ≤ m) {n : Int} (n0 : 0 ≤ n) (n1 : n ≤ 4) (hS : SrcAt S src) (h : ∀ t S', LEnd n t → SrcAt S' src → KeepBut src S S' → Q (.tup [trmV t, .flist ((outsT t).map .int), goneT t]) S') : FnOk B m 459 [.loc src, .int n] S Q := by
  refine fnm (rest := ["goals", "local", "way"]) E (lv0 hm rfl) E.facts.f459 rfl (by decide +kernel) E.facts.b459 ?_
  by_cases q : n = 4
  · subst q
    exact q_if_ret (ev_cmp (ev_loc rfl) ev_const (cmp_ieq_t _)) (ev_tup (evs3 (ev_tup (evs1 ev_const) rfl) (ev_list evs_nil rfl) ev_const) rfl) (h .ret S trivial hS (KeepBut.refl _ _))
  · have t0 : 0 < 4 - n := by omega
    have t1 : 4 - n ≤ 1000 := by omega
    refine q_if_f (ev_cmp (ev_loc rfl) ev_const (cmp_ieq_f q)) (q_swap2w (w_lcomp (ev_type gl_range (evs1 ev_const) (v := .rng 0 2) fun _ k => tc_range rfl k) iter_rng2
      (w_con (t_name rfl) ts_nil (w_bin (ev_plus (ev_loc rfl) ev_const) (wp_call (ev_gl gl_take) (evs2 (ev_loc rfl) (ev_minus ev_const (ev_loc rfl))) (take_keep E (lv hm rfl) hS t0 t1 fun g S1 g0 g1 hS1 k1 => ⟨Nat.zero_le _, trivial,
      w_con (t_name rfl) ts_nil (w_bin (ev_plus (ev_loc rfl) ev_const) (wp_call (ev_gl gl_take) (evs2 (ev_loc rfl) (ev_minus ev_const (ev_loc rfl))) (take_keep E (lv hm rfl) hS1 t0 t1 fun d S2 d0 d1 hS2 k2 => ⟨Nat.le_of_ble_eq_true rfl, trivial, rfl, ?_⟩)))⟩))))))
    refine wp_call (ev_gl gl_take) (evs2 (ev_loc rfl) ev_const) (take_keep E (lv hm rfl) hS2 (by decide) (by decide) fun l S3 l0 l1 hS3 k3 => swap_in rfl rfl ?_)
    have hg := goal_in n1 g0 g1
    have hd := goal_in n1 d0 d1
    generalize n + 1 + g = g at hg
    generalize n + 1 + d = d at hd
    show wpSs _ _ [some (.loc src), some (.int n), some (.flist [.int g, .int d]), some (.int l), none] S3 _
    have h := fun s S' hs hS' k => h s S' hs hS' (((k1.trans k2).trans k3).trans k)
    have hl : In4 l := ⟨l0, l1⟩
    clear k1 k2 k3 hS hS1 hS2 l0 l1 g0 g1 d0 d1
    refine q_asgw rfl (wp_call (ev_gl gl_take) (evs2 (ev_loc rfl) ev_const) (take_keep E (lv hm rfl) hS3 (by decide) (by decide) fun way S4 w0 w1 hS4 k4 => ?_))
    rcases in05 w0 w1 with rfl | ⟨q0, q1⟩ | rfl | rfl
    · exact q_if_ret (ev_cmp (ev_loc rfl) ev_const (cmp_ieq_t _)) (ev_tup (evs3 (ev_copy (ev_fl0 (ev_loc rfl) rfl)) (ev_cut (n := 1) (ev_loc rfl) rfl rfl rfl) ev_const) rfl) (h (.goto g) S4 hg hS4 k4)
    · exact q_if_f (ev_cmp (ev_loc rfl) ev_const (cmp_ieq_f q0)) (q_if_ret (ev_cmp (ev_loc rfl) ev_const (cmp_lt_t q1)) (ev_tup (evs3 (ev_tup (evs4 ev_const (ev_copy ev_placeC) (ev_tup (evs1 (ev_copy (ev_fl0 (ev_loc rfl) rfl))) rfl) (ev_f1 (ev_loc rfl) rfl)) rfl) (ev_loc rfl) ev_const) rfl) (h (.sw 6 true g d) S4 ⟨rfl, rfl, hg, hd⟩ hS4 k4))
    · exact q_if_f (ev_cmp (ev_loc rfl) ev_const (cmp_ieq_f (by decide))) (q_if_f (ev_cmp (ev_loc rfl) ev_const (cmp_lt_f (by decide))) (q_if_ret (ev_cmp (ev_loc rfl) ev_const (cmp_ieq_t _)) (ev_tup (evs3 (ev_tup (evs_cons ev_const (evs4 (ev_tup (evs3 ev_const ev_const (ev_tup evs_nil rfl)) rfl) (ev_tup evs_nil rfl) (ev_place rfl) (ev_fl0 (ev_loc rfl) rfl))) rfl) (ev_cut (n := 1) (ev_loc rfl) rfl rfl rfl) (ev_loc rfl)) rfl) (h (.call l g) S4 ⟨hl, hg⟩ hS4 k4)))
    · exact q_if_f (ev_cmp (ev_loc rfl) ev_const (cmp_ieq_f (by decide))) (q_if_f (ev_cmp (ev_loc rfl) ev_const (cmp_lt_f (by decide))) (q_if_f (ev_cmp (ev_loc rfl) ev_const (cmp_ieq_f (by decide))) (q_ret (ev_tup (evs3 (ev_tup (evs3 ev_const (ev_place rfl) (ev_fl0 (ev_loc rfl) rfl)) rfl) (ev_cut (n := 1) (ev_loc rfl) rfl rfl rfl) (ev_loc rfl)) rfl) (h (.drop l g) S4 ⟨hl, hg⟩ hS4 k4))))
end
end Lend
namespace Lend
noncomputable def flL (lent : List Int) (l : Int) : Bool := decide (l ∉ lent) && decide (l < 4)
section
variable {B : Bs} {S : Store} {Q : CV → Store → Prop} {gd : Addr → Str → Option CV} {c b fo bg a ka lf src h : Addr} {bs : List Blk} {fol beg K here : KV}
noncomputable def deedTail : List RS := [(.expr (.meth false (.loc 8) (Str.ofString "pop") [(.loc 10), (.const CV.none)])),
    (.ite (.and [(.cmp .IsNot (.loc 13) (.const CV.none)), (.cmp .NotIn (.loc 10) (.loc 2)), (.cmp .Lt (.loc 10) (.const (.int 4)))]) [(.asg (.sub (.loc 8) (.loc 10)) (.loc 13))] [])]
noncomputable def deedBody : List RS := [(.ite (.cmp .IsNot (.loc 9) (.const CV.none)) ((.asg (.tup [10, 11, 12]) (.loc 9)) :: (.asg (.name 13) (.ite (.cmp .Is (.loc 11) (.const CV.none)) (.meth false (.loc 8) (Str.ofString "get") [(.loc 12)]) (.loc 11))) :: deedTail) [])]
theorem notin_ints {l : Int} {lent : List Int} : cmpV .NotIn S (.int l) (.flist (lent.map .int)) = some (decide (l ∉ lent)) := by
  rw [show ∀ a b, cmpV .NotIn S a b = (inW S a b).map (!·) from fun _ _ => rfl, in_ints (l := lent) rfl, decide_not]; rfl
theorem deed_tail {m : Nat} {lent : List Int} {l : Int} {o : Option CV} (g : Good K) (ho : ∀ v, o = some v → isSc v = true) {ρ : Rho} {Kt : Fl → Rho → Store → Prop} (r2 : nth ρ 2 = some (.flist (lent.map .int))) (r8 : nth ρ 8 = some (.loc h)) (r10 : nth ρ 10 = some (.int l)) (r13 : nth ρ 13 = some (o.getD .none))
    (hk : Kt .next ρ ((h, .dict (setO (flL lent) K l o)) :: S)) : wpSs (Gm B m) deedTail ρ ((h, .dict K) :: S) Kt := by
  refine q_dpop (ev_loc r8) (ev_loc r10) lk_head (Nat.le_trans g.len (by decide)) up_head ?_
  rcases o with _ | v
  · exact q_if_f (ev_and (evb_off (ev_cmp (ev_loc r13) ev_const rfl))) (q_done hk)
  · have hc : Ev (Gm B m) (.and [(.cmp .IsNot (.loc 13) (.const CV.none)), (.cmp .NotIn (.loc 10) (.loc 2)), (.cmp .Lt (.loc 10) (.const (.int 4)))]) ρ ((h, .dict (delK K l)) :: S) (.bool (flL lent l)) :=
      ev_and (evb_on (ev_cmp (ev_loc r13) ev_const (isnot_sc (ho v rfl))) (evb_and2 (ev_cmp (ev_loc r10) (ev_loc r2) notin_ints) fun _ => ev_cmp (ev_loc r10) ev_const rfl))
    unfold setO at hk
    dsimp only at hk
    cases hf : flL lent l
    · rw [hf] at hc hk
      rw [if_neg (by decide)] at hk
      exact q_if_f hc (q_done hk)
    · rw [hf] at hc hk
      rw [if_pos rfl] at hk
      refine q_then hc (q_setd (ev_loc r13) (ev_loc r8) (ev_loc r10) lk_head (Nat.le_trans (g.del l).len (by decide)) ?_)
      rw [up_head]
      exact q_done (q_next (q_done hk))
theorem LStm.ok {s : Stm} (hl : LStm s) : StmOk s := by
  have i8 : ∀ {l : Int}, In4 l → 0 ≤ l ∧ l < 8 := fun h => ⟨h.1, Int.lt_trans h.2 (by decide)⟩
  rcases s with ⟨l, s⟩ | ⟨w, o⟩ | ⟨w, l⟩ | l
  · obtain ⟨h1, h2⟩ := hl
    refine ⟨i8 h1, ?_⟩
    rcases s with v | v | o
    · obtain ⟨i, rfl⟩ := h2; rfl
    · exact h2.elim
    · exact i8 h2
  · exact ⟨.inl hl.1, i8 hl.2⟩
  · exact ⟨hl.1, i8 hl.2⟩
  · exact i8 hl
noncomputable def ρD (X Y : CV) (lent : List Int) (fd lf : Addr) (p5 p6 p7 : Option CV) (h : Addr) (p9 p10 p11 p12 p13 p14 p15 : Option CV) : Rho := [some X, some Y, some (.flist (lent.map .int)), some (.loc fd), some (.loc lf), p5, p6, p7, some (.loc h), p9, p10, p11, p12, p13, p14, p15, none, none, none]
theorem deeds_loop {m : Nat} {lent : List Int} {X Y : CV} {fd lf : Addr} {p5 p6 p7 p14 p15 : Option CV} {Kt : Fl → Rho → Store → Prop} {gg : Store → Prop} (hg : ∀ S, gg S) (ss : List Stm) (K : KV) (p9 p10 p11 p12 p13 : Option CV) (hs : ∀ s ∈ ss, LStm s) (g : Good K)
    (hk : ∀ p9 p10 p11 p12 p13, Kt .next (ρD X Y lent fd lf p5 p6 p7 h p9 p10 p11 p12 p13 p14 p15) ((h, .dict (ss.foldl (stmK (flL lent)) K)) :: S)) :
    forN (Gm B m) gg 9 deedBody (ss.map deedV) (ρD X Y lent fd lf p5 p6 p7 h p9 p10 p11 p12 p13 p14 p15) ((h, .dict K) :: S) Kt := by
  induction ss generalizing K p9 p10 p11 p12 p13 with
  | nil => exact for_nil (hk _ _ _ _ _)
  | cons s ss ih =>
    have hl := hs s (.head _)
    have ih := fun p9 p10 p11 p12 p13 => ih (stmK (flL lent) K s) p9 p10 p11 p12 p13 (fun t ht => hs t (.tail _ ht)) (g.stm hl.ok) hk
    clear hk hs
    refine for_cons rfl ?_
    have go : ∀ {l : Int} {o : Option CV} {y z : CV}, deedV s = .tup [.int l, y, z] → (∀ v, o = some v → isSc v = true) → stmK (flL lent) K s = setO (flL lent) K l o →
        (∀ {ρ : Rho}, nth ρ 8 = some (.loc h) → nth ρ 11 = some y → nth ρ 12 = some z → Ev (Gm B m) (.ite (.cmp .Is (.loc 11) (.const CV.none)) (.meth false (.loc 8) (Str.ofString "get") [(.loc 12)]) (.loc 11)) ρ ((h, .dict K) :: S) (o.getD .none)) →
        wpSs (Gm B m) deedBody ((ρD X Y lent fd lf p5 p6 p7 h p9 p10 p11 p12 p13 p14 p15).set 9 (some (deedV s))) ((h, .dict K) :: S) fun fl ρ' S' => match fl with | .next => gg S' ∧ forN (Gm B m) gg 9 deedBody (ss.map deedV) ρ' S' Kt | .ret v => Kt (.ret v) ρ' S' := by
      intro l o y z e1 h1 e2 h2
      rw [e1]
      rw [e2] at ih
      refine q_then (ev_cmp (ev_loc rfl) ev_const rfl) (q_tup (ev_loc rfl) (xs := [.int l, y, z]) rfl rfl (q_asg (h2 rfl rfl rfl) rfl ?_))
      exact deed_tail (lent := lent) (l := l) (o := o) g h1 rfl rfl rfl rfl (q_next (q_done ⟨hg _, ih (some (.tup [.int l, y, z])) (some (.int l)) (some y) (some z) (some (o.getD .none))⟩))
    rcases s with ⟨l, s⟩ | ⟨w, o⟩ | ⟨w, l⟩ | l
    · rcases s with v | v | o
      · obtain ⟨i, rfl⟩ := hl.2
        exact go (l := l) (o := some (.int i)) rfl (fun v e => by cases e; rfl) rfl fun h8 h11 h12 => ev_ite_f (ev_cmp (ev_loc h11) ev_const rfl) (ev_loc h11)
      · exact hl.2.elim
      · exact go (l := l) (o := atK K o) rfl (fun v e => g.at e) rfl fun h8 h11 h12 => ev_ite_t (ev_cmp (ev_loc h11) ev_const rfl) (ev_get (ev_loc h8) lk_head (ev_loc h12))
    · exact go (l := 7) (o := none) rfl (fun v e => by cases e) rfl fun h8 h11 h12 => ev_ite_t (ev_cmp (ev_loc h11) ev_const rfl) (ev_getn (ev_loc h8) lk_head (ev_loc h12))
    · exact go (l := l) (o := none) rfl (fun v e => by cases e) rfl fun h8 h11 h12 => ev_ite_t (ev_cmp (ev_loc h11) ev_const rfl) (ev_getn (ev_loc h8) lk_head (ev_loc h12))
    · exact q_if_f (ev_cmp (ev_loc rfl) ev_const rfl) (q_done ⟨hg _, ih _ _ _ _ _⟩)
end
end Lend
namespace Lend
noncomputable abbrev Fnd := List (Int × List KV)
noncomputable def addF (F : Fnd) (b : Int) (K : KV) : Fnd := putK F b ((atK F b).getD [] ++ [K])
noncomputable def ledK (f : Int → Bool) (bs : List Blk) : Nat → Fnd → List (Int × KV) → Option Fnd
  | 0, _, _ => none
  | n + 1, F, left => (match left.getLast? with
    | none => some F
    | some (b, K) => (match blk bs b with
      | some k => ledK f bs n (addF F b K) (left.dropLast ++ (outsT k.2).map fun g => (g, trB f k K))
      | none => none))
noncomputable abbrev FA := List (Int × Addr × List KV)
noncomputable def updF : FA → Int → KV → FA
  | [], _, _ => []
  | (j, a, Ks) :: r, b, K => if b = j then (j, a, Ks ++ [K]) :: r else (j, a, Ks) :: updF r b K
noncomputable def locF (F : FA) : KV := F.map fun e => (e.1, .loc e.2.1)
noncomputable def prjF (F : FA) : Fnd := F.map fun e => (e.1, e.2.2)
theorem updF_locF (b : Int) (K : KV) : ∀ F : FA, locF (updF F b K) = locF F
  | [] => rfl
  | (j, a, Ks) :: r => by
    unfold updF
    split
    · rfl
    · show _ :: locF (updF r b K) = _ :: locF r
      rw [updF_locF b K r]
theorem updF_adr (b : Int) (K : KV) : ∀ F : FA, (updF F b K).map (·.2.1) = F.map (·.2.1)
  | [] => rfl
  | (j, a, Ks) :: r => by
    unfold updF
    split
    · rfl
    · simp only [nth, List.map_cons, updF_adr b K r]
theorem updF_prj (b : Int) (K : KV) : ∀ F : FA, (atK (locF F) b).isSome = true → prjF (updF F b K) = addF (prjF F) b K
  | [], h => by simp [nth, locF, atK] at h
  | (j, a, Ks) :: r, h => by
    unfold updF
    by_cases e : b = j
    · subst e; simp [nth, prjF, addF, atK, putK]
    · have h' : (atK (locF r) b).isSome = true := by simpa [nth, locF, atK, e] using h
      have ih := updF_prj b K r h'
      rw [if_neg e]
      unfold addF at ih ⊢
      simp only [nth, prjF, List.map_cons, atK, if_neg e, putK] at ih ⊢
      rw [ih]
theorem locF_some (b : Int) : ∀ {F : FA} {v : CV}, atK (locF F) b = some v → ∃ a Ks, v = .loc a ∧ (b, a, Ks) ∈ F ∧ atK (prjF F) b = some Ks
  | [], v, h => by simp [nth, locF, atK] at h
  | (j, a, Ks) :: r, v, h => by
    by_cases e : b = j
    · subst e
      simp [nth, locF, atK] at h
      exact ⟨a, Ks, h.symm, .head _, by simp [nth, prjF, atK]⟩
    · have h' : atK (locF r) b = some v := by simpa [nth, locF, atK, e] using h
      obtain ⟨a', Ks', h1, h2, h3⟩ := locF_some b h'
      exact ⟨a', Ks', h1, .tail _ h2, by simpa [nth, prjF, atK, e] using h3⟩
theorem locF_none (b : Int) : ∀ {F : FA}, atK (locF F) b = none → atK (prjF F) b = none
  | [], h => rfl
  | (j, a, Ks) :: r, h => by
    by_cases e : b = j
    · subst e; simp [nth, locF, atK] at h
    · have h' : atK (locF r) b = none := by simpa [nth, locF, atK, e] using h
      simpa [nth, prjF, atK, e] using locF_none b h'
theorem updF_mem {b : Int} {K : KV} {a : Addr} {Ks : List KV} : ∀ {F : FA}, (F.map (·.2.1)).Nodup → atK (locF F) b = some (.loc a) → atK (prjF F) b = some Ks → ∀ e ∈ updF F b K, e = (b, a, Ks ++ [K]) ∨ (e ∈ F ∧ e.2.1 ≠ a)
  | [], _, h, _ => by simp [nth, locF, atK] at h
  | (j, a', Ks') :: r, n, h, h2 => by
    rw [List.map_cons, List.nodup_cons] at n
    intro e he
    unfold updF at he
    by_cases q : b = j
    · subst q
      simp [nth, locF, atK] at h
      simp [nth, prjF, atK] at h2
      subst h; subst h2
      rw [if_pos rfl] at he
      rcases List.mem_cons.mp he with rfl | he
      · exact .inl rfl
      · exact .inr ⟨.tail _ he, fun q => n.1 (List.mem_map.mpr ⟨e, he, q⟩)⟩
    · have h' : atK (locF r) b = some (.loc a) := by simpa [nth, locF, atK, q] using h
      have h2' : atK (prjF r) b = some Ks := by simpa [nth, prjF, atK, q] using h2
      rw [if_neg q] at he
      rcases List.mem_cons.mp he with rfl | he
      · refine .inr ⟨.head _, ?_⟩
        rintro rfl
        obtain ⟨a2, Ks2, e1, e2, _⟩ := locF_some b h'
        cases e1
        exact n.1 (List.mem_map.mpr ⟨_, e2, rfl⟩)
      · rcases updF_mem n.2 h' h2' e he with h | h
        · exact .inl h
        · exact .inr ⟨.tail _ h.1, h.2⟩
noncomputable def leftV (left : List (Int × KV)) : List CV := left.map fun e => .tup [.int e.1, .fdict e.2]
structure LedAt (S0 S : Store) (fd lf : Addr) (F : FA) (left : List (Int × KV)) : Prop where
  hfd : lk S fd = some (.dict (locF F))
  hlf : lk S lf = some (.list (leftV left))
  hF : ∀ e ∈ F, lk S e.2.1 = some (.list (e.2.2.map .fdict))
  nd : (F.map (·.2.1)).Nodup
  ne : ∀ e ∈ F, e.2.1 ≠ lf
  k0 : KeepAll S0 S
  f0 : lk S0 fd = none
  l0 : lk S0 lf = none
  a0 : ∀ e ∈ F, lk S0 e.2.1 = none
theorem KeepAll.up {S0 S : Store} {a : Addr} {c : CO} (h : KeepAll S0 S) (n : lk S0 a = none) : KeepAll S0 (up S a c) := fun x hx => by
  have : x ≠ a := (by rintro rfl; rw [n] at hx; cases hx)
  rw [lk_up_ne this, h x hx]
theorem KeepAll.cons {S0 S : Store} {a : Addr} {c : CO} (h : KeepAll S0 S) (n : lk S a = none) : KeepAll S0 ((a, c) :: S) := fun x hx => by
  have : x ≠ a := by rintro rfl; rw [← h _ hx, n] at hx; cases hx
  rw [show lk ((a, c) :: S) x = lk S x by simp [nth, lk, this], h x hx]
theorem KeepAll.fresh {S0 S : Store} {a : Addr} (h : KeepAll S0 S) (n : lk S a = none) : lk S0 a = none := by
  rcases e : lk S0 a with _ | c
  · rfl
  · have := h a (by rw [e]; rfl)
    rw [n, e] at this; cases this
theorem LedAt.fl {S0 S : Store} {fd lf : Addr} {F : FA} {left : List (Int × KV)} (h : LedAt S0 S fd lf F left) : fd ≠ lf := by
  rintro rfl
  have := h.hfd
  rw [h.hlf] at this; cases this
theorem LedAt.af {S0 S : Store} {fd lf : Addr} {F : FA} {left : List (Int × KV)} (h : LedAt S0 S fd lf F left) : ∀ e ∈ F, e.2.1 ≠ fd := by
  intro e he q
  have := h.hF e he
  rw [q, h.hfd] at this; cases this
theorem LedAt.cons {S0 S : Store} {fd lf x : Addr} {c : CO} {F : FA} {left : List (Int × KV)} (h : LedAt S0 S fd lf F left) (n : lk S x = none) : LedAt S0 ((x, c) :: S) fd lf F left := by
  have key : ∀ y, (lk S y).isSome = true → lk ((x, c) :: S) y = lk S y := fun y hy => by
    have : y ≠ x := (by rintro rfl; rw [n] at hy; cases hy)
    simp [nth, lk, this]
  refine ⟨?_, ?_, fun e he => ?_, h.nd, h.ne, h.k0.cons n, h.f0, h.l0, h.a0⟩
  · rw [key fd (by rw [h.hfd]; rfl)]; exact h.hfd
  · rw [key lf (by rw [h.hlf]; rfl)]; exact h.hlf
  · rw [key _ (by rw [h.hF e he]; rfl)]; exact h.hF e he
theorem LedAt.left {S0 S : Store} {fd lf : Addr} {F : FA} {left : List (Int × KV)} (h : LedAt S0 S fd lf F left) (left' : List (Int × KV)) : LedAt S0 (up S lf (.list (leftV left'))) fd lf F left' := by
  refine ⟨by rw [lk_up_ne h.fl]; exact h.hfd, lk_up_self h.hlf, fun e he => by rw [lk_up_ne (h.ne e he)]; exact h.hF e he, h.nd, h.ne, h.k0.up h.l0, h.f0, h.l0, h.a0⟩
theorem LedAt.app {S0 S : Store} {fd lf : Addr} {F : FA} {left : List (Int × KV)} (h : LedAt S0 S fd lf F left) {b : Int} {K : KV} {a : Addr} {Ks : List KV} (e1 : atK (locF F) b = some (.loc a)) (e2 : atK (prjF F) b = some Ks) (e3 : (b, a, Ks) ∈ F) :
    LedAt S0 (Lend.up S a (.list ((Ks ++ [K]).map .fdict))) fd lf (updF F b K) left := by
  have n1 := h.af _ e3
  have n2 := h.ne _ e3
  dsimp only at n1 n2
  have hm := updF_mem (K := K) h.nd e1 e2
  refine ⟨by rw [lk_up_ne (fun q => n1 q.symm), updF_locF]; exact h.hfd, by rw [lk_up_ne (fun q => n2 q.symm)]; exact h.hlf, fun e he => ?_, by rw [updF_adr]; exact h.nd, fun e he => ?_, h.k0.up (h.a0 _ e3), h.f0, h.l0, fun e he => ?_⟩
  · rcases hm e he with rfl | ⟨h1, h2⟩
    · exact lk_up_self (h.hF _ e3)
    · rw [lk_up_ne h2]; exact h.hF e h1
  · rcases hm e he with rfl | ⟨h1, h2⟩
    · exact n2
    · exact h.ne e h1
  · rcases hm e he with rfl | ⟨h1, h2⟩
    · exact h.a0 (b, a, Ks) e3
    · exact h.a0 e h1
theorem LedAt.new {S0 S : Store} {fd lf : Addr} {F : FA} {left : List (Int × KV)} (h : LedAt S0 S fd lf F left) {b : Int} {K : KV} {a : Addr} (n : lk S a = none) (e : atK (locF F) b = none) :
    LedAt S0 (Lend.up (Lend.up ((a, .list []) :: S) fd (.dict (putK (locF F) b (.loc a)))) a (.list [.fdict K])) fd lf (F ++ [(b, a, [K])]) left := by
  have h1 := h.cons (x := a) (c := .list []) n
  have n1 : fd ≠ a := ne_sn h.hfd n
  have n2 : lf ≠ a := ne_sn h.hlf n
  have n3 : ∀ e ∈ F, e.2.1 ≠ a := fun e he q => by
    have := h.hF e he
    rw [q, n] at this; cases this
  have hl : lk (Lend.up ((a, CO.list []) :: S) fd (.dict (putK (locF F) b (.loc a)))) a = some (.list []) := by rw [lk_up_ne (fun q => n1 q.symm)]; simp [nth, lk]
  have hp : putK (locF F) b (.loc a) = locF (F ++ [(b, a, [K])]) := by
    rw [put_new (atK_none_iff.mp e)]
    simp [nth, locF]
  refine ⟨?_, ?_, fun e he => ?_, ?_, fun e he => ?_, (h1.k0.up h.f0).up (h.k0.fresh n), h.f0, h.l0, fun e he => ?_⟩
  · rw [lk_up_ne n1, ← hp]; exact lk_up_self h1.hfd
  · rw [lk_up_ne n2, lk_up_ne (fun q => h.fl q.symm)]; exact h1.hlf
  · rcases List.mem_append.mp he with he | he
    · rw [lk_up_ne (n3 e he), lk_up_ne (h.af e he)]; exact h1.hF e he
    · simp at he; subst he; exact lk_up_self hl
  · rw [List.map_append, List.nodup_append]
    refine ⟨h.nd, by simp, fun x hx y hy => ?_⟩
    obtain ⟨e, he, rfl⟩ := List.mem_map.mp hx
    simp at hy; subst hy
    exact n3 e he
  · rcases List.mem_append.mp he with he | he
    · exact h.ne e he
    · simp at he; subst he; exact fun q => n2 q.symm
  · rcases List.mem_append.mp he with he | he
    · exact h.a0 e he
    · simp at he; subst he; exact h.k0.fresh n
theorem prj_new {F : FA} {b : Int} {K : KV} {a : Addr} (e : atK (locF F) b = none) : prjF (F ++ [(b, a, [K])]) = addF (prjF F) b K := by
  have h := locF_none b e
  unfold addF
  rw [h, put_new (atK_none_iff.mp h)]
  simp [nth, prjF]
end Lend
namespace Lend
section
variable {B : Bs} {S S0 : Store} {Q : CV → Store → Prop} {gd : Addr → Str → Option CV} {c b fo bg a ka fd lf src h : Addr} {bs : List Blk} {fol beg K here : KV} {F : FA} {left : List (Int × KV)}
noncomputable def ledA : List RS := [(.asg (.tup [5, 6]) (.meth false (.loc 4) (Str.ofString "pop") [])),
    (.asg (.name 7) (.meth false (.loc 3) (Str.ofString "setdefault") [(.loc 5), (.list true [])])),
    (.expr (.meth false (.loc 7) (Str.ofString "append") [(.call false (.glob (Str.ofString "dict")) [(.loc 6)])]))]
theorem led_first {m : Nat} {X Y : CV} {lent : List Int} {p5 p6 p7 p8 p9 p10 p11 p12 p13 p14 p15 : Option CV} {rest : List RS} {Kt : Fl → Rho → Store → Prop} (L : LedAt S0 S fd lf F left) {n : Int} (hl : left.getLast? = some (n, K)) (gK : Good K) (hsl : left.length ≤ 40000) (hFl : F.length ≤ 1000) (hKs : ∀ e ∈ F, e.2.2.length ≤ 10000)
    (h : ∀ S' F' a, LedAt S0 S' fd lf F' left.dropLast → prjF F' = addF (prjF F) n K → wpSs (Gm B m) rest [some X, some Y, some (.flist (lent.map .int)), some (.loc fd), some (.loc lf), some (.int n), some (.fdict K), some (.loc a), p8, p9, p10, p11, p12, p13, p14, p15, none, none, none] S' Kt) :
    wpSs (Gm B m) (ledA ++ rest) [some X, some Y, some (.flist (lent.map .int)), some (.loc fd), some (.loc lf), p5, p6, p7, p8, p9, p10, p11, p12, p13, p14, p15, none, none, none] S Kt := by
  have L1 := L.left left.dropLast
  have hgl : (leftV left).getLast? = some (.tup [.int n, .fdict K]) := by
    unfold leftV
    rw [List.getLast?_map, hl]; rfl
  have hdl : (leftV left).dropLast = leftV left.dropLast := by
    unfold leftV
    rw [List.map_dropLast]
  rw [← hdl] at L1
  have hsm : (leftV left).length ≤ small := by
    unfold leftV
    rw [List.length_map]; exact Nat.le_trans hsl (by decide)
  have hK : K.length ≤ small := Nat.le_trans gK.len (by decide)
  have hFs : (locF F).length ≤ small := by
    unfold locF
    rw [List.length_map]; exact Nat.le_trans hFl (by decide)
  refine q_tupw (w_lpop (ev_loc rfl) L.hlf hgl hsm ⟨in_all rfl, ?_⟩)
  generalize up S lf (.list (leftV left).dropLast) = S1 at L1 ⊢
  refine q_asgw rfl (w_meth (ev_loc rfl) (kd_setd L1.hfd) (w_cons (w_ev (ev_loc rfl) (w_cons (w_newl0 fun na n1 n2 => w_nil ⟨kd_setd (L1.cons n1).hfd, meth_setd (L1.cons n1).hfd hFs ?_⟩)))))
  have L2 := L1.cons (x := na) (c := .list []) n1
  rcases e : atK (locF F) n with _ | v
  · have n3 : fd ≠ na := ne_sn L1.hfd n1
    exact q_append (xs := []) (ev_loc rfl) (by rw [lk_up_ne (fun q => n3 q.symm), lk_head]) (ev_dictof (ev_loc rfl) rfl hK) rfl (h _ _ na (L1.new (b := n) (K := K) n1 e) (prj_new e))
  · obtain ⟨a, Ks, rfl, e3, e2⟩ := locF_some n e
    refine q_append (ev_loc rfl) (L2.hF _ e3) (ev_dictof (ev_loc rfl) rfl hK) (Nat.ble_eq_true_of_le (by rw [List.length_map]; exact Nat.le_trans (hKs _ e3) (by decide))) ?_
    have L3 := L2.app (K := K) e e2 e3
    rw [List.map_append] at L3
    exact h _ _ a L3 (updF_prj n K F (by rw [e]; rfl))
end
end Lend
namespace Lend
noncomputable def LBlks (bs : List Blk) : Prop := ∀ n k, blk bs n = some k → (∀ s ∈ k.1, LStm s) ∧ LEnd n k.2
noncomputable def deedsV (bs : List Blk) : CV := .flist (bs.map fun b => .flist (b.1.map deedV))
noncomputable def endsV (bs : List Blk) : CV := .flist (bs.map fun b => .tup [.flist ((outsT b.2).map .int), goneT b.2])
section
variable {B : Bs} {S S0 : Store} {Q : CV → Store → Prop} {gd : Addr → Str → Option CV} {c b fo bg a ka fd lf src h : Addr} {bs : List Blk} {fol beg K here : KV} {F : FA} {left : List (Int × KV)}
theorem item_map {f : Blk → CV} {n : Int} {k : Blk} (h0 : 0 ≤ n) (h1 : n < 100) (e : blk bs n = some k) : getItemV gd S (.flist (bs.map f)) (.int n) = some (f k) := by
  simp only [nth, getItemV, getI, view]
  rw [if_pos ⟨h0, by omega⟩, List.getElem?_map]
  unfold blk at e
  rw [e]; rfl
noncomputable def ledB : List RS := [(.asg (.name 8) (.call true (.glob (Str.ofString "dict")) [(.loc 6)])),
    (.for (.name 9) (.sub (.loc 0) (.loc 5)) deedBody),
    (.asg (.tup [14, 15]) (.sub (.loc 1) (.loc 5))),
    (.expr (.meth false (.loc 8) (Str.ofString "pop") [(.loc 15), (.const CV.none)])),
    (.freeze 8),
    (.expr (.meth false (.loc 4) (Str.ofString "extend") [(.lcomp 2 (.tup [(.loc 1), (.loc 10)]) (.loc 14) (.name 1) [] [])]))]
theorem outs_len (t : Trm) : (outsT t).length ≤ 2 := by
  rcases t with _ | g | ⟨l, kk, g, d⟩ | ⟨l, g⟩ | ⟨l, g⟩ <;> exact Nat.le_of_ble_eq_true rfl
theorem led_last {m : Nat} {X Y U V W : CV} {lent : List Int} {p9 p10 p11 p12 p13 : Option CV} {Kt : Fl → Rho → Store → Prop} (L : LedAt S0 S fd lf F left) (hsl : left.length ≤ 40000) (t : Trm)
    (hk : ∀ S', LedAt S0 S' fd lf F (left ++ (outsT t).map fun g => (g, K)) → Kt .next [some X, some Y, some (.flist (lent.map .int)), some (.loc fd), some (.loc lf), some U, some V, some W, some (.fdict K), p9, p10, p11, p12, p13, some (.flist ((outsT t).map .int)), some (goneT t), none, none, none] S') :
    wpSs (Gm B m) [(.expr (.meth false (.loc 4) (Str.ofString "extend") [(.lcomp 2 (.tup [(.loc 1), (.loc 10)]) (.loc 14) (.name 1) [] [])]))] [some X, some Y, some (.flist (lent.map .int)), some (.loc fd), some (.loc lf), some U, some V, some W, some (.fdict K), p9, p10, p11, p12, p13, some (.flist ((outsT t).map .int)), some (goneT t), none, none, none] S Kt := by
  have L1 := L.left (left ++ (outsT t).map fun g => (g, K))
  unfold leftV at L1
  rw [List.map_append, List.map_map] at L1
  have h2 := outs_len t
  refine q_extend (ev_loc rfl) L.hlf (ev_map (l := outsT t) (f := .int) (h := fun g => .tup [.int g, .fdict K]) (ev_loc rfl) rfl (Nat.le_trans h2 (by decide)) fun g _ => ev_tup (evs2 (ev_loc rfl) (ev_loc rfl)) rfl) ?_ (q_done (hk _ L1))
  unfold leftV
  rw [List.length_map, List.length_map]
  exact Nat.le_trans (Nat.add_le_add hsl h2) (by decide)
theorem q_gone {m : Nat} {ρ : Rho} {t : Trm} {i j : Nat} {ss : List RS} {Kt : Fl → Rho → Store → Prop} (gK : Good K) (hi : nth ρ i = some (.loc h)) (hj : nth ρ j = some (goneT t)) (k : wpSs (Gm B m) ss ρ ((h, .dict (endK K t)) :: S) Kt) : wpSs (Gm B m) (.expr (.meth false (.loc i) (Str.ofString "pop") [(.loc j), (.const CV.none)]) :: ss) ρ ((h, .dict K) :: S) Kt := by
  rcases t with _ | g | ⟨l, kk, g, d⟩ | ⟨l, g⟩ | ⟨l, g⟩
  · exact q_dpopn (ev_loc hi) (ev_loc hj) lk_head k
  · exact q_dpopn (ev_loc hi) (ev_loc hj) lk_head k
  · exact q_dpopn (ev_loc hi) (ev_loc hj) lk_head k
  · exact q_dpop (l := l) (ev_loc hi) (ev_loc hj) lk_head (Nat.le_trans gK.len (by decide)) up_head k
  · exact q_dpop (l := l) (ev_loc hi) (ev_loc hj) lk_head (Nat.le_trans gK.len (by decide)) up_head k
theorem led_second {m : Nat} {lent : List Int} {W : CV} {p8 p9 p10 p11 p12 p13 p14 p15 : Option CV} {Kt : Fl → Rho → Store → Prop} (L : LedAt S0 S fd lf F left) (hbs : LBlks bs) {n : Int} (n0 : 0 ≤ n) (n1 : n < 50) {k : Blk} (hk : blk bs n = some k) (gK : Good K) (hsl : left.length ≤ 40000)
    (h : ∀ S' p5 p6 p7 p8 p9 p10 p11 p12 p13 p14 p15, LedAt S0 S' fd lf F (left ++ (outsT k.2).map fun g => (g, trB (flL lent) k K)) → Kt .next [some (deedsV bs), some (endsV bs), some (.flist (lent.map .int)), some (.loc fd), some (.loc lf), p5, p6, p7, p8, p9, p10, p11, p12, p13, p14, p15, none, none, none] S') :
    wpSs (Gm B m) ledB [some (deedsV bs), some (endsV bs), some (.flist (lent.map .int)), some (.loc fd), some (.loc lf), some (.int n), some (.fdict K), some W, p8, p9, p10, p11, p12, p13, p14, p15, none, none, none] S Kt := by
  have n2 : n < 100 := Int.lt_trans n1 (by decide)
  have hbk := hbs n k hk
  refine q_owndict (ev_loc rfl) rfl (Nat.le_trans gK.len (by decide)) rfl fun hh l1 l2 => ?_
  refine q_for (xs := k.1.map deedV) (ev_sub (ev_loc rfl) (ev_loc rfl) (item_map n0 n2 hk)) rfl (deeds_loop (B := B) (m := m) (h := hh) (lent := lent) (X := deedsV bs) (Y := endsV bs) (fd := fd) (lf := lf) (p5 := some (.int n)) (p6 := some (.fdict K)) (p7 := some W) (by exact fun _ => trivial) k.1 K p9 p10 p11 p12 p13 hbk.1 gK fun p9 p10 p11 p12 p13 => ?_)
  have gK1 : Good (k.1.foldl (stmK (flL lent)) K) := gK.stms fun s hs => (hbk.1 s hs).ok
  refine q_next (q_tup (xs := [.flist ((outsT k.2).map .int), goneT k.2]) (ev_sub (ev_loc rfl) (ev_loc rfl) (item_map n0 n2 hk)) rfl rfl (q_gone gK1 rfl rfl (q_freezeD rfl lk_head rm_head ?_)))
  exact led_last L hsl k.2 fun S' h1 => h S' _ _ _ _ _ _ _ _ _ _ _ h1
end
end Lend
namespace Lend
noncomputable def innerC : RE := .lcomp 2 (.loc 1) (.sub (.loc 5) (.loc 7)) (.name 1) [(.cmp .NotEq (.meth false (.loc 1) (Str.ofString "get") [(.loc 3)]) (.sub (.loc 21) (.loc 3)))] []
noncomputable def alikeC : RE := .lcomp 2 (.loc 1) (.loc 17) (.name 1) [(.cmp .Eq innerC (.list false []))] []
noncomputable def dueC : RE := .lcomp 2 (.tup [(.loc 1), (.sub (.loc 19) (.loc 1))]) (.loc 18) (.name 1) [] []
noncomputable def dueV (Ks : List KV) : KV := (Ks.headD []).filter fun p => Ks.all fun K => keepP K p
section
variable {B : Bs} {S S0 : Store} {Q : CV → Store → Prop} {gd : Addr → Str → Option CV} {c b fo bg a ka fd lf src h : Addr} {bs : List Blk} {fol beg K here : KV} {F : FA} {left : List (Int × KV)}
theorem ne_got {l : Int} {v : CV} (g : Good K) (hv : isSc v = true) : cmpV .NotEq S ((atK K l).getD .none) v = some (!keepP K (l, v)) := by
  show (eqW S _ v).map (!·) = _
  unfold keepP
  dsimp only
  rcases e : atK K l with _ | u
  · have : eqW S .none v = some false := by cases v <;> first | rfl | cases hv
    simp [nth, this]
  · have : eqW S u v = some (eqS u v) := eqW_sc (g.at e) hv
    simp [nth, this]
theorem innerC_ok {m : Nat} {l b : Int} {v : CV} {first : KV} {Ks : List KV} (hv : isSc v = true) (hat : atK first l = some v) {ρ2 : Rho} (r1 : nth ρ2 1 = some (.int l)) (r19 : nth ρ2 19 = some (.fdict first)) (r5 : nth ρ2 5 = some (.fdict (locF F))) (r7 : nth ρ2 7 = some (.int b))
    (hF : atK (locF F) b = some (.loc a)) (ha : lk S a = some (.list (Ks.map .fdict))) (gs : ∀ K ∈ Ks, Good K) (hl : Ks.length ≤ 10000) : Ev (Gm B m) innerC ρ2 S (.flist ((Ks.filter fun K => !keepP K (l, v)).map .fdict)) :=
  ev_filt (l := Ks) (f := .fdict) (h := .fdict) (b := fun K => !keepP K (l, v)) (ev_sub (ev_loc r5) (ev_loc r7) (item_dict rfl hF)) (iter_list ha) (Nat.le_trans hl (by decide)) (fun K hK => ev_cmp (ev_getf (ev_loc rfl) (ev_loc r1)) (ev_sub (ev_loc r19) (ev_loc r1) (item_dict rfl hat)) (ne_got (gs K hK) hv)) fun K _ _ => ev_loc rfl
theorem all_kept {Ks : List KV} {p : Int × CV} : cmpV .Eq S (.flist ((Ks.filter fun K => !keepP K p).map .fdict)) (.flist []) = some (Ks.all fun K => keepP K p) := by
  rw [show ∀ x y, cmpV .Eq S x y = eqW S x y from fun _ _ => rfl, eq_nil rfl]
  congr 1
  induction Ks with
  | nil => rfl
  | cons K Ks ih =>
    rw [List.all_cons, List.filter_cons]
    cases keepP K p
    · rfl
    · exact ih
theorem alikeC_ok {m : Nat} {b : Int} {first : KV} {Ks : List KV} (gf : Good first) {ρ : Rho} (r17 : nth ρ 17 = some (.fdict first)) (r3 : nth ρ 3 = some (.fdict (locF F))) (r5 : nth ρ 5 = some (.int b))
    (hF : atK (locF F) b = some (.loc a)) (ha : lk S a = some (.list (Ks.map .fdict))) (gs : ∀ K ∈ Ks, Good K) (hl : Ks.length ≤ 10000) : Ev (Gm B m) alikeC ρ S (.flist ((first.filter fun p => Ks.all fun K => keepP K p).map fun p => .int p.1)) :=
  ev_filt (l := first) (f := fun p => .int p.1) (h := fun p => .int p.1) (b := fun p => Ks.all fun K => keepP K p) (ev_loc r17) rfl (Nat.le_trans gf.len (by decide)) (fun p hp => ev_cmp (innerC_ok (l := p.1) (v := p.2) (gf.s p hp) (mem_atK gf.n hp) rfl r17 r3 r5 hF ha gs hl) (ev_list evs_nil rfl) all_kept) fun p _ _ => ev_loc rfl
theorem dueC_ok {m : Nat} {first l : KV} {ρ : Rho} (r17 : nth ρ 17 = some (.fdict first)) (r16 : nth ρ 18 = some (.flist (l.map fun p => .int p.1))) (hs : ∀ p ∈ l, atK first p.1 = some p.2) (hl : l.length ≤ 1000) : Ev (Gm B m) dueC ρ S (.flist (l.map fun p => .tup [.int p.1, p.2])) :=
  ev_map (l := l) (f := fun p => .int p.1) (h := fun p => .tup [.int p.1, p.2]) (ev_loc r16) rfl (Nat.le_trans hl (by decide)) fun p hp => ev_tup (evs2 (ev_loc rfl) (ev_sub (ev_loc r17) (ev_loc rfl) (item_dict rfl (hs p hp)))) rfl
end
end Lend
namespace Lend
noncomputable def dueK (F : Fnd) : KV := F.map fun e => (e.1, .fdict (dueV e.2))
set_option tactic.hygienic true in
theorem lk_rm_ne : ∀ {S : Store} {a b : Addr}, b ≠ a → lk (rm S a) b = lk S b
  | [], _, _, _ => rfl
  | (x, d) :: r, a, b, h => by
    simp only [nth, rm]
    split
    · rename_i e; subst e; simp [nth, lk, h]
    · simp only [nth, lk]
      split
      · rfl
      · exact lk_rm_ne h
noncomputable def dueBody : List RS := [(.asg (.name 17) (.sub (.sub (.loc 3) (.loc 5)) (.const (.int 0)))),
    (.asg (.name 18) alikeC),
    (.asg (.sub (.loc 16) (.loc 5)) (.call false (.glob (Str.ofString "dict")) [dueC]))]
structure FndOk (n : Nat) (F : Fnd) : Prop where
  kn : Kn F
  v : ∀ e ∈ F, (∀ K ∈ e.2, Good K) ∧ e.2 ≠ [] ∧ e.2.length + n ≤ 9000
theorem locF_keys (F : FA) : (locF F).map (·.1) = (prjF F).map (·.1) := by simp [nth, locF, prjF]
section
variable {B : Bs} {S S0 : Store} {Q : CV → Store → Prop} {gd : Addr → Str → Option CV} {c b fo bg a ka fd lf src h : Addr} {bs : List Blk} {fol beg K here : KV} {F : FA} {left : List (Int × KV)}
theorem due_put {l pre : FA} {b : Int} {a : Addr} {Ks : List KV} (n : Kn (prjF (pre ++ (b, a, Ks) :: l))) : putK (dueK (prjF pre)) b (.fdict (dueV Ks)) = dueK (prjF (pre ++ [(b, a, Ks)])) := by
  have hnot : b ∉ (dueK (prjF pre)).map (·.1) := fun hb => by
    unfold Kn at n
    have e3 : (prjF (pre ++ (b, a, Ks) :: l)).map (·.1) = (dueK (prjF pre)).map (·.1) ++ (b :: (prjF l).map (·.1)) := by simp [nth, prjF, dueK]
    rw [e3, List.nodup_append] at n
    exact n.2.2 b hb b (.head _) rfl
  rw [put_new hnot]
  simp [nth, dueK, prjF]
theorem for_due {m : Nat} {du : Addr} (hdu : lk S du = none) (hF : ∀ e ∈ F, lk S e.2.1 = some (.list (e.2.2.map .fdict))) (fo : FndOk 0 (prjF F)) (hFl : F.length ≤ 1000) {X Y Z : CV} {p4 : Option CV} {Kt : Fl → Rho → Store → Prop} {gg : Store → Prop} (hg : ∀ S, gg S)
    (l pre : FA) (p5 p6 p7 p8 p9 p10 p11 p12 p13 p14 p15 p17 p18 : Option CV) (e : pre ++ l = F)
    (h : ∀ p5 p6 p7 p8 p9 p10 p11 p12 p13 p14 p15 p17 p18, Kt .next [some X, some Y, some Z, some (.fdict (locF F)), p4, p5, p6, p7, p8, p9, p10, p11, p12, p13, p14, p15, some (.loc du), p17, p18] ((du, .dict (dueK (prjF F))) :: S)) :
    forN (Gm B m) gg 5 dueBody ((locF l).map fun p => .int p.1) [some X, some Y, some Z, some (.fdict (locF F)), p4, p5, p6, p7, p8, p9, p10, p11, p12, p13, p14, p15, some (.loc du), p17, p18] ((du, .dict (dueK (prjF pre))) :: S) Kt := by
  induction l generalizing pre p5 p6 p7 p8 p9 p10 p11 p12 p13 p14 p15 p17 p18 with
  | nil =>
    rw [List.append_nil] at e
    subst e
    exact for_nil (h _ _ _ _ _ _ _ _ _ _ _ _ _)
  | cons x l ih =>
    obtain ⟨b, a, Ks⟩ := x
    have ih := fun p5 p6 p7 p8 p9 p10 p11 p12 p13 p14 p15 p17 p18 => ih (pre ++ [(b, a, Ks)]) p5 p6 p7 p8 p9 p10 p11 p12 p13 p14 p15 p17 p18 (by rw [List.append_assoc]; exact e)
    clear h
    have hm : (b, a, Ks) ∈ F := by rw [← e]; exact List.mem_append_right _ (.head _)
    obtain ⟨gs, hne, hlen⟩ := fo.v (b, Ks) (List.mem_map.mpr ⟨_, hm, rfl⟩)
    have hlen : Ks.length ≤ 10000 := Nat.le_trans hlen (by decide)
    have hKn : Kn (locF F) := by unfold Kn; rw [locF_keys]; exact fo.kn
    have hat : atK (locF F) b = some (.loc a) := mem_atK hKn (List.mem_map.mpr ⟨_, hm, rfl⟩)
    have hla := hF _ hm
    have hne2 : a ≠ du := ne_sn hla hdu
    have hlk : lk ((du, CO.dict (dueK (prjF pre))) :: S) a = some (.list (Ks.map .fdict)) := by rw [lk_tail hne2]; exact hla
    have hdk : (dueK (prjF pre)).length ≤ small := by
      have h1 : pre.length ≤ F.length := by rw [← e, List.length_append]; exact Nat.le_add_right _ _
      unfold dueK prjF
      rw [List.length_map, List.length_map]
      exact Nat.le_trans h1 (Nat.le_trans hFl (by decide))
    have hput := due_put (Ks := Ks) (b := b) (a := a) (by rw [e]; exact fo.kn)
    rcases Ks with _ | ⟨K0, Kr⟩
    · exact absurd rfl hne
    have g0 : Good K0 := gs K0 (.head _)
    have hsub : (dueV (K0 :: Kr)).Sublist K0 := List.filter_sublist
    have gd2 : Good (dueV (K0 :: Kr)) := g0.sub hsub
    have hm2 : mergeK [] (dueV (K0 :: Kr)) = dueV (K0 :: Kr) := merge_new (acc := []) gd2.n
    refine for_cons rfl (q_asg (ev_sub (ev_sub (ev_loc rfl) (ev_loc rfl) (item_dict rfl hat)) ev_const (x := .loc a) (y := .int 0) (z := .fdict K0) (by unfold getItemV; rw [view_list hlk]; rfl)) rfl (q_asg (alikeC_ok (F := F) (a := a) (b := b) (first := K0) (Ks := K0 :: Kr) g0 rfl rfl rfl hat hlk gs hlen) rfl ?_))
    refine q_setd (v := .fdict (dueV (K0 :: Kr))) (hm2 ▸ ev_dictofL (dueC_ok (first := K0) (l := dueV (K0 :: Kr)) rfl rfl (fun p hp => mem_atK g0.n (hsub.subset hp)) (Nat.le_trans gd2.len (by decide))) rfl pairs_tups (by rw [List.length_map]; exact Nat.le_trans gd2.len (by decide))) (ev_loc rfl) (ev_loc rfl) lk_head hdk ?_
    rw [up_head, hput]
    exact q_done ⟨hg _, ih _ _ _ _ _ _ _ _ _ _ _ _ _⟩
end
end Lend
namespace Lend
section
variable {B : Bs} {S S0 : Store} {Q : CV → Store → Prop} {gd : Addr → Str → Option CV} {c b fo bg a ka fd lf src h : Addr} {bs : List Blk} {fol beg K here : KV} {F : FA} {left : List (Int × KV)}
theorem FndOk.add {n : Nat} {F : Fnd} (h : FndOk (n + 1) F) (gK : Good K) {b : Int} (hn : n ≤ 8000) : FndOk n (addF F b K) := by
  refine ⟨h.kn.put, fun e he => ?_⟩
  rcases put_mem he with rfl | he
  · rcases q : atK F b with _ | Ks
    · simp; exact ⟨gK, by omega⟩
    · obtain ⟨h1, h2, h3⟩ := h.v _ (atK_mem q)
      dsimp only at h1 h2 h3
      simp [nth]
      refine ⟨?_, by omega⟩
      intro K' hK'
      rcases hK' with hK' | rfl
      · exact h1 K' hK'
      · exact gK
  · obtain ⟨h1, h2, h3⟩ := h.v e he
    exact ⟨h1, h2, by omega⟩
theorem addF_len (F : Fnd) (b : Int) (K : KV) : (addF F b K).length ≤ F.length + 1 := by
  have := congrArg List.length (keys_put (K := F) (k := b) (v := (atK F b).getD [] ++ [K]))
  rw [List.length_map] at this
  unfold addF
  rw [this]
  split <;> simp
theorem LEnd.outs {n : Int} {t : Trm} (n0 : 0 ≤ n) (h : LEnd n t) : (outsT t).length ≤ 2 ∧ ∀ g ∈ outsT t, n < g ∧ g ≤ 4 := by
  rcases t with _ | g | ⟨l, k, g, d⟩ | ⟨l, g⟩ | ⟨l, g⟩
  · exact ⟨by simp [nth, outsT], by simp [nth, outsT]⟩
  · exact ⟨by simp [nth, outsT], by simp [nth, outsT]; exact h⟩
  · exact ⟨by simp [nth, outsT], by simp [nth, outsT]; exact ⟨h.2.2.1, h.2.2.2⟩⟩
  · exact ⟨by simp [nth, outsT], by simp [nth, outsT]; exact h.2⟩
  · exact ⟨by simp [nth, outsT], by simp [nth, outsT]; exact h.2⟩
theorem FndOk.weak {n : Nat} {F : Fnd} (h : FndOk n F) : FndOk 0 F := ⟨h.kn, fun e he => by obtain ⟨h1, h2, h3⟩ := h.v e he; exact ⟨h1, h2, Nat.le_trans (Nat.add_le_add_left (Nat.zero_le _) _) h3⟩⟩
theorem led_fit {l o n d : Nat} (h1 : l + 2 * (n + 1) ≤ 30000) (h2 : o ≤ 2) (h3 : d = l - 1) (h4 : 0 < l) : d + o + 2 * n ≤ 30000 ∧ l ≤ 40000 ∧ d ≤ 40000 := by omega
theorem led_while {m : Nat} {lent : List Int} {Fend : Fnd} {Kt : Fl → Rho → Store → Prop} (hbs : LBlks bs) (n : Nat) (S : Store) (F : FA) (left : List (Int × KV)) (p5 p6 p7 p8 p9 p10 p11 p12 p13 p14 p15 : Option CV)
    (L : LedAt S0 S fd lf F left) (hr : ∀ e ∈ left, (0 ≤ e.1 ∧ e.1 < 50) ∧ Good e.2) (fo : FndOk n (prjF F)) (hl : left.length + 2 * n ≤ 30000) (hFl : F.length + n ≤ 900) (hn8 : n ≤ 8000) (hk : ledK (flL lent) bs n (prjF F) left = some Fend)
    (h : ∀ S' F' p5 p6 p7 p8 p9 p10 p11 p12 p13 p14 p15, LedAt S0 S' fd lf F' [] → prjF F' = Fend → FndOk 0 Fend → F'.length ≤ 900 → Kt .next [some (deedsV bs), some (endsV bs), some (.flist (lent.map .int)), some (.loc fd), some (.loc lf), p5, p6, p7, p8, p9, p10, p11, p12, p13, p14, p15, none, none, none] S') :
    whileN (Gm B m) (.cmp .NotEq (.loc 4) (.list false [])) (ledA ++ ledB) Kt n [some (deedsV bs), some (endsV bs), some (.flist (lent.map .int)), some (.loc fd), some (.loc lf), p5, p6, p7, p8, p9, p10, p11, p12, p13, p14, p15, none, none, none] S := by
  induction n generalizing S F left p5 p6 p7 p8 p9 p10 p11 p12 p13 p14 p15 with
  | zero => exact none_some hk
  | succ n ih =>
    have hne : cmpV .NotEq S (.loc lf) (.flist []) = some (!(leftV left).isEmpty) := ne_nil (view_list L.hlf)
    unfold ledK at hk
    rcases e : left.getLast? with _ | ⟨b, K⟩
    · have : left = [] := List.getLast?_eq_none_iff.mp e
      subst this
      rw [e] at hk
      have hk := Option.some.inj hk
      exact wh_stop (ev_cmp (ev_loc rfl) (ev_list evs_nil rfl) hne) (h S F _ _ _ _ _ _ _ _ _ _ _ L hk (hk ▸ fo.weak) (Nat.le_trans (Nat.le_add_right _ _) hFl))
    · have hnl : left ≠ [] := by rintro rfl; exact none_some e
      have hnm : (b, K) ∈ left := List.mem_of_getLast? e
      rw [e] at hk
      dsimp only at hk
      obtain ⟨⟨b0, b1⟩, gK⟩ := hr _ hnm
      have hne : cmpV .NotEq S (.loc lf) (.flist []) = some true := by
        rw [hne]
        rcases left with _ | ⟨x, y⟩
        · exact absurd rfl hnl
        · rfl
      rcases ek : blk bs b with _ | k
      · rw [ek] at hk; exact none_some hk
      · rw [ek] at hk
        dsimp only at hk
        have hbk := hbs b k ek
        obtain ⟨t1, t2⟩ := hbk.2.outs b0
        have gT : Good (trB (flL lent) k K) := gK.tr fun s hs => (hbk.1 s hs).ok
        obtain ⟨l1, l2, l3⟩ := led_fit hl t1 List.length_dropLast (List.length_pos_iff.mpr hnl)
        refine wh_go (ev_cmp (ev_loc rfl) (ev_list evs_nil rfl) hne) (led_first (rest := ledB) L e gK l2 (Nat.le_trans (Nat.le_add_right _ _) (Nat.le_trans hFl (by decide))) (fun e he => ?_) fun S1 F1 a L1 hp1 => ?_)
        · obtain ⟨h1, h2, h3⟩ := fo.v (e.1, e.2.2) (List.mem_map.mpr ⟨e, he, rfl⟩)
          exact Nat.le_trans (Nat.le_trans (Nat.le_add_right _ _) h3) (by decide)
        · have hF1 : F1.length ≤ F.length + 1 := by
            have q := congrArg List.length hp1
            have q2 := addF_len (prjF F) b K
            rw [← q] at q2
            unfold prjF at q2
            rw [List.length_map, List.length_map] at q2
            exact q2
          have n8 : n ≤ 8000 := Nat.le_trans (Nat.le_succ _) hn8
          refine led_second L1 hbs b0 b1 ek gK l3 fun S2 p5 p6 p7 p8 p9 p10 p11 p12 p13 p14 p15 L2 => ?_
          refine ih S2 F1 _ _ _ _ _ _ _ _ _ _ _ _ L2 (fun e he => ?_) (by rw [hp1]; exact fo.add gK n8) ?_ (Nat.le_trans (Nat.add_le_add_right hF1 n) (by rw [Nat.add_right_comm]; exact hFl)) n8 (by rw [hp1]; exact hk)
          · rcases List.mem_append.mp he with he | he
            · exact hr e (List.dropLast_subset _ he)
            · obtain ⟨g, hg, rfl⟩ := List.mem_map.mp he
              have := t2 g hg
              exact ⟨⟨Int.le_trans b0 (Int.le_of_lt this.1), Int.lt_of_le_of_lt this.2 (by decide)⟩, gT⟩
          · rw [List.length_append, List.length_map]; exact l1
theorem led_start {l3 : lk S lf = none} (hlf : lf ≠ fd) (f1 : lk S fd = none) : LedAt S ((lf, CO.list [.tup [.int 0, .fdict []]]) :: (fd, CO.dict []) :: S) fd lf [] [(0, [])] := by
  refine ⟨by rw [lk_tail (fun e => hlf e.symm)]; (exact lk_head), lk_head, (fun _ h => by cases h), .nil, (fun _ h => by cases h), (KeepAll.ext f1).trans (KeepAll.ext (by rw [lk_tail hlf]; (exact l3))), f1, l3, fun _ h => by cases h⟩
theorem led_ok (E : Env0 B) {m : Nat} (hm : 3 ≤ m) {lent : List Int} {Fend : Fnd} (hbs : LBlks bs) {n : Nat} (hn : n ≤ 800) (hk : ledK (flL lent) bs n [] [(0, [])] = some Fend) (h : ∀ S', KeepAll S S' → Q (.fdict (dueK Fend)) S') :
    FnOk B m 464 [deedsV bs, endsV bs, .flist (lent.map .int)] S Q := by
  refine fnm (rest := ["found", "left", "block", "known", "some", "here", "deed", "local", "value", "other", "told", "goals", "gone", "due", "first", "alike"]) E hm E.facts.f464 rfl (by decide +kernel) E.facts.b464 ?_
  refine q_tup2w (w_newd0 fun fd f1 f2 => w_newl (evs1 (ev_tup (evs2 ev_const (ev_dict evs_nil)) rfl)) rfl fun lf l1 l2 => swap_in rfl rfl ?_)
  have hlf : lf ≠ fd := ne_fg l1 lk_head (by intro e; cases e)
  have l3 : lk S lf = none := by rw [lk_tail hlf] at l1; exact l1
  have L := led_start (l3 := l3) hlf f1
  refine q_while n (led_while (B := B) (m := m - 1) (lent := lent) hbs n _ [] [(0, [])] none none none none none none none none none none none L (fun e he => by rw [List.mem_singleton.mp he]; exact ⟨by decide, Good.nil⟩) ⟨.nil, fun _ h => by cases h⟩ ?_ ?_ (Nat.le_trans hn (by decide)) hk fun S1 F1 p5 p6 p7 p8 p9 p10 p11 p12 p13 p14 p15 L1 hp fo hln => q_next (q_newd evs_nil rfl fun du d1 d2 => ?_))
  · exact Nat.le_trans (Nat.add_le_add_left (Nat.mul_le_mul_left 2 hn) _) (by decide)
  · exact Nat.le_trans (Nat.add_le_add_left hn _) (by decide)
  have hdf : fd ≠ du := ne_sn L1.hfd d1
  have hS1 : ∀ x, x ≠ fd → lk (rm S1 fd) x = lk S1 x := fun x hx => lk_rm_ne hx
  have hFF : prjF F1 = Fend := hp
  subst hFF
  refine q_freezeD rfl (by rw [lk_tail hdf]; exact L1.hfd) (rm_tail hdf) (q_for (ev_loc rfl) rfl (for_due (B := B) (m := m - 1) (S := rm S1 fd) (du := du) (F := F1) (by rw [hS1 du fun e => hdf e.symm]; exact d1) (fun e he => by rw [hS1 _ (L1.af e he)]; exact L1.hF e he) fo (Nat.le_trans hln (by decide)) (by exact fun _ => trivial) F1 [] _ _ _ _ _ _ _ _ _ _ _ _ _ rfl fun p5 p6 p7 p8 p9 p10 p11 p12 p13 p14 p15 p17 p18 => q_next (q_freezeD rfl lk_head rm_head (q_ret (ev_loc rfl) (h _ fun x hx => ?_)))))
  have x1 : x ≠ fd := (by rintro rfl; rw [f1] at hx; cases hx)
  rw [hS1 x x1]
  exact L1.k0 x hx
end
end Lend
namespace Lend
noncomputable def isLend : Stm → Bool
  | .lend _ _ => true
  | _ => false
noncomputable def lendO : Stm → Int
  | .lend _ o => o
  | _ => 0
noncomputable def lentI (ss : List Stm) : List Int := (ss.filter isLend).map lendO
noncomputable def lentL (bs : List Blk) : List Int := bs.flatMap fun b => lentI b.1
noncomputable def LB (bs : List Blk) : Prop := ∀ (i : Nat) (k : Blk), bs[i]? = some k → (∀ s ∈ k.1, LStm s) ∧ LEnd i k.2 ∧ k.1.length ≤ 3
noncomputable def PL (bs : List Blk) : Prop := ∃ f beg n F, f ≤ 10000 ∧ n ≤ 800 ∧ followK (folF (folK (lentK bs))) bs f [(0, .fdict [])] [0] = some beg ∧ ledK (flL (lentL bs)) bs n [] [(0, [])] = some F ∧
  dictEq eq2 beg (dueK F) = some true ∧ sortI ((lentK bs).map (·.1)) = ((List.range 8).map Int.ofNat).filter fun l => decide (l ∈ lentL bs)
theorem LEnd.le {n m : Int} {t : Trm} (h : LEnd n t) (e : m ≤ n) : LEnd m t := by
  rcases t with _ | g | ⟨l, k, g, d⟩ | ⟨l, g⟩ | ⟨l, g⟩
  · trivial
  · exact ⟨by have := h.1; omega, h.2⟩
  · exact ⟨h.1, h.2.1, ⟨by have := h.2.2.1.1; omega, h.2.2.1.2⟩, by have := h.2.2.2.1; omega, h.2.2.2.2⟩
  · exact ⟨h.1, by have := h.2.1; omega, h.2.2⟩
  · exact ⟨h.1, by have := h.2.1; omega, h.2.2⟩
theorem LB.blks {bs : List Blk} (h : LB bs) : LBlks bs := fun n k hk => by
  obtain ⟨h1, h2, _⟩ := h n.toNat k hk
  exact ⟨h1, h2.le (by omega)⟩
theorem LB.ok {bs : List Blk} (h : LB bs) : BlksOk bs := fun n k hk => by
  obtain ⟨h1, h2, _⟩ := h n.toNat k hk
  refine ⟨fun s hs => (h1 s hs).ok, ?_⟩
  rcases ht : k.2 with _ | g | ⟨l, kk, g, d⟩ | ⟨l, g⟩ | ⟨l, g⟩
  · trivial
  · rw [ht] at h2; exact ⟨by have := h2.1; omega, by have := h2.2; omega⟩
  · rw [ht] at h2; exact ⟨by have := h2.1; omega, ⟨by have := h2.2.2.1.1; omega, by have := h2.2.2.1.2; omega⟩, by have := h2.2.2.2.1; omega, by have := h2.2.2.2.2; omega⟩
  · rw [ht] at h2; exact ⟨by have := h2.2.1; omega, by have := h2.2.2; omega⟩
  · rw [ht] at h2; exact ⟨by have := h2.2.1; omega, by have := h2.2.2; omega⟩
theorem LB.add {bs : List Blk} (h : LB bs) {k : Blk} (h1 : ∀ s ∈ k.1, LStm s) (h2 : LEnd bs.length k.2) (h3 : k.1.length ≤ 3) : LB (bs ++ [k]) := fun i k' hk => by
  rcases Nat.lt_or_ge i bs.length with q | q
  · rw [List.getElem?_append_left q] at hk; exact h i k' hk
  · rw [List.getElem?_append_right q] at hk
    have hi : i - bs.length = 0 := by
      rcases Nat.eq_zero_or_pos (i - bs.length) with e | e
      · exact e
      · rw [List.getElem?_eq_none (by simp; omega)] at hk; cases hk
    rw [hi] at hk
    cases hk
    have : i = bs.length := by omega
    subst this
    exact ⟨h1, h2, h3⟩
section
variable {B : Bs} {S S0 : Store} {Q : CV → Store → Prop} {gd : Addr → Str → Option CV} {c b fo bg a ka fd lf src h : Addr} {bs : List Blk} {fol beg K here : KV} {F : FA} {left : List (Int × KV)}
noncomputable def rowV (s : Stm) : CV := .tup [stmV s, deedV s]
theorem gl_statement : glF (Str.ofString "_law_statement") = some (.raw (.ref 454)) := by kernel_rfl
theorem gl_law_end : glF (Str.ofString "_law_end") = some (.raw (.ref 459)) := by kernel_rfl
theorem gl_law_led : glF (Str.ofString "_law_led") = some (.raw (.ref 464)) := by kernel_rfl
theorem gl_sorted : glF (Str.ofString "sorted") = some (.raw (.builtin "sorted")) := by kernel_rfl
theorem draw_rows (E : Env0 B) {m : Nat} (hm : 5 ≤ m) {ρ : Rho} (r0 : nth ρ 0 = some (.loc src)) {R : List CV → Store → Prop} {gg : Store → Prop} (hg : ∀ S, gg S) (n : Nat) (j : Int) (S : Store) (ss : List Stm) (V p : Option CV) (hS : SrcAt S src) (hs : ∀ s ∈ ss, LStm s) (hl : ss.length + n ≤ 100)
    (h : ∀ (S' : Store) (ss' : List Stm), SrcAt S' src → KeepBut src S S' → (∀ s ∈ ss', LStm s) → ss'.length = ss.length + n → R (ss'.map rowV) S') :
    compW gg (compB1 (Gm B m) (.name 1) (.call false (.glob (Str.ofString "_law_statement")) [(.loc 2)]) []) (rangeL j n) (V :: p :: ρ) S (ss.map rowV) fun ρ' S' acc => ρ'.drop 2 = ρ ∧ R acc S' := by
  induction n generalizing j S ss p with
  | zero => exact ⟨rfl, h S ss hS (KeepBut.refl _ _) hs rfl⟩
  | succ n ih =>
    refine w_con (t_name rfl) ts_nil (wp_call (ev_gl gl_statement) (evs1 (ev_loc (i := 2) r0)) (statement_ok E hm hS fun s S1 hL hS1 k1 => ⟨by rw [List.length_map]; exact Nat.le_trans (Nat.le_trans (Nat.le_add_right _ _) hl) (by decide), hg _, ?_⟩))
    have hn : ss.length + (n + 1) = (ss ++ [s]).length + n := by rw [List.length_append, Nat.add_right_comm]; rfl
    have := ih (j + 1) S1 (ss ++ [s]) (some (.int j)) hS1 (fun t ht => ?_) (hn ▸ hl) fun S' ss' a1 a2 a3 a4 => h S' ss' a1 (k1.trans a2) a3 (a4.trans hn.symm)
    · rw [List.map_append] at this
      exact this
    · rcases List.mem_append.mp ht with ht | ht
      · exact hs t ht
      · rw [List.mem_singleton.mp ht]; exact hL
end
end Lend
namespace Lend
noncomputable def deedB (b : Blk) : CV := .flist (b.1.map deedV)
noncomputable def endB (b : Blk) : CV := .tup [.flist ((outsT b.2).map .int), goneT b.2]
structure FL (S : Store) (bl dl el src : Addr) (bs : List Blk) : Prop where
  hb : lk S bl = some (.list (bs.map blkV))
  hd : lk S dl = some (.list (bs.map deedB))
  he : lk S el = some (.list (bs.map endB))
  hS : SrcAt S src
  n1 : bl ≠ dl
  n2 : bl ≠ el
  n3 : dl ≠ el
  m1 : bl ≠ src
  m2 : dl ≠ src
  m3 : el ≠ src
theorem FL.keep {S S' : Store} {bl dl el src : Addr} {bs : List Blk} (h : FL S bl dl el src bs) (k : KeepBut src S S') (hS : SrcAt S' src) : FL S' bl dl el src bs :=
  ⟨by rw [k bl h.m1]; exact h.hb, by rw [k dl h.m2]; exact h.hd, by rw [k el h.m3]; exact h.he, hS, h.n1, h.n2, h.n3, h.m1, h.m2, h.m3⟩
theorem SrcAt.upO {S : Store} {a x : Addr} {o : CO} (h : SrcAt S a) (n : a ≠ x) : SrcAt (up S x o) a := by
  obtain ⟨p, q, h1, h2⟩ := h
  exact ⟨p, q, by rw [lk_up_ne n]; exact h1, h2⟩
theorem FL.add {S : Store} {bl dl el src : Addr} {bs : List Blk} (h : FL S bl dl el src bs) (k : Blk) : FL (up (up (up S bl (.list ((bs ++ [k]).map blkV))) dl (.list ((bs ++ [k]).map deedB))) el (.list ((bs ++ [k]).map endB))) bl dl el src (bs ++ [k]) :=
  ⟨by rw [lk_up_ne h.n2, lk_up_ne h.n1]; exact lk_up_self h.hb, by rw [lk_up_ne h.n3]; exact lk_up_self (by rw [lk_up_ne (fun e => h.n1 e.symm)]; exact h.hd), lk_up_self (by rw [lk_up_ne (fun e => h.n3 e.symm), lk_up_ne (fun e => h.n2 e.symm)]; exact h.he),
    ((h.hS.upO (fun e => h.m1 e.symm)).upO (fun e => h.m2 e.symm)).upO (fun e => h.m3 e.symm), h.n1, h.n2, h.n3, h.m1, h.m2, h.m3⟩
noncomputable def stC : RE := .lcomp 2 (.call false (.glob (Str.ofString "_law_statement")) [(.loc 2)]) (.call false (.glob (Str.ofString "range")) [(.call false (.glob (Str.ofString "_law_take")) [(.loc 0), (.const (.int 4))])]) (.name 1) [] []
noncomputable def projC (i : Int) : RE := .lcomp 2 (.sub (.loc 1) (.const (.int i))) (.loc 6) (.name 1) [] []
noncomputable def lendC : RE := .lcomp 2 (.sub (.sub (.sub (.sub (.loc 1) (.const (.int 0))) (.const (.int 2))) (.const (.int 3))) (.const (.int 0))) (.loc 6) (.name 1) [(.and [(.cmp .Eq (.sub (.sub (.loc 1) (.const (.int 0))) (.const (.int 0))) (.const (.str (Str.ofString "assign")))), (.cmp .Eq (.sub (.sub (.sub (.loc 1) (.const (.int 0))) (.const (.int 2))) (.const (.int 0))) (.const (.str (Str.ofString "ref"))))])] []
section
variable {B : Bs} {S S0 : Store} {Q : CV → Store → Prop} {gd : Addr → Str → Option CV} {c b fo bg a ka fd lf src h : Addr} {bs : List Blk} {fol beg K here : KV} {F : FA} {left : List (Int × KV)}
theorem stC_ok (E : Env0 B) {m : Nat} (hm : 5 ≤ m) {ρ : Rho} (r0 : nth ρ 0 = some (.loc src)) (hS : SrcAt S src) (h : ∀ (S' : Store) (ss : List Stm), SrcAt S' src → KeepBut src S S' → (∀ s ∈ ss, LStm s) → ss.length ≤ 3 → Q (.flist (ss.map rowV)) S') : wpE (Gm B m) stC ρ S Q := by
  refine w_lcompw (w_type1 gl_range (wp_call (ev_gl gl_take) (evs2 (ev_loc r0) ev_const) (take_keep E (lv0 hm rfl) hS (by decide) (by decide) fun r S1 h0 h1 hS1 k1 => ?_)))
  have h4 : r.toNat ≤ 3 := by omega
  refine tc_rng (by omega) (by omega) ?_
  rw [range_n h0 (by omega)]
  exact draw_rows E hm (ρ := ρ) r0 (R := fun acc S' => Q (.flist acc) S') (by exact fun _ => trivial) r.toNat 0 S1 [] none none hS1 (fun _ h => by cases h) (by rw [List.length_nil, Nat.zero_add]; exact Nat.le_trans h4 (by decide)) fun S' ss a1 a2 a3 a4 => h S' ss a1 (k1.trans a2) a3 (by rw [a4, List.length_nil, Nat.zero_add]; exact h4)
theorem proj0_ok {m : Nat} {ρ : Rho} {ss : List Stm} (r6 : nth ρ 6 = some (.flist (ss.map rowV))) (hl : ss.length ≤ 100) : Ev (Gm B m) (projC 0) ρ S (.flist (ss.map stmV)) :=
  ev_map (f := rowV) (h := stmV) (ev_loc r6) rfl (Nat.le_trans hl (by decide)) fun s _ => ev_i0 (ev_loc rfl) rfl
theorem proj1_ok {m : Nat} {ρ : Rho} {ss : List Stm} (r6 : nth ρ 6 = some (.flist (ss.map rowV))) (hl : ss.length ≤ 100) : Ev (Gm B m) (projC 1) ρ S (.flist (ss.map deedV)) :=
  ev_map (f := rowV) (h := deedV) (ev_loc r6) rfl (Nat.le_trans hl (by decide)) fun s _ => ev_i1 (ev_loc rfl) rfl
theorem lendC_ok {m : Nat} {ρ : Rho} {ss : List Stm} (r6 : nth ρ 6 = some (.flist (ss.map rowV))) (hs : ∀ s ∈ ss, LStm s) (hl : ss.length ≤ 100) : Ev (Gm B m) lendC ρ S (.flist ((lentI ss).map .int)) := by
  have key := ev_filt (G := Gm B m) (ρ := ρ) (S := S) (l := ss) (f := rowV) (h := fun s => .int (lendO s)) (b := isLend) (it := .loc 6) (elt := .sub (.sub (.sub (.sub (.loc 1) (.const (.int 0))) (.const (.int 2))) (.const (.int 3))) (.const (.int 0)))
    (e := .and [(.cmp .Eq (.sub (.sub (.loc 1) (.const (.int 0))) (.const (.int 0))) (.const (.str (Str.ofString "assign")))), (.cmp .Eq (.sub (.sub (.sub (.loc 1) (.const (.int 0))) (.const (.int 2))) (.const (.int 0))) (.const (.str (Str.ofString "ref"))))]) (ev_loc r6) rfl (Nat.le_trans hl (by decide)) (fun x hx => ?_) (fun x hx hc => ?_)
  · unfold lentI; rw [List.map_map]; exact key
  · have hL := hs x hx
    rcases x with ⟨l, s⟩ | ⟨w, o⟩ | ⟨w, l⟩ | l
    · exact ev_and (evb_on (ev_cmp (ev_i0 (ev_i0 (ev_loc rfl) rfl) rfl) ev_const (cmp_eq _)) (evb_off (ev_cmp (ev_i0 (ev_i2 (ev_i0 (ev_loc rfl) rfl) rfl) rfl) ev_const (cmp_ne (by decide)))))
    · exact ev_and (evb_on (ev_cmp (ev_i0 (ev_i0 (ev_loc rfl) rfl) rfl) ev_const (cmp_eq _)) (evb_on (ev_cmp (ev_i0 (ev_i2 (ev_i0 (ev_loc rfl) rfl) rfl) rfl) ev_const (cmp_eq _)) evb_nil))
    · exact ev_and (evb_off (ev_cmp (ev_i0 (ev_i0 (ev_loc rfl) rfl) rfl) ev_const (cmp_ne (by rcases hL.1 with rfl | rfl <;> rfl))))
    · exact ev_and (evb_off (ev_cmp (ev_i0 (ev_i0 (ev_loc rfl) rfl) rfl) ev_const (cmp_ne (by decide))))
  · rcases x with ⟨l, s⟩ | ⟨w, o⟩ | ⟨w, l⟩ | l
    · exact Bool.noConfusion hc
    · exact ev_i0 (ev_i3 (ev_i2 (ev_i0 (ev_loc rfl) rfl) rfl) rfl) rfl
    · exact Bool.noConfusion hc
    · exact Bool.noConfusion hc
noncomputable def fbBody : List RS := [(.asg (.swap [6, 7]) (.tup [stC, (.call false (.glob (Str.ofString "_law_end")) [(.loc 0), (.loc 5)])])),
    (.expr (.meth false (.loc 1) (Str.ofString "append") [(.list false [projC 0, (.sub (.loc 7) (.const (.int 0)))])])),
    (.expr (.meth false (.loc 2) (Str.ofString "append") [projC 1])),
    (.expr (.meth false (.loc 3) (Str.ofString "append") [(.tup [(.sub (.loc 7) (.const (.int 1))), (.sub (.loc 7) (.const (.int 2)))])])),
    (.asg (.name 4) (.bin .Add (.loc 4) lendC))]
theorem lentL_app (bs : List Blk) (k : Blk) : lentL (bs ++ [k]) = lentL bs ++ lentI k.1 := by simp [nth, lentL]
theorem LB.lent {bs : List Blk} (h : LB bs) : (lentL bs).length ≤ 3 * bs.length := by
  have hk : ∀ k ∈ bs, k.1.length ≤ 3 := fun k hk => by
    obtain ⟨i, hi⟩ := List.getElem?_of_mem hk
    exact (h i k hi).2.2
  clear h
  induction bs with
  | nil => simp [nth, lentL]
  | cons k bs ih =>
    have h1 := hk k (.head _)
    have h2 := ih fun k' h' => hk k' (.tail _ h')
    have h3 : (lentI k.1).length ≤ k.1.length := by unfold lentI; rw [List.length_map]; exact List.length_filter_le ..
    have e : lentL (k :: bs) = lentI k.1 ++ lentL bs := by simp [nth, lentL]
    rw [e, List.length_append, List.length_cons]
    omega
theorem blocks_loop (E : Env0 B) {m : Nat} (hm : 6 ≤ m) {bl dl el : Addr} {Kt : Fl → Rho → Store → Prop} {gg : Store → Prop} (hg : ∀ S, gg S) (n j : Nat) (S : Store) (bs : List Blk) (p5 p6 p7 : Option CV) (hj : bs.length = j) (h5 : j + n = 5) (hL : LB bs) (hF : FL S bl dl el src bs)
    (h : ∀ (S' : Store) (bs' : List Blk) p5 p6 p7, bs'.length = 5 → LB bs' → FL S' bl dl el src bs' → Kt .next [some (.loc src), some (.loc bl), some (.loc dl), some (.loc el), some (.flist ((lentL bs').map .int)), p5, p6, p7, none, none] S') :
    forN (Gm B m) gg 5 fbBody (rangeL j n) [some (.loc src), some (.loc bl), some (.loc dl), some (.loc el), some (.flist ((lentL bs).map .int)), p5, p6, p7, none, none] S Kt := by
  induction n generalizing j S bs p5 p6 p7 with
  | zero => exact for_nil (h S bs _ _ _ (hj.trans h5) hL hF)
  | succ n ih =>
    have j4 : j ≤ 4 := by omega
    have hlb : bs.length ≤ 100 := by rw [hj]; exact Nat.le_trans j4 (by decide)
    refine for_cons rfl (q_swap2w (stC_ok E (lv0 hm rfl) rfl hF.hS fun S1 ss hS1 k1 hs1 hl1 => wp_call (ev_gl gl_law_end) (evs2 (ev_loc rfl) (ev_loc rfl)) (end_ok E (lv0 hm rfl) (n := (j : Int)) (Int.natCast_nonneg j) (Int.ofNat_le.mpr j4) hS1 fun t S2 ht hS2 k2 => swap_in rfl rfl ?_)))
    have hF2 := (hF.keep k1 hS1).keep k2 hS2
    have hL3 : LB (bs ++ [(ss, t)]) := hL.add hs1 (by rw [hj]; exact ht) hl1
    have ih := fun p5 p6 p7 => ih (j + 1) _ (bs ++ [(ss, t)]) p5 p6 p7 (by rw [List.length_append, hj]; rfl) (by rw [← h5, Nat.add_assoc, Nat.add_comm 1 n]) hL3 (hF2.add (ss, t))
    have hLn := hL.lent
    have hln : (lentI ss).length ≤ 3 := by unfold lentI; rw [List.length_map]; exact Nat.le_trans (List.length_filter_le ..) hl1
    have sm : ∀ f : Blk → CV, Nat.ble (bs.map f).length small = true := fun f => Nat.ble_eq_true_of_le (by rw [List.length_map]; exact Nat.le_trans hlb (by decide))
    have hss : ss.length ≤ 100 := Nat.le_trans hl1 (by decide)
    rw [lentL_app, List.map_append, List.map_append, List.map_append, List.map_append] at ih
    clear hF hL hS1 k1 k2 hS2 ht hL3
    refine q_append (ev_loc rfl) hF2.hb (ev_list (evs2 (proj0_ok rfl hss) (ev_i0 (ev_loc rfl) rfl)) rfl) (sm _) (q_append (ev_loc rfl) (xs := bs.map deedB) ?_ (proj1_ok rfl hss) (sm _) (q_append (ev_loc rfl) (xs := bs.map endB) ?_ (ev_tup (evs2 (ev_i1 (ev_loc rfl) rfl) (ev_i2 (ev_loc rfl) rfl)) rfl) (sm _)
      (q_asg (ev_listadd (ev_loc rfl) (lendC_ok rfl hs1 hss) ?_) rfl (q_done ⟨hg _, ih _ _ _⟩))))
    · rw [lk_up_ne (fun e => hF2.n1 e.symm)]; exact hF2.hd
    · rw [lk_up_ne (fun e => hF2.n3 e.symm), lk_up_ne (fun e => hF2.n2 e.symm)]; exact hF2.he
    · refine Nat.ble_eq_true_of_le ?_
      rw [List.length_map, List.length_map]
      exact Nat.le_trans (Nat.add_le_add (Nat.le_trans hLn (Nat.mul_le_mul_left 3 hlb)) hln) (by decide)
end
end Lend
namespace Lend
noncomputable def rangeC : RE := .lcomp 2 (.loc 1) (.call false (.glob (Str.ofString "range")) [(.const (.int 8))]) (.name 1) [(.cmp .In (.loc 1) (.loc 6))] []
section
variable {B : Bs} {S S0 : Store} {Q : CV → Store → Prop} {gd : Addr → Str → Option CV} {c b fo bg a ka fd lf src h : Addr} {bs : List Blk} {fol beg K here : KV} {F : FA} {left : List (Int × KV)}
theorem eqvAll_ints : ∀ l : List Int, PyData.eqvAll (l.map .int) (l.map .int) = true
  | [] => rfl
  | i :: r => by simp [nth, PyData.eqvAll, PyData.eqv, eqvAll_ints r]
theorem ne_ints (l : List Int) : cmpV .NotEq S (.flist (l.map .int)) (.flist (l.map .int)) = some false := by
  show (eqW S (.flist (l.map .int)) (.flist (l.map .int))).map (!·) = _
  have : eqW S (.flist (l.map .int)) (.flist (l.map .int)) = some true := by
    show (if _ = _ then eqP (.flist (l.map .int)) (.flist (l.map .int)) else _) = _
    rw [if_pos rfl]
    unfold eqP
    simp only [nth, toPy, toPys_ints, Option.map_some]
    rw [if_pos (by simp [nth, PyData.depth, depth_ints])]
    simp [nth, PyData.eqv, eqvAll_ints]
  rw [this]; rfl
theorem rangeC_ok {m : Nat} {ρ : Rho} {l : List Int} (r4 : nth ρ 4 = some (.flist (l.map .int))) : Ev (Gm B m) rangeC ρ S (.flist ((((List.range 8).map Int.ofNat).filter fun x => decide (x ∈ l)).map .int)) :=
  ev_filt (l := (List.range 8).map Int.ofNat) (f := .int) (h := .int) (b := fun x => decide (x ∈ l)) (ev_type gl_range (evs1 ev_const) (v := .rng 0 8) fun _ k => tc_range rfl k) (range_n (n := 8) (by decide) (by decide)) (Nat.le_of_ble_eq_true rfl)
    (fun x _ => ev_cmp (ev_loc rfl) (ev_loc r4) (in_ints (S := S) (x := .flist (l.map .int)) (l := l) rfl)) fun x _ _ => ev_loc rfl
theorem ev_sorted {m : Nat} {ρ : Rho} {e : RE} {x : CV} {kvs : KV} (h : Ev (Gm B m) e ρ S x) (hx : view S x = .fdict kvs) (hl : kvs.length < 64) : Ev (Gm B m) (.call false (.glob (Str.ofString "sorted")) [e]) ρ S (.flist ((sortI (kvs.map (·.1))).map .int)) := ev_fun gl_sorted (evs1 h) fun _ k => by
  unfold fnCallW
  rw [if_neg (by decide), if_neg (by decide), if_pos rfl]
  dsimp only
  rw [hx]; exact ⟨hl, k⟩
theorem good_lents {bs : List Blk} (hbs : ∀ b ∈ bs, BlkOk b) : Good (lentK bs) := by
  unfold lentK
  have : ∀ (l : List Blk) (acc : KV), Good acc → (∀ b ∈ l, BlkOk b) → Good (l.foldl lentB acc) := by
    intro l
    induction l with
    | nil => intro acc g _; exact g
    | cons b l ih => intro acc g hb; exact ih _ (g.lentB (hb b (.head _))) fun x hx => hb x (.tail _ hx)
  exact this bs [] Good.nil hbs
theorem follow_end (E : Env0 B) {m : Nat} (hm : 10 ≤ m) (hL : LB bs) (h5 : bs.length = 5) (pl : PL bs) (hS : SrcAt S src) {X p5 p6 p7 : Option CV} (h : ∀ S', SrcAt S' src → Q (.bool true) S') :
    wpSs (Gm B m) (r469.drop 5) [X, some (.flist (bs.map blkV)), some (deedsV bs), some (endsV bs), some (.flist ((lentL bs).map .int)), p5, p6, p7, none, none] S fun fl _ S' => match fl with | .ret v => Q v S' | .next => Q .none S' := by
  obtain ⟨f, beg, n, F, pf, pn, hf, hn, heq, hso⟩ := pl
  have hbs : ∀ b ∈ bs, BlkOk b := fun b hb => by
    obtain ⟨i, hi⟩ := List.getElem?_of_mem hb
    exact fun s hs => ((hL i b hi).1 s hs).ok
  refine q_asgw rfl (wp_call (ev_gl gl_law_body) (evs1 (ev_loc rfl)) (law_body_ok E (lv0 hm rfl) fun b d hb => ?_))
  have hS1 := hS.cons (o := .inst 193 d (lawBody (bs.map blkV))) hb
  refine q_asgw rfl (wp_call (ev_gl gl_Constants) (evs1 (ev_loc rfl)) (con_new (bs := bs) E (lv0 hm rfl) ⟨d, lk_head⟩ hbs fun c fo bg S2 hC k2 l2 => ?_))
  have hS2 := hS1.keep k2
  refine q_exprw (wp_meth (ev_loc rfl) (kind_con hC (nm := "follow") (by decide) mt_follow) evs_nil (m_con hC mt_follow (follow_ok E (lv0 hm rfl) hC ⟨by simp [nth, Kn], by simp, by simp; exact Good.nil⟩ hL.ok pf hf fun S3 hC3 k3 => ?_)))
  have hS3 : SrcAt S3 src := by
    obtain ⟨p, q, h1, h2⟩ := hS2
    have : src ≠ bg := ne_fg h1 hC.hBg (by intro e; cases e)
    exact ⟨p, q, by rw [k3 src this (by rw [h1]; rfl)]; exact h1, h2⟩
  have hlen : (lentK bs).length < 64 := Nat.lt_of_le_of_lt (good_lents hbs).len (by decide)
  refine q_if_f (ev_cmp (ev_sorted (ev_call gl_lent_locals (evs1 (ev_loc rfl)) fun Q k => lent_ok E (lv0 hm rfl) hC3.hB hbs k) rfl hlen) (rangeC_ok (l := lentL bs) rfl) (hso ▸ ne_ints _)) ?_
  refine q_retw (w_cmp (ev_attr (ev_loc rfl) (attr_begins hC3)) (wp_call (ev_gl gl_law_led) (evs3 (ev_loc rfl) (ev_loc rfl) (ev_loc rfl)) (led_ok E (lv0 hm rfl) hL.blks pn hn fun S4 k4 => ?_)))
  have he : cmpV .Eq S4 (.loc bg) (.fdict (dueK F)) = some true := by
    show eqW S4 _ _ = _
    unfold eqW
    rw [view_dict (by rw [k4 bg (by rw [hC3.hBg]; rfl)]; exact hC3.hBg)]
    exact heq
  rw [he]
  exact h S4 (hS3.keep k4)
theorem SrcAt.rm {S : Store} {a x : Addr} (h : SrcAt S a) (n : a ≠ x) : SrcAt (Lend.rm S x) a := by
  obtain ⟨p, q, h1, h2⟩ := h
  exact ⟨p, q, by rw [lk_rm_ne n]; exact h1, h2⟩
theorem follow_right_ok (E : Env0 B) {m : Nat} (hm : 11 ≤ m) (hpl : ∀ bs, LB bs → bs.length = 5 → PL bs) (hS : SrcAt S src) (h : ∀ S', SrcAt S' src → Q (.bool true) S') : FnOk B m 469 [.loc src] S Q := by
  refine fnm (rest := ["blocks", "deeds", "ends", "lent", "block", "rows", "end", "body", "constants"]) E (lv0 hm rfl) E.facts.f469 rfl (by decide +kernel) E.facts.b469 ?_
  refine q_tupw (w_tup (w_cons (w_newl0 fun bl b1 b2 => w_cons (w_newl0 fun dl d1 d2 => w_cons (w_newl0 fun el e1 e2 => evs1 (ev_list evs_nil rfl) _ ⟨Nat.le_of_ble_eq_true rfl, in_all rfl, ?_⟩)))))
  have n1 : bl ≠ dl := ne_sn lk_head d1
  have n3 : dl ≠ el := ne_sn lk_head e1
  have n2 : bl ≠ el := by rintro rfl; rw [lk_tail n1, lk_head] at e1; cases e1
  have d3 : lk S dl = none := by rw [lk_tail fun e => n1 e.symm] at d1; exact d1
  have e3 : lk S el = none := by rw [lk_tail (fun e => n3 e.symm), lk_tail fun e => n2 e.symm] at e1; exact e1
  have hF : FL ((el, CO.list []) :: (dl, CO.list []) :: (bl, CO.list []) :: S) bl dl el src [] :=
    ⟨by rw [lk_tail n2, lk_tail n1, lk_head]; rfl, by rw [lk_tail n3, lk_head]; rfl, lk_head, ((hS.cons b1).cons d1).cons e1, n1, n2, n3, fun e => (hS.ne b1) e.symm, fun e => (hS.ne d3) e.symm, fun e => (hS.ne e3) e.symm⟩
  refine q_for (ev_type gl_range (evs1 ev_const) (v := .rng 0 5) fun _ k => tc_range rfl k) (range_n (n := 5) (by decide) (by decide)) (blocks_loop (B := B) (m := m - 1) (src := src) E (lv hm rfl) (by exact fun _ => trivial) 5 0 _ [] none none none rfl rfl (fun i k hk => by cases hk) hF fun S' bs p5 p6 p7 h5 hL hF' => ?_)
  refine q_next (q_freeze rfl hF'.hb rfl (q_freeze rfl (xs := bs.map deedB) ?_ rfl (q_freeze rfl (xs := bs.map endB) ?_ rfl (follow_end E (lv hm rfl) hL h5 (hpl bs hL h5) (((hF'.hS.rm (fun e => hF'.m1 e.symm)).rm (fun e => hF'.m2 e.symm)).rm (fun e => hF'.m3 e.symm)) h))))
  · rw [lk_rm_ne fun e => n1 e.symm]; exact hF'.hd
  · rw [lk_rm_ne (fun e => n3 e.symm), lk_rm_ne fun e => n2 e.symm]; exact hF'.he
end
end Lend
namespace Lend
set_option genCtorIdx false
structure G4 (K : KV) : Prop where
  n : Kn K
  r : ∀ p ∈ K, In4 p.1
  s : ∀ p ∈ K, ∃ i, p.2 = .int i
theorem G4.nil : G4 [] := ⟨Kn.nil, fun _ h => (by cases h), fun _ h => (by cases h)⟩
theorem G4.sub {K L : KV} (g : G4 K) (s : L.Sublist K) : G4 L := ⟨g.n.sub s, fun p h => g.r p (s.subset h), fun p h => g.s p (s.subset h)⟩
theorem G4.put {K : KV} (g : G4 K) {k : Int} {v : CV} (h : In4 k) (hv : ∃ i, v = .int i) : G4 (putK K k v) := ⟨g.n.put, fun p hp => by
  rcases put_mem hp with rfl | hp
  · exact h
  · exact g.r p hp, fun p hp => by
  rcases put_mem hp with rfl | hp
  · exact hv
  · exact g.s p hp⟩
theorem G4.del {K : KV} (g : G4 K) (k : Int) : G4 (delK K k) := g.sub del_sub
theorem G4.at {K : KV} (g : G4 K) {l : Int} {v : CV} (h : atK K l = some v) : In4 l ∧ ∃ i, v = .int i := ⟨g.r _ (atK_mem h), g.s _ (atK_mem h)⟩
theorem G4.good {K : KV} (g : G4 K) : Good K := ⟨g.n, fun p hp => ⟨(g.r p hp).1, by have := (g.r p hp).2; omega⟩, fun p hp => by
  obtain ⟨i, hi⟩ := g.s p hp
  rw [hi]; rfl⟩
theorem G4.stm {f : Int → Bool} {K : KV} (g : G4 K) {s : Stm} (h : LStm s) : G4 (stmK f K s) := by
  rcases s with ⟨l, s⟩ | ⟨w, o⟩ | ⟨w, l⟩ | l
  · have hs : stmK f K (.set l s) = (match evS K s with | some v => if f l = true then putK (delK K l) l v else delK K l | none => delK K l) := rfl
    rw [hs]
    rcases e : evS K s with _ | v
    · exact g.del l
    · dsimp only
      split
      · refine (g.del l).put h.1 ?_
        rcases s with w | w | o
        · cases e; exact h.2
        · exact h.2.elim
        · exact (g.at e).2
      · exact g.del l
  · exact g.del 7
  · exact g.del l
  · exact g
theorem G4.stms {f : Int → Bool} : ∀ {ss : List Stm} {K : KV}, G4 K → (∀ s ∈ ss, LStm s) → G4 (ss.foldl (stmK f) K)
  | [], K, g, _ => g
  | s :: ss, K, g, h => G4.stms (ss := ss) (g.stm (h s (.head _))) fun t ht => h t (.tail _ ht)
theorem G4.end {K : KV} (g : G4 K) (t : Trm) : G4 (endK K t) := by
  cases t <;> first | exact g | exact g.del _
theorem G4.tr {f : Int → Bool} {k : Blk} {K : KV} (g : G4 K) (h : ∀ s ∈ k.1, LStm s) : G4 (trB f k K) := (g.stms h).end _
inductive Dep where
  | cst (o : Option CV) | src (y : Int)
noncomputable def Dep.app : Dep → (Int → Option CV) → Option CV
  | .cst o, _ => o
  | .src y, f => f y
theorem dep_stm (f : Int → Bool) (s : Stm) (x : Int) : ∃ D : Dep, ∀ K : KV, Kn K → atK (stmK f K s) x = D.app (atK K) := by
  rcases s with ⟨l, s⟩ | ⟨w, o⟩ | ⟨w, l⟩ | l
  · by_cases e : x = l
    · subst e
      rcases s with v | v | o
      · refine ⟨.cst (if f x = true then some v else none), fun K n => ?_⟩
        show atK (if f x = true then putK (delK K x) x v else delK K x) x = _
        split
        · exact at_put_self
        · exact at_del_self n
      · refine ⟨.cst (if f x = true then some v else none), fun K n => ?_⟩
        show atK (if f x = true then putK (delK K x) x v else delK K x) x = _
        split
        · exact at_put_self
        · exact at_del_self n
      · by_cases q : f x = true
        · refine ⟨.src o, fun K n => ?_⟩
          show atK (match atK K o with | some v => if f x = true then putK (delK K x) x v else delK K x | none => delK K x) x = atK K o
          rcases e : atK K o with _ | v
          · exact at_del_self n
          · dsimp only; rw [if_pos q]; exact at_put_self
        · refine ⟨.cst none, fun K n => ?_⟩
          show atK (match atK K o with | some v => if f x = true then putK (delK K x) x v else delK K x | none => delK K x) x = none
          rcases e : atK K o with _ | v
          · exact at_del_self n
          · dsimp only; rw [if_neg q]; exact at_del_self n
    · refine ⟨.src x, fun K n => ?_⟩
      show atK (match evS K s with | some v => if f l = true then putK (delK K l) l v else delK K l | none => delK K l) x = atK K x
      rcases evS K s with _ | v
      · exact at_del_ne e
      · dsimp only
        split
        · rw [at_put_ne e, at_del_ne e]
        · exact at_del_ne e
  · by_cases e : x = 7
    · subst e; exact ⟨.cst none, fun K n => at_del_self n⟩
    · exact ⟨.src x, fun K n => at_del_ne e⟩
  · by_cases e : x = l
    · subst e; exact ⟨.cst none, fun K n => at_del_self n⟩
    · exact ⟨.src x, fun K n => at_del_ne e⟩
  · exact ⟨.src x, fun K n => rfl⟩
theorem kn_stm {f : Int → Bool} {K : KV} (n : Kn K) (s : Stm) : Kn (stmK f K s) := by
  rcases s with ⟨l, s⟩ | ⟨w, o⟩ | ⟨w, l⟩ | l
  · show Kn (match evS K s with | some v => if f l = true then putK (delK K l) l v else delK K l | none => delK K l)
    split
    · split
      · exact n.del.put
      · exact n.del
    · exact n.del
  · exact n.del
  · exact n.del
  · exact n
theorem kn_stms {f : Int → Bool} : ∀ {ss : List Stm} {K : KV}, Kn K → Kn (ss.foldl (stmK f) K)
  | [], K, n => n
  | s :: ss, K, n => kn_stms (ss := ss) (kn_stm n s)
theorem dep_stms (f : Int → Bool) : ∀ (ss : List Stm) (x : Int), ∃ D : Dep, ∀ K : KV, Kn K → atK (ss.foldl (stmK f) K) x = D.app (atK K)
  | [], x => ⟨.src x, fun K n => rfl⟩
  | s :: ss, x => by
    obtain ⟨D, hD⟩ := dep_stms f ss x
    cases D with
    | cst o => exact ⟨.cst o, fun K n => hD _ (kn_stm n s)⟩
    | src y =>
      obtain ⟨D2, h2⟩ := dep_stm f s y
      exact ⟨D2, fun K n => (hD _ (kn_stm n s)).trans (h2 K n)⟩
theorem dep_tr (f : Int → Bool) (k : Blk) (x : Int) : ∃ D : Dep, ∀ K : KV, Kn K → atK (trB f k K) x = D.app (atK K) := by
  have keep := dep_stms f k.1 x
  have drop : ∀ l : Int, ∃ D : Dep, ∀ K : KV, Kn K → atK (delK (k.1.foldl (stmK f) K) l) x = D.app (atK K) := fun l => by
    by_cases e : x = l
    · subst e; exact ⟨.cst none, fun K n => at_del_self (kn_stms n)⟩
    · obtain ⟨D, hD⟩ := keep
      exact ⟨D, fun K n => (at_del_ne e).trans (hD K n)⟩
  unfold trB
  rcases k.2 with _ | g | ⟨l, kk, g, d⟩ | ⟨l, g⟩ | ⟨l, g⟩
  · exact keep
  · exact keep
  · exact keep
  · exact drop l
  · exact drop l
noncomputable def SubK (A C : KV) : Prop := ∀ l v, atK A l = some v → atK C l = some v
theorem SubK.refl (A : KV) : SubK A A := fun _ _ h => h
theorem SubK.trans {A C D : KV} (h : SubK A C) (k : SubK C D) : SubK A D := fun l v e => k l v (h l v e)
theorem tr_mono {f : Int → Bool} {k : Blk} {A C : KV} (a : Kn A) (c : Kn C) (h : SubK A C) : SubK (trB f k A) (trB f k C) := fun l v e => by
  obtain ⟨D, hD⟩ := dep_tr f k l
  rw [hD A a] at e
  rw [hD C c]
  cases D with
  | cst o => exact e
  | src y => exact h y v e
inductive Rch (f : Int → Bool) (bs : List Blk) : Int → KV → Prop
  | start : Rch f bs 0 []
  | step {b : Int} {K : KV} {k : Blk} {g : Int} : Rch f bs b K → blk bs b = some k → g ∈ outsT k.2 → Rch f bs g (trB f k K)
noncomputable def InB (b : Int) : Prop := 0 ≤ b ∧ b ≤ 4
theorem Rch.inb {f : Int → Bool} {bs : List Blk} (hL : LB bs) {b : Int} {K : KV} (h : Rch f bs b K) : InB b ∧ G4 K := by
  induction h with
  | start => exact ⟨⟨by omega, by omega⟩, G4.nil⟩
  | step h hk hg ih =>
    obtain ⟨h1, h2⟩ := hL.blks _ _ hk
    have := (h2.outs ih.1.1).2 _ hg
    exact ⟨⟨by have := ih.1.1; omega, by omega⟩, ih.2.tr h1⟩
noncomputable def Alike (f : Int → Bool) (bs : List Blk) (b l : Int) (v : CV) : Prop := ∀ R, Rch f bs b R → atK R l = some v
theorem alike_tr {f : Int → Bool} {bs : List Blk} (hL : LB bs) {b : Int} {K : KV} {k : Blk} {g : Int} (n : Kn K) (hr : ∃ R, Rch f bs b R) (h1 : ∀ l v, Alike f bs b l v → atK K l = some v) (hk : blk bs b = some k) (hg : g ∈ outsT k.2) {l : Int} {v : CV} (h : Alike f bs g l v) : atK (trB f k K) l = some v := by
  obtain ⟨D, hD⟩ := dep_tr f k l
  rw [hD K n]
  cases D with
  | cst o =>
    obtain ⟨R, hR⟩ := hr
    have := h _ (hR.step hk hg)
    rw [hD R (hR.inb hL).2.n] at this
    exact this
  | src y =>
    refine h1 y v fun R hR => ?_
    have := h _ (hR.step hk hg)
    rw [hD R (hR.inb hL).2.n] at this
    exact this
theorem goals_iff {n : Int} {K : KV} (g : G4 K) {t : Trm} (h : LEnd n t) (x : Int) : x ∈ goalsK K t ↔ x ∈ outsT t := by
  cases t with
  | sw l k gl d =>
    obtain ⟨rfl, rfl, _⟩ := h
    have : atK K 6 = none := by
      rcases e : atK K 6 with _ | v
      · rfl
      · have := (g.at e).1.2; omega
    simp only [goalsK, this, outsT]
    by_cases q : d = gl
    · subst q; simp
    · simp [q]
  | _ => exact Iff.rfl
theorem keep_iff {K : KV} (g : G4 K) {l : Int} {i : Int} : keepP K (l, .int i) = true ↔ atK K l = some (.int i) := by
  unfold keepP
  dsimp only
  rcases e : atK K l with _ | v
  · simp
  · obtain ⟨_, j, rfl⟩ := g.at e
    simp [eqS, num]
    exact decide_eq_true_iff
end Lend
namespace Lend
noncomputable def pot (beg : KV) (b : Int) : Nat := match atK beg b with
  | some (.fdict K) => K.length
  | _ => 9
noncomputable def potsL (beg : KV) : List Int → Nat
  | [] => 0
  | g :: r => pot beg g + potsL beg r
noncomputable def pots (beg : KV) : Nat := potsL beg ((List.range 5).map Int.ofNat)
structure BegOk (beg : KV) : Prop where
  n : Kn beg
  v : ∀ b x, atK beg b = some x → InB b ∧ ∃ K, x = .fdict K ∧ G4 K
structure Sink (beg beg' : KV) (left left' : List Int) : Prop where
  old : ∀ b K, atK beg b = some (.fdict K) → ∃ K', atK beg' b = some (.fdict K') ∧ SubK K' K ∧ (K' = K ∨ b ∈ left')
  new : ∀ b x, atK beg' b = some x → atK beg b = none → b ∈ left'
  le : ∀ b ∈ left, b ∈ left'
theorem Sink.refl (beg : KV) (left : List Int) : Sink beg beg left left := ⟨fun b K h => ⟨K, h, SubK.refl K, .inl rfl⟩, fun b x h1 h2 => (by rw [h1] at h2; cases h2), fun b h => h⟩
theorem Sink.trans {b1 b2 b3 : KV} {l1 l2 l3 : List Int} (h : Sink b1 b2 l1 l2) (k : Sink b2 b3 l2 l3) (ok : BegOk b2) : Sink b1 b3 l1 l3 := by
  refine ⟨fun b K e => ?_, fun b x e1 e2 => ?_, fun b hb => k.le b (h.le b hb)⟩
  · obtain ⟨K2, e2, s2, o2⟩ := h.old b K e
    obtain ⟨K3, e3, s3, o3⟩ := k.old b K2 e2
    refine ⟨K3, e3, s3.trans s2, ?_⟩
    rcases o3 with rfl | o3
    · rcases o2 with rfl | o2
      · exact .inl rfl
      · exact .inr (k.le b o2)
    · exact .inr o3
  · rcases q : atK b2 b with _ | y
    · exact k.new b x e1 q
    · exact k.le b (h.new b y q e2)
theorem kept_at {K here : KV} (gK : G4 K) (g : G4 here) {l : Int} {v : CV} : atK (keptK K here) l = some v ↔ atK here l = some v ∧ atK K l = some v := by
  rw [kept_eq, at_filter g.n]
  rcases e : atK here l with _ | u
  · simp
  · obtain ⟨_, i, rfl⟩ := g.at e
    dsimp only
    by_cases q : keepP K (l, .int i) = true
    · rw [if_pos q]
      have := (keep_iff gK).mp q
      constructor
      · intro h; cases h; exact ⟨rfl, this⟩
      · intro h; exact h.1
    · rw [if_neg q]
      constructor
      · intro h; cases h
      · intro h
        obtain ⟨h1, h2⟩ := h
        cases h1
        exact absurd ((keep_iff gK).mpr h2) q
set_option tactic.hygienic true in
theorem filter_full {α : Type} {f : α → Bool} : ∀ {l : List α}, ¬ (l.filter f).length < l.length → l.filter f = l
  | [], _ => rfl
  | x :: r, h => by
    rw [List.filter_cons] at h ⊢
    have hle := List.length_filter_le f r
    split at h
    · rename_i q
      rw [if_pos q, filter_full (by simpa using h)]
    · rename_i q
      simp at h
      omega
theorem pot_put_ne {beg : KV} {b g : Int} {x : CV} (h : b ≠ g) : pot (putK beg g x) b = pot beg b := by
  unfold pot; rw [at_put_ne h]
theorem pot_put_self {beg : KV} {g : Int} {K : KV} : pot (putK beg g (.fdict K)) g = K.length := by
  unfold pot; rw [at_put_self]
theorem potsL_ne {beg : KV} {g : Int} {x : CV} {l : List Int} (h : g ∉ l) : potsL (putK beg g x) l = potsL beg l := by
  induction l with
  | nil => rfl
  | cons a r ih =>
    show pot (putK beg g x) a + potsL (putK beg g x) r = pot beg a + potsL beg r
    rw [pot_put_ne (fun e : a = g => h (by rw [e]; exact .head _)), ih fun hr => h (.tail _ hr)]
theorem potsL_put {beg : KV} {g : Int} {K : KV} (h : K.length ≤ pot beg g) {l : List Int} (n : l.Nodup) (hg : g ∈ l) : potsL (putK beg g (.fdict K)) l + (pot beg g - K.length) = potsL beg l := by
  induction l with
  | nil => exact absurd hg List.not_mem_nil
  | cons a r ih =>
    show pot (putK beg g (.fdict K)) a + potsL (putK beg g (.fdict K)) r + _ = pot beg a + potsL beg r
    rcases List.nodup_cons.mp n with ⟨na, nr⟩
    by_cases e : a = g
    · rw [e, pot_put_self, potsL_ne (e ▸ na), Nat.add_right_comm, Nat.add_sub_cancel' h]
    · rw [pot_put_ne e, Nat.add_assoc, ih nr ((List.mem_cons.mp hg).resolve_left fun h => e h.symm)]
theorem pots_put {beg : KV} {g : Int} {K : KV} (hg : InB g) (h : K.length ≤ pot beg g) : pots (putK beg g (.fdict K)) + (pot beg g - K.length) = pots beg :=
  potsL_put h (by decide) (mem_upto hg.1 (Int.lt_add_one_iff.mpr hg.2))
structure MeetOk (beg beg' : KV) (left left' : List Int) (K : KV) (gs : List Int) : Prop where
  ok : BegOk beg'
  sink : Sink beg beg' left left'
  at' : ∀ g ∈ gs, ∃ Kg, atK beg' g = some (.fdict Kg) ∧ SubK Kg K
  oth : ∀ b, b ∉ gs → atK beg' b = atK beg b
  pot : left'.length + 2 * pots beg' ≤ left.length + 2 * pots beg
  alk : ∀ (P : Int → Int → CV → Prop), (∀ b Kb, atK beg b = some (.fdict Kb) → ∀ l v, P b l v → atK Kb l = some v) → (∀ g ∈ gs, ∀ l v, P g l v → atK K l = some v) → ∀ b Kb, atK beg' b = some (.fdict Kb) → ∀ l v, P b l v → atK Kb l = some v
  lft : ∀ x ∈ left', x ∈ left ∨ x ∈ gs
set_option tactic.hygienic true in
theorem meet_one {beg : KV} {left : List Int} {K : KV} {g : Int} (ok : BegOk beg) (gK : G4 K) (hg : InB g) : MeetOk beg (meetK beg g K).2 left (if (meetK beg g K).1 = true then left ++ [g] else left) K [g] := by
  have hlK : K.length ≤ 8 := gK.good.len
  rcases e : atK beg g with _ | y
  · have em : meetK beg g K = (true, putK beg g (.fdict K)) := by simp [meetK, e]
    rw [em]
    have hp : pot beg g = 9 := by unfold pot; rw [e]
    refine ⟨⟨ok.n.put, fun b x h => ?_⟩, ⟨fun b Kb h => ?_, fun b x h1 h2 => ?_, fun b hb => by simp [hb]⟩, fun b hb => ?_, fun b hb => ?_, ?_, fun P h1 h2 b Kb h => ?_, fun x hx => by simpa using hx⟩
    · rw [at_put] at h
      split at h
      · rename_i q; subst q; cases h; exact ⟨hg, K, rfl, gK⟩
      · exact ok.v b x h
    · have hne : b ≠ g := ne_sn h e
      exact ⟨Kb, by rw [at_put_ne hne]; exact h, SubK.refl _, .inl rfl⟩
    · rw [at_put] at h1
      split at h1
      · rename_i q; subst q; simp
      · rw [h1] at h2; cases h2
    · simp at hb; subst hb; exact ⟨K, at_put_self, SubK.refl _⟩
    · exact at_put_ne (by simpa using hb)
    · have := pots_put (beg := beg) (K := K) hg (by omega)
      simp
      omega
    · rw [at_put] at h
      split at h
      · rename_i q; subst q; cases h; exact h2 b (by simp)
      · exact h1 b Kb h
  · obtain ⟨_, here, rfl, gh⟩ := ok.v g y e
    have em : meetK beg g K = (decide ((keptK K here).length < here.length), putK beg g (.fdict (keptK K here))) := by simp [meetK, e]
    rw [em]
    have hp : pot beg g = here.length := by unfold pot; rw [e]
    have hsub : (keptK K here).Sublist here := List.filter_sublist
    have hle : (keptK K here).length ≤ here.length := hsub.length_le
    have gk : G4 (keptK K here) := gh.sub hsub
    have hpp := pots_put (beg := beg) (K := keptK K here) hg (by omega)
    have hs1 : SubK (keptK K here) here := fun l v h => ((kept_at gK gh).mp h).1
    have hs2 : SubK (keptK K here) K := fun l v h => ((kept_at gK gh).mp h).2
    have hok : BegOk (putK beg g (.fdict (keptK K here))) := ⟨ok.n.put, fun b x h => by
      rw [at_put] at h
      split at h
      · rename_i q; subst q; cases h; exact ⟨hg, _, rfl, gk⟩
      · exact ok.v b x h⟩
    have halk : ∀ (P : Int → Int → CV → Prop), (∀ b Kb, atK beg b = some (.fdict Kb) → ∀ l v, P b l v → atK Kb l = some v) → (∀ g' ∈ [g], ∀ l v, P g' l v → atK K l = some v) → ∀ b Kb, atK (putK beg g (.fdict (keptK K here))) b = some (.fdict Kb) → ∀ l v, P b l v → atK Kb l = some v := fun P h1 h2 b Kb h l v hP => by
      rw [at_put] at h
      split at h
      · rename_i q; subst q; cases h
        exact (kept_at gK gh).mpr ⟨h1 b here e l v hP, h2 b (by simp) l v hP⟩
      · exact h1 b Kb h l v hP
    have hnew : ∀ b x, atK (putK beg g (.fdict (keptK K here))) b = some x → atK beg b = none → False := fun b x h1 h2 => by
      rw [at_put] at h1
      split at h1
      · rename_i q; subst q; rw [e] at h2; cases h2
      · rw [h1] at h2; cases h2
    by_cases q : (keptK K here).length < here.length
    · simp only [decide_eq_true q, if_true]
      refine ⟨hok, ⟨fun b Kb h => ?_, fun b x h1 h2 => (hnew b x h1 h2).elim, fun b hb => by simp [hb]⟩, fun b hb => ?_, fun b hb => at_put_ne (by simpa using hb), ?_, halk, fun x hx => by simpa using hx⟩
      · by_cases hne : b = g
        · subst hne
          rw [e] at h; cases h
          exact ⟨_, at_put_self, hs1, .inr (by simp)⟩
        · exact ⟨Kb, by rw [at_put_ne hne]; exact h, SubK.refl _, .inl rfl⟩
      · simp at hb; subst hb; exact ⟨_, at_put_self, hs2⟩
      · simp; omega
    · have hf : keptK K here = here := filter_full q
      simp only [decide_eq_false q]
      refine ⟨hok, ⟨fun b Kb h => ?_, fun b x h1 h2 => (hnew b x h1 h2).elim, fun b hb => by simpa using hb⟩, fun b hb => ?_, fun b hb => at_put_ne (by simpa using hb), ?_, halk, fun x hx => by left; simpa using hx⟩
      · by_cases hne : b = g
        · subst hne
          rw [e] at h; cases h
          exact ⟨_, at_put_self, hs1, .inl hf⟩
        · exact ⟨Kb, by rw [at_put_ne hne]; exact h, SubK.refl _, .inl rfl⟩
      · simp at hb; subst hb; exact ⟨_, at_put_self, hs2⟩
      · simp; omega
theorem meets_all {K : KV} (gK : G4 K) : ∀ (gs : List Int) (beg : KV) (left : List Int), BegOk beg → (∀ g ∈ gs, InB g) → MeetOk beg (meetsK K gs beg left).1 left (meetsK K gs beg left).2 K gs
  | [], beg, left, ok, hg => ⟨ok, Sink.refl _ _, by simp, fun _ _ => rfl, Nat.le_refl _, fun P h1 _ => h1, fun x hx => .inl hx⟩
  | g :: gs, beg, left, ok, hg => by
    have m1 := meet_one (left := left) ok gK (hg g (.head _))
    have m2 := meets_all gK gs (meetK beg g K).2 (if (meetK beg g K).1 = true then left ++ [g] else left) m1.ok fun x hx => hg x (.tail _ hx)
    simp only [meetsK]
    generalize (meetK beg g K).2 = beg1 at *
    generalize (if (meetK beg g K).1 = true then left ++ [g] else left) = left1 at *
    refine ⟨m2.ok, m1.sink.trans m2.sink m1.ok, fun x hx => ?_, fun b hb => ?_, Nat.le_trans m2.pot m1.pot, fun P h1 h2 => m2.alk P (m1.alk P h1 fun x hx => h2 x (by simp at hx; subst hx; exact .head _)) fun x hx => h2 x (.tail _ hx), fun x hx => ?_⟩
    · by_cases q : x ∈ gs
      · exact m2.at' x q
      · obtain ⟨Kg, e1, s1⟩ := m1.at' x (by
          rcases List.mem_cons.mp hx with rfl | hx
          · simp
          · exact absurd hx q)
        exact ⟨Kg, by rw [m2.oth x q]; exact e1, s1⟩
    · rw [m2.oth b (fun q => hb (.tail _ q)), m1.oth b (fun q => hb (by simp at q; subst q; exact .head _))]
    · rcases m2.lft x hx with h | h
      · rcases m1.lft x h with h | h
        · exact .inl h
        · simp at h; subst h; exact .inr (.head _)
      · exact .inr (.tail _ h)
end Lend
namespace Lend
structure Inv (f : Int → Bool) (bs : List Blk) (beg : KV) (left : List Int) : Prop where
  ok : BegOk beg
  lft : ∀ n ∈ left, ∃ K, atK beg n = some (.fdict K)
  zero : atK beg 0 = some (.fdict [])
  rch : ∀ b x, atK beg b = some x → ∃ R, Rch f bs b R
  i1 : ∀ b K, atK beg b = some (.fdict K) → ∀ l v, Alike f bs b l v → atK K l = some v
  i2 : ∀ b K k, atK beg b = some (.fdict K) → b ∉ left → blk bs b = some k → ∀ g ∈ outsT k.2, ∃ Kg, atK beg g = some (.fdict Kg) ∧ SubK Kg (trB f k K)
theorem blk_some {bs : List Blk} (h5 : bs.length = 5) {b : Int} (hb : InB b) : ∃ k, blk bs b = some k := by
  unfold blk
  have : b.toNat < bs.length := by have := hb.1; have := hb.2; omega
  exact ⟨_, List.getElem?_eq_getElem this⟩
theorem last_split {α : Type} {l : List α} {x : α} (h : l.getLast? = some x) : l = l.dropLast ++ [x] := by
  have hne : l ≠ [] := by rintro rfl; simp at h
  have := List.dropLast_concat_getLast hne
  rw [List.getLast?_eq_some_getLast hne] at h
  cases h
  exact this.symm
theorem inv_turn {f : Int → Bool} {bs : List Blk} (hL : LB bs) {beg : KV} {left : List Int} (I : Inv f bs beg left) {n : Int} (hn : left.getLast? = some n) {K : KV} (hK : atK beg n = some (.fdict K)) {k : Blk} (hk : blk bs n = some k) :
    Inv f bs (meetsK (trB f k K) (goalsK (trB f k K) k.2) beg left.dropLast).1 (meetsK (trB f k K) (goalsK (trB f k K) k.2) beg left.dropLast).2 ∧
    (meetsK (trB f k K) (goalsK (trB f k K) k.2) beg left.dropLast).2.length + 2 * pots (meetsK (trB f k K) (goalsK (trB f k K) k.2) beg left.dropLast).1 < left.length + 2 * pots beg := by
  obtain ⟨hnb, K', e', gK⟩ := I.ok.v n _ hK
  cases e'
  obtain ⟨h1, h2⟩ := hL.blks n k hk
  have gT : G4 (trB f k K) := gK.tr h1
  have hgi := fun x => goals_iff gT h2 x
  have hgo := fun g hg => (h2.outs hnb.1).2 g ((hgi g).mp hg)
  have hgb : ∀ g ∈ goalsK (trB f k K) k.2, InB g := fun g hg => ⟨by have := hgo g hg; have := hnb.1; omega, (hgo g hg).2⟩
  have m := meets_all gT (goalsK (trB f k K) k.2) beg left.dropLast I.ok hgb
  have hsp := last_split hn
  have hsub : ∀ x ∈ left.dropLast, x ∈ left := fun x hx => by rw [hsp]; exact List.mem_append_left _ hx
  have halk : ∀ g ∈ goalsK (trB f k K) k.2, ∀ l v, Alike f bs g l v → atK (trB f k K) l = some v := fun g hg l v h => alike_tr hL gK.n (I.rch n _ hK) (I.i1 n K hK) hk ((hgi g).mp hg) h
  generalize hgs : goalsK (trB f k K) k.2 = gs at *
  generalize (meetsK (trB f k K) gs beg left.dropLast).1 = beg' at *
  generalize (meetsK (trB f k K) gs beg left.dropLast).2 = left' at *
  refine ⟨⟨m.ok, fun x hx => ?_, ?_, fun b x hb => ?_, ?_, fun b Kb kb hb hl hkb g hg => ?_⟩, ?_⟩
  · rcases m.lft x hx with h | h
    · obtain ⟨Kx, e⟩ := I.lft x (hsub x h)
      obtain ⟨K2, e2, _⟩ := m.sink.old x Kx e
      exact ⟨K2, e2⟩
    · obtain ⟨K2, e2, _⟩ := m.at' x h
      exact ⟨K2, e2⟩
  · rw [m.oth 0 (fun h => by have := hgo 0 h; have := hnb.1; omega)]; exact I.zero
  · by_cases q : b ∈ gs
    · obtain ⟨R, hR⟩ := I.rch n _ hK
      exact ⟨_, hR.step hk ((hgi b).mp q)⟩
    · rw [m.oth b q] at hb; exact I.rch b x hb
  · exact m.alk (Alike f bs) I.i1 halk
  · rcases e0 : atK beg b with _ | x
    · exact absurd (m.sink.new b _ hb e0) hl
    · obtain ⟨_, K0, rfl, _⟩ := I.ok.v b x e0
      obtain ⟨K2, e2, s2, o2⟩ := m.sink.old b K0 e0
      rw [hb] at e2; cases e2
      have hKK : Kb = K0 := by
        rcases o2 with h | h
        · exact h
        · exact absurd h hl
      subst hKK
      by_cases q : b = n
      · subst q
        rw [hK] at e0; cases e0
        rw [hk] at hkb; cases hkb
        exact m.at' g ((hgi g).mpr hg)
      · have hbl : b ∉ left := fun h => by
          rw [hsp] at h
          rcases List.mem_append.mp h with h | h
          · exact hl (m.sink.le b h)
          · simp at h; exact q h
        obtain ⟨Kg, e3, s3⟩ := I.i2 b Kb kb e0 hbl hkb g hg
        obtain ⟨K4, e4, s4, _⟩ := m.sink.old g Kg e3
        exact ⟨K4, e4, s4.trans s3⟩
  · have := m.pot
    have hne : left ≠ [] := by rintro rfl; simp at hn
    have hpos : 0 < left.length := List.length_pos_iff.mpr hne
    have hd : left.dropLast.length = left.length - 1 := List.length_dropLast
    omega
theorem follow_ends {f : Int → Bool} {bs : List Blk} (hL : LB bs) (h5 : bs.length = 5) : ∀ (μ : Nat) (beg : KV) (left : List Int), Inv f bs beg left → left.length + 2 * pots beg ≤ μ → ∃ beg', followK f bs (μ + 1) beg left = some beg' ∧ Inv f bs beg' []
  | μ, beg, left, I, hμ => by
    unfold followK
    rcases e : left.getLast? with _ | n
    · have : left = [] := List.getLast?_eq_none_iff.mp e
      subst this
      exact ⟨beg, rfl, I⟩
    · have hnm : n ∈ left := List.mem_of_getLast? e
      obtain ⟨K, hK⟩ := I.lft n hnm
      obtain ⟨k, hk⟩ := blk_some h5 (I.ok.v n _ hK).1
      obtain ⟨I2, hlt⟩ := inv_turn hL I e hK hk
      dsimp only
      rw [hK, hk]
      dsimp only
      match μ, hμ with
      | 0, hμ => omega
      | μ + 1, hμ => exact follow_ends hL h5 μ _ _ I2 (by omega)
theorem inv_end {f : Int → Bool} {bs : List Blk} (hL : LB bs) {beg : KV} (I : Inv f bs beg []) {b : Int} {R : KV} (h : Rch f bs b R) : ∃ K, atK beg b = some (.fdict K) ∧ SubK K R := by
  induction h with
  | start => exact ⟨[], I.zero, SubK.refl _⟩
  | step h hk hg ih =>
    obtain ⟨K, e, s⟩ := ih
    obtain ⟨Kg, e2, s2⟩ := I.i2 _ K _ e (by simp) hk _ hg
    obtain ⟨_, K', eK, gK⟩ := I.ok.v _ _ e
    cases eK
    exact ⟨Kg, e2, s2.trans (tr_mono gK.n (h.inb hL).2.n s)⟩
theorem follow_plain {f : Int → Bool} {bs : List Blk} (hL : LB bs) (h5 : bs.length = 5) : ∃ beg, followK f bs 102 [(0, .fdict [])] [0] = some beg ∧ BegOk beg ∧ (∀ b R, Rch f bs b R → (atK beg b).isSome = true) ∧ ∀ b K, atK beg b = some (.fdict K) → (∃ R, Rch f bs b R) ∧ ∀ l v, atK K l = some v ↔ Alike f bs b l v := by
  have I0 : Inv f bs [(0, .fdict [])] [0] := by
    have key : ∀ b x, atK ([(0, .fdict [])] : KV) b = some x → b = 0 ∧ x = .fdict [] := fun b x h => by
      by_cases e : b = 0
      · subst e; simp [atK] at h; exact ⟨rfl, h.symm⟩
      · simp [atK, e] at h
    refine ⟨⟨by simp [Kn], fun b x h => ?_⟩, fun n hn => ?_, rfl, fun b x h => ?_, fun b K h l v ha => ?_, fun b K k h hl => ?_⟩
    · obtain ⟨rfl, rfl⟩ := key b x h
      exact ⟨⟨by decide, by decide⟩, [], rfl, G4.nil⟩
    · simp at hn; subst hn; exact ⟨[], rfl⟩
    · obtain ⟨rfl, rfl⟩ := key b x h
      exact ⟨[], .start⟩
    · obtain ⟨rfl, e⟩ := key b _ h
      cases e
      exact ha [] .start
    · obtain ⟨rfl, e⟩ := key b _ h
      simp at hl
  obtain ⟨beg, h1, I⟩ := follow_ends (f := f) hL h5 101 _ _ I0 (by decide +kernel)
  refine ⟨beg, h1, I.ok, fun b R h => ?_, fun b K h => ⟨I.rch b _ h, fun l v => ⟨fun e R hR => ?_, I.i1 b K h l v⟩⟩⟩
  · obtain ⟨K, e, _⟩ := inv_end hL I h
    rw [e]; rfl
  · obtain ⟨K', e', s⟩ := inv_end hL I hR
    rw [h] at e'; cases e'
    exact s l v e
end Lend
namespace Lend
noncomputable def InF (F : Fnd) (b : Int) (K : KV) : Prop := ∃ Ks, atK F b = some Ks ∧ K ∈ Ks
theorem inF_add {F : Fnd} {b b' : Int} {K K' : KV} : InF (addF F b K) b' K' ↔ InF F b' K' ∨ (b' = b ∧ K' = K) := by
  unfold InF addF
  rw [at_put]
  by_cases e : b' = b
  · subst e
    rw [if_pos rfl]
    rcases q : atK F b' with _ | Ks
    · simp
    · simp
  · rw [if_neg e]
    simp [e]
structure LedInv (f : Int → Bool) (bs : List Blk) (F : Fnd) (left : List (Int × KV)) : Prop where
  n : Kn F
  ne : ∀ b Ks, atK F b = some Ks → Ks ≠ []
  rl : ∀ e ∈ left, Rch f bs e.1 e.2
  rf : ∀ b K, InF F b K → Rch f bs b K
  cl : ∀ b K k, InF F b K → blk bs b = some k → ∀ g ∈ outsT k.2, (g, trB f k K) ∈ left ∨ InF F g (trB f k K)
  st : (0, []) ∈ left ∨ InF F 0 []
noncomputable def wt : List (Int × KV) → Nat
  | [] => 0
  | e :: r => 3 ^ (5 - e.1).toNat + wt r
theorem wt_app : ∀ (a b : List (Int × KV)), wt (a ++ b) = wt a + wt b
  | [], b => by simp [wt]
  | e :: a, b => by simp [wt, wt_app a b]; omega
theorem wt_outs {b : Int} (hb : InB b) {T : KV} : ∀ {l : List Int}, l.length ≤ 2 → (∀ g ∈ l, b < g ∧ g ≤ 4) → wt (l.map fun g => (g, T)) < 3 ^ (5 - b).toNat := by
  intro l hl hg
  have e : (5 - b).toNat = (4 - b).toNat + 1 := by have := hb.2; omega
  have hpos : 0 < 3 ^ (4 - b).toNat := Nat.pow_pos (by decide)
  have h1 : ∀ g, b < g ∧ g ≤ 4 → 3 ^ (5 - g).toNat ≤ 3 ^ (4 - b).toNat := fun g h => Nat.pow_le_pow_right (by decide) (by omega)
  rw [e, Nat.pow_succ]
  match l, hl, hg with
  | [], _, _ => simp [wt]; omega
  | [x], _, hg => have := h1 x (hg x (by simp)); simp [wt]; omega
  | [x, y], _, hg =>
    have p := h1 x (hg x (by simp))
    have q := h1 y (hg y (by simp))
    simp [wt]; omega
theorem led_ends {f : Int → Bool} {bs : List Blk} (hL : LB bs) (h5 : bs.length = 5) : ∀ (μ : Nat) (F : Fnd) (left : List (Int × KV)), LedInv f bs F left → wt left ≤ μ → ∃ F', ledK f bs (μ + 1) F left = some F' ∧ LedInv f bs F' []
  | μ, F, left, I, hμ => by
    unfold ledK
    rcases e : left.getLast? with _ | q
    · have : left = [] := List.getLast?_eq_none_iff.mp e
      subst this
      exact ⟨F, rfl, I⟩
    · obtain ⟨b, K⟩ := q
      have hnm : (b, K) ∈ left := List.mem_of_getLast? e
      have hR : Rch f bs b K := I.rl _ hnm
      have hb := (hR.inb hL).1
      obtain ⟨k, hk⟩ := blk_some h5 hb
      obtain ⟨h1, h2⟩ := hL.blks b k hk
      obtain ⟨t1, t2⟩ := h2.outs hb.1
      have hsp := last_split e
      dsimp only
      rw [hk]
      dsimp only
      have hw : wt (left.dropLast ++ (outsT k.2).map fun g => (g, trB f k K)) < wt left := by
        rw [wt_app]
        have h3 : wt left = wt left.dropLast + 3 ^ (5 - b).toNat := by
          conv => lhs; rw [hsp]
          rw [wt_app]; simp [wt]
        have := wt_outs hb (T := trB f k K) t1 t2
        omega
      have I2 : LedInv f bs (addF F b K) (left.dropLast ++ (outsT k.2).map fun g => (g, trB f k K)) := by
        refine ⟨I.n.put, fun b' Ks h => ?_, fun x hx => ?_, fun b' K' h => ?_, fun b' K' k' h hk' g hg => ?_, ?_⟩
        · unfold addF at h
          rw [at_put] at h
          split at h
          · cases h; simp
          · exact I.ne b' Ks h
        · rcases List.mem_append.mp hx with hx | hx
          · exact I.rl x (by rw [hsp]; exact List.mem_append_left _ hx)
          · obtain ⟨g, hg, rfl⟩ := List.mem_map.mp hx
            exact hR.step hk hg
        · rcases inF_add.mp h with h | ⟨rfl, rfl⟩
          · exact I.rf b' K' h
          · exact hR
        · rcases inF_add.mp h with h | ⟨rfl, rfl⟩
          · rcases I.cl b' K' k' h hk' g hg with h | h
            · rw [hsp] at h
              rcases List.mem_append.mp h with h | h
              · exact .inl (List.mem_append_left _ h)
              · simp at h
                exact .inr (inF_add.mpr (.inr ⟨h.1, h.2⟩))
            · exact .inr (inF_add.mpr (.inl h))
          · rw [hk] at hk'; cases hk'
            exact .inl (List.mem_append_right _ (List.mem_map.mpr ⟨g, hg, rfl⟩))
        · rcases I.st with h | h
          · rw [hsp] at h
            rcases List.mem_append.mp h with h | h
            · exact .inl (List.mem_append_left _ h)
            · simp at h
              exact .inr (inF_add.mpr (.inr ⟨h.1, h.2.symm⟩))
          · exact .inr (inF_add.mpr (.inl h))
      match μ, hμ with
      | 0, hμ => omega
      | μ + 1, hμ => exact led_ends hL h5 μ _ _ I2 (by omega)
theorem led_plain {f : Int → Bool} {bs : List Blk} (hL : LB bs) (h5 : bs.length = 5) : ∃ F, ledK f bs 244 [] [(0, [])] = some F ∧ Kn F ∧ (∀ b Ks, atK F b = some Ks → Ks ≠ []) ∧ ∀ b K, InF F b K ↔ Rch f bs b K := by
  have no : ∀ b K, ¬ InF [] b K := fun b K ⟨Ks, h, _⟩ => by simp [atK] at h
  have I0 : LedInv f bs [] [(0, [])] := ⟨by simp [Kn], fun b Ks h => by simp [atK] at h, fun e he => by simp at he; subst he; exact .start, fun b K h => (no b K h).elim, fun b K k h => (no b K h).elim, .inl (by simp)⟩
  obtain ⟨F, h1, I⟩ := led_ends (f := f) hL h5 243 _ _ I0 (by simp [wt])
  refine ⟨F, h1, I.n, I.ne, fun b K => ⟨I.rf b K, fun h => ?_⟩⟩
  induction h with
  | start =>
    rcases I.st with h | h
    · cases h
    · exact h
  | step h hk hg ih =>
    rcases I.cl _ _ _ ih hk _ hg with h | h
    · cases h
    · exact h
theorem due_at (b : Int) : ∀ F : Fnd, atK (dueK F) b = (atK F b).map fun Ks => .fdict (dueV Ks)
  | [] => rfl
  | (j, Ks) :: r => by
    show (if b = j then _ else atK (dueK r) b) = _
    rw [atK]
    split
    · rfl
    · exact due_at b r
theorem dueV_at {Ks : List KV} (hne : Ks ≠ []) (g : ∀ K ∈ Ks, G4 K) {l : Int} {v : CV} : atK (dueV Ks) l = some v ↔ ∀ K ∈ Ks, atK K l = some v := by
  rcases Ks with _ | ⟨K0, Kr⟩
  · exact absurd rfl hne
  · have g0 := g K0 (.head _)
    show atK (K0.filter fun p => (K0 :: Kr).all fun K => keepP K p) l = some v ↔ _
    rw [at_filter g0.n]
    rcases e : atK K0 l with _ | u
    · simp [e]
    · obtain ⟨_, i, rfl⟩ := g0.at e
      dsimp only
      have hall : ((K0 :: Kr).all fun K => keepP K (l, .int i)) = true ↔ ∀ K ∈ K0 :: Kr, atK K l = some (.int i) := by
        rw [List.all_eq_true]
        exact ⟨fun h K hK => (keep_iff (g K hK)).mp (h K hK), fun h K hK => (keep_iff (g K hK)).mpr (h K hK)⟩
      by_cases q : ((K0 :: Kr).all fun K => keepP K (l, .int i)) = true
      · rw [if_pos q]
        constructor
        · intro h; cases h; exact hall.mp q
        · intro h
          have := h K0 (.head _)
          rw [e] at this
          exact this
      · rw [if_neg q]
        constructor
        · intro h; cases h
        · intro h
          have := h K0 (.head _)
          rw [e] at this; cases this
          exact absurd (hall.mpr h) q
theorem eq_maps {K D : KV} (g : G4 K) (d : G4 D) (h : ∀ l v, atK K l = some v ↔ atK D l = some v) : eq2 (.fdict K) (.fdict D) = some true := by
  show dictEq eqP K D = some true
  unfold dictEq
  have h1 : K.length ≤ D.length := g.n.len_le fun k hk => by
    obtain ⟨v, hv⟩ := Option.isSome_iff_exists.mp hk
    rw [(h k v).mp hv]; rfl
  have h2 : D.length ≤ K.length := d.n.len_le fun k hk => by
    obtain ⟨v, hv⟩ := Option.isSome_iff_exists.mp hk
    rw [(h k v).mpr hv]; rfl
  rw [if_pos (by omega)]
  refine hits_of fun p hp => ?_
  have e := mem_atK g.n hp
  have hs := g.good.s p hp
  exact ⟨p.2, (h _ _).mp e, by rw [eqP_sc hs hs, eqS_refl]⟩
theorem plain_eq {f : Int → Bool} {bs : List Blk} (hL : LB bs) (h5 : bs.length = 5) {beg : KV} {F : Fnd} (ok : BegOk beg) (b1 : ∀ b R, Rch f bs b R → (atK beg b).isSome = true) (b2 : ∀ b K, atK beg b = some (.fdict K) → (∃ R, Rch f bs b R) ∧ ∀ l v, atK K l = some v ↔ Alike f bs b l v)
    (n : Kn F) (ne : ∀ b Ks, atK F b = some Ks → Ks ≠ []) (hF : ∀ b K, InF F b K ↔ Rch f bs b K) : dictEq eq2 beg (dueK F) = some true := by
  have nd : Kn (dueK F) := by
    unfold Kn at n ⊢
    have e : (dueK F).map (·.1) = F.map (·.1) := by unfold dueK; rw [List.map_map]; rfl
    rw [e]; exact n
  have hsome : ∀ b, (atK beg b).isSome = true ↔ (atK (dueK F) b).isSome = true := fun b => by
    rw [due_at]
    constructor
    · intro h
      obtain ⟨x, hx⟩ := Option.isSome_iff_exists.mp h
      obtain ⟨_, K, rfl, _⟩ := ok.v b x hx
      obtain ⟨R, hR⟩ := (b2 b K hx).1
      obtain ⟨Ks, hk, _⟩ := (hF b R).mpr hR
      rw [hk]; rfl
    · intro h
      rcases e : atK F b with _ | Ks
      · rw [e] at h; cases h
      · rcases Ks with _ | ⟨K, Kr⟩
        · exact absurd rfl (ne b _ e)
        · exact b1 b K ((hF b K).mp ⟨_, e, .head _⟩)
  unfold dictEq
  have h1 : beg.length ≤ (dueK F).length := ok.n.len_le fun k hk => (hsome k).mp hk
  have h2 : (dueK F).length ≤ beg.length := nd.len_le fun k hk => (hsome k).mpr hk
  rw [if_pos (by omega)]
  refine hits_of fun p hp => ?_
  have e := mem_atK ok.n hp
  obtain ⟨_, K, hK, gK⟩ := ok.v _ _ e
  have hs : (atK (dueK F) p.1).isSome = true := (hsome p.1).mp (by rw [e]; rfl)
  rw [due_at] at hs ⊢
  rcases eF : atK F p.1 with _ | Ks
  · rw [eF] at hs; cases hs
  · refine ⟨_, rfl, ?_⟩
    have hne := ne _ _ eF
    have hg : ∀ K ∈ Ks, G4 K := fun K hK => (((hF p.1 K).mp ⟨Ks, eF, hK⟩).inb hL).2
    have gD : G4 (dueV Ks) := by
      rcases Ks with _ | ⟨K0, Kr⟩
      · exact absurd rfl hne
      · exact (hg K0 (.head _)).sub List.filter_sublist
    rw [hK]
    refine eq_maps gK gD fun l v => ?_
    rw [dueV_at hne hg, ((b2 p.1 K (by rw [e, hK])).2 l v)]
    constructor
    · intro h R hR
      exact h R ((hF p.1 R).mp ⟨Ks, eF, hR⟩)
    · intro h R hR
      obtain ⟨Ks', e', hm⟩ := (hF p.1 R).mpr hR
      rw [eF] at e'; cases e'
      exact h R hm
end Lend
namespace Lend
theorem lentS_at (l : Int) : ∀ (ss : List Stm) (acc : KV), (atK (ss.foldl lentS acc) l).isSome = true ↔ (atK acc l).isSome = true ∨ l ∈ lentI ss
  | [], acc => by simp [lentI]
  | s :: ss, acc => by
    rw [List.foldl_cons, lentS_at l ss]
    cases s with
    | lend w o =>
      have e : lentI (.lend w o :: ss) = o :: lentI ss := rfl
      rw [e]
      show (atK (putK acc o (.bool true)) l).isSome = true ∨ _ ↔ _
      rw [at_put]
      by_cases q : l = o
      · subst q; simp
      · rw [if_neg q]; simp [q]
    | set l s => have e : lentI (.set l s :: ss) = lentI ss := by simp [lentI, isLend]
                 rw [e]; exact Iff.rfl
    | mark w l => have e : lentI (.mark w l :: ss) = lentI ss := by simp [lentI, isLend]
                  rw [e]; exact Iff.rfl
    | print l => have e : lentI (.print l :: ss) = lentI ss := by simp [lentI, isLend]
                 rw [e]; exact Iff.rfl
theorem lentB_at (l : Int) : ∀ (bs : List Blk) (acc : KV), (atK (bs.foldl lentB acc) l).isSome = true ↔ (atK acc l).isSome = true ∨ l ∈ lentL bs
  | [], acc => by simp [lentL]
  | b :: bs, acc => by
    rw [List.foldl_cons, lentB_at l bs]
    have e : lentL (b :: bs) = lentI b.1 ++ lentL bs := by simp [lentL]
    rw [e, List.mem_append]
    show (atK (b.1.foldl lentS acc) l).isSome = true ∨ _ ↔ _
    rw [lentS_at l b.1 acc, or_assoc]
theorem lentK_at (bs : List Blk) (l : Int) : (atK (lentK bs) l).isSome = true ↔ l ∈ lentL bs := by
  have := lentB_at l bs []
  unfold lentK
  simpa [atK] using this
theorem lentK_kn (bs : List Blk) : Kn (lentK bs) := by
  have hs : ∀ (ss : List Stm) (acc : KV), Kn acc → Kn (ss.foldl lentS acc) := by
    intro ss
    induction ss with
    | nil => intro acc n; exact n
    | cons s ss ih =>
      intro acc n
      refine ih _ ?_
      cases s with
      | lend w o => exact n.put
      | _ => exact n
  have hb : ∀ (bs : List Blk) (acc : KV), Kn acc → Kn (bs.foldl lentB acc) := by
    intro bs
    induction bs with
    | nil => intro acc n; exact n
    | cons b bs ih => intro acc n; exact ih _ (hs b.1 acc n)
  exact hb bs [] Kn.nil
theorem lent_in4 {bs : List Blk} (hL : LB bs) {l : Int} (h : l ∈ lentL bs) : In4 l := by
  unfold lentL at h
  obtain ⟨b, hb, hl⟩ := List.mem_flatMap.mp h
  obtain ⟨i, hi⟩ := List.getElem?_of_mem hb
  have h1 := (hL i b hi).1
  unfold lentI at hl
  obtain ⟨s, hs, rfl⟩ := List.mem_map.mp hl
  obtain ⟨hs1, hs2⟩ := List.mem_filter.mp hs
  have := h1 s hs1
  cases s with
  | lend w o => exact this.2
  | _ => cases hs2
theorem folL_at (lent : KV) (l : Int) : ∀ (ts : List Ty) (a : Int) (acc : KV), (atK (folL lent a ts acc) l).isSome = true ↔ (atK acc l).isSome = true ∨ ∃ (j : Nat) (t : Ty), ts[j]? = some t ∧ a + j = l ∧ tyF t = true ∧ (atK lent l).isSome = false
  | [], a, acc => by simp [folL]
  | t :: ts, a, acc => by
    rw [folL, folL_at lent l ts (a + 1)]
    by_cases q : l = a
    · subst q
      by_cases c : (tyF t && !(atK lent l).isSome) = true
      · rw [if_pos c, at_put_self]
        simp only [Bool.and_eq_true, Bool.not_eq_true'] at c
        constructor
        · intro _; exact .inr ⟨0, t, rfl, by simp, c.1, c.2⟩
        · intro _; exact .inl rfl
      · rw [if_neg c]
        constructor
        · rintro (h | ⟨j, t', h1, h2, h3, h4⟩)
          · exact .inl h
          · omega
        · rintro (h | ⟨j, t', h1, h2, h3, h4⟩)
          · exact .inl h
          · cases j with
            | zero =>
              simp at h1; subst h1
              rw [h3, h4] at c; exact absurd rfl c
            | succ j => omega
    · have e1 : ∀ v : CV, atK (if (tyF t && !(atK lent a).isSome) = true then putK acc a v else acc) l = atK acc l := fun v => by
        split
        · exact at_put_ne q
        · rfl
      rw [e1]
      constructor
      · rintro (h | ⟨j, t', h1, h2, h3, h4⟩)
        · exact .inl h
        · exact .inr ⟨j + 1, t', by simpa using h1, by omega, h3, h4⟩
      · rintro (h | ⟨j, t', h1, h2, h3, h4⟩)
        · exact .inl h
        · cases j with
          | zero => simp at h2; exact absurd h2.symm q
          | succ j => exact .inr ⟨j, t', by simpa using h1, by omega, h3, h4⟩
theorem fol_eq {bs : List Blk} {l : Int} (h : In4 l) : folF (folK (lentK bs)) l = flL (lentL bs) l := by
  have h1 := folL_at (lentK bs) l lawTys 0 []
  have h2 : (atK (folK (lentK bs)) l).isSome = true ↔ l ∉ lentL bs := by
    show (atK (folL (lentK bs) 0 lawTys []) l).isSome = true ↔ _
    rw [h1]
    have hn : (atK (lentK bs) l).isSome = false ↔ l ∉ lentL bs := by
      rw [← lentK_at bs l]
      cases (atK (lentK bs) l).isSome <;> simp
    constructor
    · rintro (h | ⟨j, t, _, _, _, h4⟩)
      · simp [atK] at h
      · exact hn.mp h4
    · intro hl
      refine .inr ⟨l.toNat, .u8, ?_, by have := h.1; omega, rfl, hn.mpr hl⟩
      have hc : l = 0 ∨ l = 1 ∨ l = 2 ∨ l = 3 := by have := h.1; have := h.2; omega
      rcases hc with rfl | rfl | rfl | rfl <;> rfl
  unfold folF flL
  have h4 : l < 4 := h.2
  rw [decide_eq_true h4, Bool.and_true]
  by_cases q : l ∈ lentL bs
  · have : ¬ (atK (folK (lentK bs)) l).isSome = true := fun e => h2.mp e q
    rw [decide_eq_false (fun e => e q)]
    simpa using this
  · rw [h2.mpr q, decide_eq_true q]
theorem stm_congr {f g : Int → Bool} (h : ∀ l, In4 l → f l = g l) (K : KV) {s : Stm} (hs : LStm s) : stmK f K s = stmK g K s := by
  cases s with
  | set l s =>
    show (match evS K s with | some v => if f l = true then putK (delK K l) l v else delK K l | none => delK K l) = (match evS K s with | some v => if g l = true then putK (delK K l) l v else delK K l | none => delK K l)
    rw [h l hs.1]
  | _ => rfl
theorem stms_congr {f g : Int → Bool} (h : ∀ l, In4 l → f l = g l) : ∀ (ss : List Stm) (K : KV), (∀ s ∈ ss, LStm s) → ss.foldl (stmK f) K = ss.foldl (stmK g) K
  | [], _, _ => rfl
  | s :: ss, K, hs => by
    rw [List.foldl_cons, List.foldl_cons, stm_congr h K (hs s (.head _)), stms_congr h ss _ fun t ht => hs t (.tail _ ht)]
theorem rch_congr {f g : Int → Bool} (h : ∀ l, In4 l → f l = g l) {bs : List Blk} (hL : LB bs) {b : Int} {K : KV} (hR : Rch f bs b K) : Rch g bs b K := by
  induction hR with
  | start => exact .start
  | step hR hk hg ih =>
    unfold trB
    rw [stms_congr h _ _ (hL.blks _ _ hk).1]
    exact ih.step hk hg
theorem sorted_eq : ∀ {a b : List Int}, a.Pairwise (· < ·) → b.Pairwise (· < ·) → (∀ x, x ∈ a ↔ x ∈ b) → a = b
  | [], [], _, _, _ => rfl
  | [], y :: b, _, _, h => absurd ((h y).mpr (.head _)) (by simp)
  | x :: a, [], _, _, h => absurd ((h x).mp (.head _)) (by simp)
  | x :: a, y :: b, ha, hb, h => by
    rw [List.pairwise_cons] at ha hb
    have hxy : x = y := by
      rcases List.mem_cons.mp ((h x).mp (.head _)) with e | e
      · exact e
      · rcases List.mem_cons.mp ((h y).mpr (.head _)) with e2 | e2
        · exact e2.symm
        · have := hb.1 x e; have := ha.1 y e2; omega
    subst hxy
    have ht : ∀ z, z ∈ a ↔ z ∈ b := fun z => by
      constructor
      · intro hz
        rcases List.mem_cons.mp ((h z).mp (.tail _ hz)) with e | e
        · have := ha.1 z hz; omega
        · exact e
      · intro hz
        rcases List.mem_cons.mp ((h z).mpr (.tail _ hz)) with e | e
        · have := hb.1 z hz; omega
        · exact e
    rw [sorted_eq ha.2 hb.2 ht]
theorem strict_of : ∀ {a : List Int}, a.Pairwise (· ≤ ·) → a.Nodup → a.Pairwise (· < ·)
  | [], _, _ => .nil
  | x :: a, h, n => by
    rw [List.pairwise_cons] at h
    rw [List.nodup_cons] at n
    refine .cons (fun y hy => ?_) (strict_of h.2 n.2)
    have := h.1 y hy
    have hne : x ≠ y := by rintro rfl; exact n.1 hy
    omega
theorem sort_eq {bs : List Blk} (hL : LB bs) : sortI ((lentK bs).map (·.1)) = ((List.range 8).map Int.ofNat).filter fun l => decide (l ∈ lentL bs) := by
  refine sorted_eq (strict_of (sortI_sorted _) ((sortI_perm _).nodup_iff.mpr (lentK_kn bs))) (List.Pairwise.filter _ (by decide)) fun x => ?_
  rw [(sortI_perm _).mem_iff, List.mem_filter, decide_eq_true_iff]
  have hm : x ∈ (lentK bs).map (·.1) ↔ x ∈ lentL bs := by
    rw [← lentK_at bs x]
    by_cases q : x ∈ (lentK bs).map (·.1)
    · have : atK (lentK bs) x ≠ none := fun e => atK_none_iff.mp e q
      cases e : atK (lentK bs) x with
      | none => exact absurd e this
      | some v => simp [q]
    · have e : atK (lentK bs) x = none := atK_none_iff.mpr q
      rw [e]; simp [q]
  rw [hm]
  constructor
  · intro h
    have h4 := lent_in4 hL h
    refine ⟨List.mem_map.mpr ⟨x.toNat, List.mem_range.mpr (by have := h4.2; omega), ?_⟩, h⟩
    show ((x.toNat : Nat) : Int) = x
    have := h4.1
    omega
  · exact fun h => h.2
theorem plain_law (bs : List Blk) (hL : LB bs) (h5 : bs.length = 5) : PL bs := by
  obtain ⟨beg, h1, ok, b1, b2⟩ := follow_plain (f := folF (folK (lentK bs))) hL h5
  obtain ⟨F, h2, n, ne, hF⟩ := led_plain (f := flL (lentL bs)) hL h5
  have he : ∀ l, In4 l → folF (folK (lentK bs)) l = flL (lentL bs) l := fun l h => fol_eq h
  refine ⟨102, beg, 244, F, by decide, by decide, h1, h2, plain_eq hL h5 ok b1 b2 n ne fun b K => ?_, sort_eq hL⟩
  rw [hF b K]
  exact ⟨rch_congr (fun l h => (he l h).symm) hL, rch_congr he hL⟩
end Lend
namespace Lend
theorem KOk.nil : KOk [] := ⟨⟨none, rfl, fun _ h => by cases h⟩, ⟨none, rfl, fun _ h => by cases h⟩, ⟨none, rfl⟩, .inl rfl, by simp⟩
theorem put_100 {K : KV} {k : Int} {v : CV} (hl : K.length ≤ 50) : (putK K k v).length ≤ 100 := Nat.le_trans put_len (Nat.le_trans (Nat.succ_le_succ hl) (by decide))
theorem KOk.put0 {K : KV} (h : KOk K) {a : Int} (ha : 0 ≤ a) (hl : K.length ≤ 50) : KOk (putK K 0 (.int a)) :=
  ⟨⟨some a, by rw [at_put_self]; rfl, fun x e => by cases e; exact ha⟩, by rw [at_put_ne (by decide)]; exact h.k1, by rw [at_put_ne (by decide)]; exact h.k4, by rw [at_put_ne (by decide)]; exact h.k5, put_100 hl⟩
theorem KOk.put1 {K : KV} (h : KOk K) {a : Int} (ha : 0 ≤ a) (hl : K.length ≤ 50) : KOk (putK K 1 (.int a)) :=
  ⟨by rw [at_put_ne (by decide)]; exact h.k0, ⟨some a, by rw [at_put_self]; rfl, fun x e => by cases e; exact ha⟩, by rw [at_put_ne (by decide)]; exact h.k4, by rw [at_put_ne (by decide)]; exact h.k5, put_100 hl⟩
theorem KOk.put4 {K : KV} (h : KOk K) {b : Bool} (hl : K.length ≤ 50) : KOk (putK K 4 (.bool b)) :=
  ⟨by rw [at_put_ne (by decide)]; exact h.k0, by rw [at_put_ne (by decide)]; exact h.k1, ⟨some b, by rw [at_put_self]; rfl⟩, by rw [at_put_ne (by decide)]; exact h.k5, put_100 hl⟩
theorem KOk.put5 {K : KV} (h : KOk K) {a : Int} {b : Bool} (ha : 0 ≤ a) (hl : K.length ≤ 50) : KOk (putK K 5 (.tup [.int a, .bool b])) :=
  ⟨by rw [at_put_ne (by decide)]; exact h.k0, by rw [at_put_ne (by decide)]; exact h.k1, by rw [at_put_ne (by decide)]; exact h.k4, .inr ⟨a, .bool b, ha, at_put_self⟩, put_100 hl⟩
noncomputable def takeE (i : Nat) (n : Int) : RE := .call false (.glob (Str.ofString "_law_take")) [(.loc i), (.const (.int n))]
noncomputable def rowC : RE := .call false (.glob (Str.ofString "dict")) [(.lcomp 2 (.tup [(.loc 1), takeE 5 2]) (.call false (.glob (Str.ofString "range")) [(.const (.int 3))]) (.name 1) [] [])]
noncomputable def rowsC : RE := .lcomp 2 rowC (.call false (.glob (Str.ofString "range")) [takeE 1 5]) (.name 1) [] []
noncomputable def knownBody : List RS := [(.ite (.cmp .Gt (takeE 1 3) (.const (.int 0))) [(.asg (.sub (.loc 2) (.loc 3)) (.loc 4))] [])]
noncomputable def rLaw : List RS := [(.ite (.or [(.not (.call false (.glob (Str.ofString "_law_told_right")) [])), (.not (.call false (.glob (Str.ofString "_law_meets_right")) [(.list false [(.dict false [0, 1] [(.const (.int 1)), (.const (.int 2))]), (.dict false [0, 1, 2] [(.const (.int 1)), (.const (.int 3)), (.const (.int 4))]), (.dict false [0] [(.const (.int 1))]), (.dict false [] [])])]))]) [(.ret (some (.const (.bool false))))] []),
    (.asg (.tup [1, 2]) (.tup [(.call false (.glob (Str.ofString "_law_pool")) [(.loc 0)]), (.dict true [] [])])),
    (.for (.tup [3, 4]) (.list false [(.tup [(.const (.int 0)), takeE 1 256]), (.tup [(.const (.int 1)), takeE 1 256]), (.tup [(.const (.int 4)), (.cmp .Eq (takeE 1 2) (.const (.int 0)))])]) knownBody),
    (.ite (.cmp .Eq (takeE 1 2) (.const (.int 0))) [(.asg (.sub (.loc 2) (.const (.int 5))) (.tup [takeE 1 256, (.const (.bool true))]))] []),
    (.freeze 2),
    (.asg (.name 5) (.dict false [0, 2] [(.tup [takeE 1 9, (.tup [(.const (.bool true)), takeE 1 9])]), takeE 1 9])),
    (.asg (.name 6) rowsC),
    (.ite (.or [(.not (.call false (.glob (Str.ofString "_law_facts_right")) [(.loc 5)])), (.not (.call false (.glob (Str.ofString "_law_values_right")) [(.loc 1), (.loc 2)])), (.not (.call false (.glob (Str.ofString "_law_meets_right")) [(.loc 6)]))]) [(.ret (some (.const (.bool false))))] []),
    (.ret (some (.call false (.glob (Str.ofString "_law_follow_right")) [(.loc 1)])))]
section
variable {B : Bs} {S S0 : Store} {Q : CV → Store → Prop} {gd : Addr → Str → Option CV} {c b fo bg a ka fd lf src h kc : Addr} {bs : List Blk} {fol beg K here : KV} {F : FA} {left : List (Int × KV)}
theorem gl_told : glF (Str.ofString "_law_told_right") = some (.raw (.ref 474)) := by kernel_rfl
theorem gl_meets : glF (Str.ofString "_law_meets_right") = some (.raw (.ref 447)) := by kernel_rfl
theorem gl_pool : glF (Str.ofString "_law_pool") = some (.raw (.ref 392)) := by kernel_rfl
theorem gl_facts : glF (Str.ofString "_law_facts_right") = some (.raw (.ref 437)) := by kernel_rfl
theorem gl_values : glF (Str.ofString "_law_values_right") = some (.raw (.ref 442)) := by kernel_rfl
theorem gl_follow : glF (Str.ofString "_law_follow_right") = some (.raw (.ref 469)) := by kernel_rfl
theorem takeE_ok (E : Env0 B) {m : Nat} (hm : 3 ≤ m) {ρ : Rho} {i : Nat} {n : Int} (ri : nth ρ i = some (.loc src)) (hS : SrcAt S src) (h0 : 0 < n) (h1 : n ≤ 1000) (h : ∀ r S', 0 ≤ r → r < n → SrcAt S' src → KeepBut src S S' → Q (.int r) S') : wpE (Gm B m) (takeE i n) ρ S Q :=
  wp_call (ev_gl gl_take) (evs2 (ev_loc ri) ev_const) (take_keep E hm hS h0 h1 h)
theorem rowC_ok (E : Env0 B) {m : Nat} (hm : 3 ≤ m) {ρ : Rho} (r3 : nth ρ 3 = some (.loc src)) (hS : SrcAt S src) (h : ∀ S' x y z, SrcAt S' src → KeepBut src S S' → Q (.fdict [(0, .int x), (1, .int y), (2, .int z)]) S') : wpE (Gm B m) rowC ρ S Q := by
  have one : ∀ {p V : Option CV} {y : CV} {ys acc : List CV} {S : Store} {gg : Store → Prop} {R : Rho → Store → List CV → Prop}, (∀ S, gg S) → SrcAt S src → Nat.ble acc.length small = true → (∀ (x : Int) S', SrcAt S' src → KeepBut src S S' → compW gg (compB1 (Gm B m) (.name 1) (.tup [(.loc 1), takeE 5 2]) []) ys (V :: some y :: ρ) S' (acc ++ [.tup [y, .int x]]) R) →
      compW gg (compB1 (Gm B m) (.name 1) (.tup [(.loc 1), takeE 5 2]) []) (y :: ys) (V :: p :: ρ) S acc R := fun hg hS hl h =>
    w_con (t_name rfl) ts_nil (w_tup (w_cons (w_ev (ev_loc rfl) (w_cons (takeE_ok E hm r3 hS (by decide) (by decide) fun x S1 _ _ hS1 k1 => w_nil ⟨Nat.le_of_ble_eq_true rfl, Nat.le_of_ble_eq_true hl, hg _, h x S1 hS1 k1⟩)))))
  have hg : ∀ S S', stays S (.rng 0 3) S' := fun _ _ => trivial
  refine w_type1 gl_dict (w_lcomp (ev_type gl_range (evs1 ev_const) (v := .rng 0 3) fun _ k => tc_range rfl k) (range_n (n := 3) (by decide) (by decide)) (one (hg _) hS rfl fun x S1 hS1 k1 => one (hg _) hS1 rfl fun y S2 hS2 k2 => one (hg _) hS2 rfl fun z S3 hS3 k3 => ⟨rfl, tc_dictL rfl rfl (Nat.le_of_ble_eq_true rfl) (h S3 x y z hS3 ((k1.trans k2).trans k3))⟩))
noncomputable def isRow (K : KV) : Prop := ∃ x y z : Int, K = [(0, .int x), (1, .int y), (2, .int z)]
theorem isRow.good {K : KV} (h : isRow K) : Good K := by
  obtain ⟨x, y, z, rfl⟩ := h
  exact ⟨by simp [nth, Kn], by simp, by simp [nth, isSc]⟩
theorem rows_draw (E : Env0 B) {m : Nat} (hm : 3 ≤ m) {ρ : Rho} (r1 : nth ρ 1 = some (.loc src)) {R : List CV → Store → Prop} {gg : Store → Prop} (hg : ∀ S, gg S) (n : Nat) (j : Int) (S : Store) (rs : List KV) (V p : Option CV) (hS : SrcAt S src) (hs : ∀ r ∈ rs, isRow r) (hl : rs.length + n ≤ 100)
    (h : ∀ (S' : Store) (rs' : List KV), SrcAt S' src → KeepBut src S S' → (∀ r ∈ rs', isRow r) → R (rs'.map .fdict) S') :
    compW gg (compB1 (Gm B m) (.name 1) rowC []) (rangeL j n) (V :: p :: ρ) S (rs.map .fdict) fun ρ' S' acc => ρ'.drop 2 = ρ ∧ R acc S' := by
  induction n generalizing j S rs p with
  | zero => exact ⟨rfl, h S rs hS (KeepBut.refl _ _) hs⟩
  | succ n ih =>
    refine w_con (t_name rfl) ts_nil (rowC_ok E hm r1 hS fun S1 x y z hS1 k1 => ⟨by rw [List.length_map]; exact Nat.le_trans (Nat.le_trans (Nat.le_add_right _ _) hl) (by decide), hg _, ?_⟩)
    have := ih (j + 1) S1 (rs ++ [[(0, CV.int x), (1, CV.int y), (2, CV.int z)]]) (some (.int j)) hS1 (fun t ht => ?_) (by rw [List.length_append, Nat.add_right_comm]; exact hl) fun S' rs' a1 a2 a3 => h S' rs' a1 (k1.trans a2) a3
    · rw [List.map_append] at this
      exact this
    · rcases List.mem_append.mp ht with ht | ht
      · exact hs t ht
      · exact ⟨x, y, z, List.mem_singleton.mp ht⟩
theorem rowsC_ok (E : Env0 B) {m : Nat} (hm : 3 ≤ m) {ρ : Rho} (r1 : nth ρ 1 = some (.loc src)) (hS : SrcAt S src) (h : ∀ (S' : Store) (rs : List KV), SrcAt S' src → KeepBut src S S' → (∀ r ∈ rs, isRow r) → Q (.flist (rs.map .fdict)) S') : wpE (Gm B m) rowsC ρ S Q := by
  refine w_lcompw (w_type1 gl_range (takeE_ok E hm r1 hS (by decide) (by decide) fun r S1 h0 h1 hS1 k1 => ?_))
  have h4 : r.toNat ≤ 5 := by omega
  refine tc_rng (by omega) (by omega) ?_
  rw [range_n h0 (by omega)]
  exact rows_draw E hm r1 (R := fun acc S' => Q (.flist acc) S') (by exact fun _ => trivial) r.toNat 0 S1 [] none none hS1 (fun _ h => by cases h) (by rw [List.length_nil, Nat.zero_add]; exact Nat.le_trans h4 (by decide)) fun S' rs a1 a2 a3 => h S' rs a1 (k1.trans a2) a3
noncomputable def PairOk (p : Int × CV) : Prop := ((p.1 = 0 ∨ p.1 = 1) ∧ ∃ a : Int, p.2 = .int a ∧ 0 ≤ a) ∨ (p.1 = 4 ∧ ∃ b, p.2 = .bool b)
theorem KOk.putP {K : KV} (h : KOk K) {p : Int × CV} (hp : PairOk p) (hl : K.length ≤ 50) : KOk (putK K p.1 p.2) := by
  obtain ⟨l, v⟩ := p
  rcases hp with ⟨e, a, rfl, ha⟩ | ⟨e, b, rfl⟩
  · rcases e with e | e
    · dsimp only at e; subst e; exact h.put0 ha hl
    · dsimp only at e; subst e; exact h.put1 ha hl
  · dsimp only at e; subst e; exact h.put4 hl
theorem known_loop (E : Env0 B) {m : Nat} (hm : 3 ≤ m) (hne : kc ≠ src) {X : CV} {Kt : Fl → Rho → Store → Prop} {gg : Store → Prop} (hg : ∀ S, gg S) (items : List (Int × CV)) (S : Store) (K : KV) (p3 p4 : Option CV) (hS : SrcAt S src) (hk : lk S kc = some (.dict K)) (hK : KOk K) (hi : ∀ p ∈ items, PairOk p) (hl : K.length + items.length ≤ 40)
    (h : ∀ S' K' p3 p4, SrcAt S' src → lk S' kc = some (.dict K') → KOk K' → K'.length ≤ 40 → Kt .next [some X, some (.loc src), some (.loc kc), p3, p4, none, none] S') :
    forT (Gm B m) gg (.tup [3, 4]) knownBody (items.map fun p => .tup [.int p.1, p.2]) [some X, some (.loc src), some (.loc kc), p3, p4, none, none] S Kt := by
  induction items generalizing S K p3 p4 with
  | nil => exact forT_nil (h S K _ _ hS hk hK hl)
  | cons p items ih =>
    have hlK : K.length ≤ 40 := Nat.le_trans (Nat.le_add_right _ _) hl
    have ih := fun S K hS hk hK hl => ih S K (some (.int p.1)) (some p.2) hS hk hK (fun p hp => hi p (.tail _ hp)) hl
    clear h
    rw [List.length_cons, ← Nat.add_assoc, Nat.add_right_comm] at hl
    refine forT_cons (t_tup (xs := [.int p.1, p.2]) rfl rfl) (q_ifgt (takeE_ok E hm rfl hS (by decide) (by decide) fun r S1 h0 h1 hS1 k1 => ?_))
    have hk1 : lk S1 kc = some (.dict K) := by rw [k1 kc hne]; exact hk
    show (if decide (r > 0) = true then _ else _)
    cases decide (r > 0)
    · exact if_ff (q_done ⟨hg _, ih _ _ hS1 hk1 hK (Nat.le_trans (Nat.add_le_add_right (Nat.le_succ _) _) hl)⟩)
    · exact if_tt (q_setd (ev_loc rfl) (ev_loc rfl) (ev_loc rfl) hk1 (Nat.le_trans hlK (by decide)) (q_done (q_next (q_done ⟨hg _, ih _ _ (hS1.upO (fun e => hne e.symm)) (lk_up_self hk1) (hK.putP (hi _ (.head _)) (Nat.le_trans hlK (by decide))) (Nat.le_trans (Nat.add_le_add_right put_len _) hl)⟩))))
end
end Lend
namespace Lend
section
variable {B : Bs} {S S0 : Store} {Q : CV → Store → Prop} {gd : Addr → Str → Option CV} {c b fo bg a ka fd lf src h kc : Addr} {bs : List Blk} {fol beg K here : KV} {F : FA} {left : List (Int × KV)}
noncomputable def LawQ : Fl → Rho → Store → Prop := fun fl _ _ => match fl with | .ret v => v = .bool true | .next => False
theorem law_end_ok (E : Env0 B) {m : Nat} (hm : 12 ≤ m) (hS : SrcAt S src) (hK : KOk K) {X p3 p4 : Option CV} {x y z : Int} {rs : List KV} (hr : ∀ r ∈ rs, isRow r) :
    wpSs (Gm B m) (rLaw.drop 7) [X, some (.loc src), some (.fdict K), p3, p4, some (.fdict (pairsK x y z)), some (.flist (rs.map .fdict))] S LawQ :=
  q_if_orw (w_bnot (wp_call (ev_gl gl_facts) (evs1 (ev_loc rfl)) (facts_ok E (lv0 hm rfl) fun S1 k1 => if_nt (w_bnot (wp_call (ev_gl gl_values) (evs2 (ev_loc rfl) (ev_loc rfl)) (values_ok E (lv0 hm rfl) (hS.keep k1) hK fun S2 hS2 => if_nt (w_bnot (wp_call (ev_gl gl_meets) (evs1 (ev_loc rfl)) (meets_ok E (lv0 hm rfl) (fun r h => (hr r h).good) fun S3 k3 => if_nt (wb_nil (if_ff
    (q_retw (wp_call (ev_gl gl_follow) (evs1 (ev_loc rfl)) (follow_right_ok E (lv0 hm rfl) plain_law (hS2.keep k3) fun S4 _ => rfl))))))))))))))
theorem law_mid2 (E : Env0 B) {m : Nat} (hm : 12 ≤ m) (hne : kc ≠ src) (hS : SrcAt S src) (hk : lk S kc = some (.dict K)) (hK : KOk K) {X p3 p4 : Option CV} :
    wpSs (Gm B m) (rLaw.drop 4) [X, some (.loc src), some (.loc kc), p3, p4, none, none] S LawQ := by
  refine q_freezeD rfl hk rfl (q_asgw rfl (w_dict (w_cons (w_tup (w_cons (takeE_ok E (lv0 hm rfl) rfl (hS.rm fun e => hne e.symm) (by decide) (by decide) fun x S1 _ _ hS1 _ => w_cons (w_tup (w_cons (w_ev ev_const (w_cons (takeE_ok E (lv0 hm rfl) rfl hS1 (by decide) (by decide) fun y S2 _ _ hS2 _ => w_nil ⟨Nat.le_of_ble_eq_true rfl, w_nil ⟨Nat.le_of_ble_eq_true rfl, w_cons (takeE_ok E (lv0 hm rfl) rfl hS2 (by decide) (by decide) fun z S3 _ _ hS3 _ => w_nil ?_)⟩⟩)))))))))))
  exact q_asgw rfl (rowsC_ok E (lv0 hm rfl) rfl hS3 fun S4 rs hS4 _ hr => law_end_ok E hm hS4 hK (x := x) (y := y) (z := z) hr)
theorem law_mid_ok (E : Env0 B) {m : Nat} (hm : 12 ≤ m) (hne : kc ≠ src) (hS : SrcAt S src) (hk : lk S kc = some (.dict K)) (hK : KOk K) (hl : K.length ≤ 40) {X p3 p4 : Option CV} :
    wpSs (Gm B m) (rLaw.drop 3) [X, some (.loc src), some (.loc kc), p3, p4, none, none] S LawQ := by
  refine q_ifgt (takeE_ok E (lv0 hm rfl) rfl hS (by decide) (by decide) fun r S1 _ _ hS1 k1 => ?_)
  have hk1 : lk S1 kc = some (.dict K) := by rw [k1 kc hne]; exact hk
  rw [cmp_ieq]
  show (if decide (r = 0) = true then _ else _)
  cases decide (r = 0)
  · exact if_ff (law_mid2 E hm hne hS1 hk1 hK)
  · refine if_tt (q_asgr (w_tup (w_cons (takeE_ok E (lv0 hm rfl) rfl hS1 (by decide) (by decide) fun a S2 a0 _ hS2 k2 => evs1 ev_const _ ⟨Nat.le_of_ble_eq_true rfl, ?_⟩))))
    have hk2 : lk S2 kc = some (.dict K) := by rw [k2 kc hne]; exact hk1
    exact a_setd (ev_loc rfl) ev_const hk2 (Nat.le_trans hl (by decide)) (q_done (q_next (law_mid2 E hm hne (hS2.upO (fun e => hne e.symm)) (lk_up_self hk2) (hK.put5 a0 (Nat.le_trans hl (by decide))))))
noncomputable def firstRows : List KV := [[(0, .int 1), (1, .int 2)], [(0, .int 1), (1, .int 3), (2, .int 4)], [(0, .int 1)], []]
theorem firstRows_ok : ∀ r ∈ firstRows, Good r := by
  intro r hr
  simp only [nth, firstRows, List.mem_cons, List.not_mem_nil, or_false] at hr
  rcases hr with rfl | rfl | rfl | rfl <;> exact ⟨by simp [nth, Kn], by simp, by simp [nth, isSc]⟩
theorem law_wp (E : Env0 B) {m : Nat} (hm : 13 ≤ m) {xs : List Int} (hx : xs.length ≤ 63) : wpSs (Gm B m) rLaw [some (.flist (xs.map .int)), none, none, none, none, none, none] S LawQ := by
  refine q_if_orw (w_bnot (wp_call (ev_gl gl_told) evs_nil (told_ok E (lv0 hm rfl) fun S1 _ => if_nt (w_bnot (wp_call (ev_gl gl_meets) (evs1 (ev_list (evs4 (ev_dict (evs2 ev_const ev_const)) (ev_dict (evs3 ev_const ev_const ev_const)) (ev_dict (evs1 ev_const)) (ev_dict evs_nil)) rfl)) (meets_ok (rows := firstRows) E (lv0 hm rfl) firstRows_ok fun S2 _ => if_nt (wb_nil (if_ff ?_))))))))
  refine q_tup2w (wp_call (ev_gl gl_pool) (evs1 (ev_loc rfl)) (pool_ok E (lv0 hm rfl) hx fun src s1 s2 p q q0 q1 => w_newd0 fun kc k1 k2 => swap_in rfl rfl ?_))
  have hS3 : SrcAt ((src, CO.list [.int p, .int q]) :: S2) src := ⟨p, q, lk_head, q0, q1⟩
  have hne : kc ≠ src := fun e => (hS3.ne k1) e.symm
  have hS4 := hS3.cons (o := .dict []) k1
  refine q_forTw (w_list (w_cons (w_tup (w_cons (w_ev ev_const (w_cons (takeE_ok E (lv0 hm rfl) rfl hS4 (by decide) (by decide) fun a S5 a0 _ hS5 k5 => w_nil ⟨Nat.le_of_ble_eq_true rfl, w_cons (w_tup (w_cons (w_ev ev_const (w_cons (takeE_ok E (lv0 hm rfl) rfl hS5 (by decide) (by decide) fun b S6 b0 _ hS6 k6 => w_nil ⟨Nat.le_of_ble_eq_true rfl,
    w_cons (w_tup (w_cons (w_ev ev_const (w_cons (w_cmpc (takeE_ok E (lv0 hm rfl) rfl hS6 (by decide) (by decide) fun d S7 d0 _ hS7 k7 => ?_))))))⟩)))))⟩)))))))
  rw [cmp_ieq]
  have hk7 : lk S7 kc = some (.dict []) := by rw [k7 kc hne, k6 kc hne, k5 kc hne]; exact lk_head
  refine w_nil ⟨Nat.le_of_ble_eq_true rfl, w_nil ⟨Nat.le_of_ble_eq_true rfl, ?_⟩⟩
  refine known_loop (B := B) (m := m) E (lv0 hm rfl) hne (by exact fun _ => trivial) [(0, .int a), (1, .int b), (4, .bool (decide (d = 0)))] S7 [] none none hS7 hk7 KOk.nil (fun p hp => ?_) (Nat.le_of_ble_eq_true rfl) fun S8 K8 p3 p4 hS8 hk8 hK8 hl8 => q_next (law_mid_ok E (lv0 hm rfl) hne hS8 hk8 hK8 hl8)
  simp only [nth, List.mem_cons, List.not_mem_nil, or_false] at hp
  rcases hp with rfl | rfl | rfl
  · exact .inl ⟨.inl rfl, a, rfl, a0⟩
  · exact .inl ⟨.inr rfl, b, rfl, b0⟩
  · exact .inr ⟨rfl, _, rfl⟩
end
end Lend
namespace Lend
noncomputable def lawN : List Str := ["script", "source", "known", "local", "value", "pairs", "rows"]
theorem hypB {B : Bs} (E : Env0 B) (m : Nat) : Hyp B (Gm B m) m := hypM E.run E.blt m
theorem law_call {B : Bs} (E : Env0 B) {fa : Addr} {o : Obj} {fd : FuncData} {body : List Stmt} (ho : B.h₀.get? fa = some o) (hd : o.data = .func fd) (hcd : B.h₀.CodeRec fd.code fd.qualname) (hbody : fd.body = .stmts body)
    (hcl : fd.closure = []) (hgl : fd.globals = mainGlobals) (hbl : fd.builtins = builtinsNs) (hco : fd.scope.isCoroutine = false) (hgen : fd.scope.isGenerator = false) (hkind : fd.scope.kind = .function)
    (hnod : decide ((fd.scope.names.map (·.1)).Nodup) = true) (hfree : (fd.scope.names.all fun p => p.2 != .free) = true) (hbind : ∀ v, bindArgs fd ⟨[v], []⟩ = pure [(Str.ofString "script", v)]) (hN : ownN fd.scope = lawN) (hlook : fd.scope.names.lookup (Str.ofString "script") = some NameKind.local)
    (hres : cSs 60 (cxOf fd) body = rLaw) {A : Around} {f T : Fz} {s : Shared} {v : Value} (R : Room 18 A) (X : St B f T [] s) {xs : List Int} (hx : xs.length ≤ 63) (hv : VIs B f v (.flist (xs.map .int))) :
    codeAny (model B.prog B.w) A (.call (.ref fa) ⟨[v], []⟩) (CPost B f T fun x _ => x = .bool true) s := by
  have hroom : A.depth < recursionLimit := by have := R.d; omega
  have hk := X.keep
  refine codeAny_call_function hroom (hk _ _ ho) hd hco hgen hbody (hcd.keeps hk) (BindsTo.of_eq (hbind v) _ _ _ _ ?_)
  rw [hcl, hgl, hbl]
  refine wpAny_mono (Q := fun env s₂ => s₂.heap.NoLimit ∧ codeAny (model B.prog B.w) A (Code.func body env) (CPost B f T fun x _ => x = .bool true) s₂) (newEnv_rule (N := lawN) (binds := [(Str.ofString "script", v)]) (bx := [(Str.ofString "script", .flist (xs.map .int))]) hkind (of_decide_eq_true hnod) (fun p hp => by simpa [nth] using List.all_eq_true.mp hfree p hp) X rfl (.cons hv .nil) (fun p hp => ?_) fun env s' W hs Y => ?_) (fun _ _ q => q) fun _ _ e => e.elim
  · simp only [nth, List.mem_singleton] at hp
    subst hp
    exact ⟨.inl hlook, 0, rfl, by decide⟩
  · refine ⟨E.run.ok.lim.keeps Y.keep, codeAny_func ?_⟩
    have hok := body_ok (lv := 15) (hypB E 17) (by omega) 60 (cxOf fd) body (env := env) (ρ := [some (.flist (xs.map .int)), none, none, none, none, none, none]) (S := []) (Q := LawQ) W hs (by rw [hres]; exact law_wp E (by first | exact lv hm rfl | exact lv0 hm rfl | omega) hx)
    rw [show (cxOf fd).N = lawN from hN] at hok
    refine wpAny_mono (hok (A.deeper env) f T s' (R.deeper env) Y) (fun fl s'' ⟨f', ρ', S', fl', l, Z, hfl, q⟩ => ?_) fun _ _ e => e.elim
    have Z' : St B f' T S' s'' := Z.sub (List.sublist_append_right ..)
    cases fl <;> cases fl' <;> first | exact hfl.elim | exact q.elim | skip
    exact ⟨_, f', _, S', rfl, l, Z', hfl, q⟩
end Lend
namespace Lend
theorem vis_ints {P : Params} {h : Heap} {B : Bs} {f : Fz} : ∀ {vs : List Value} {ns : List Int}, WellAll P h vs (ofPys (ns.map .int)) → VsIs B f vs (ns.map CV.int)
  | vs, [], w => by
    rw [show ofPys (([] : List Int).map PyData.int) = [] by simp [nth, ofPys]] at w
    cases w; exact .nil
  | vs, n :: ns, w => by
    rw [show ofPys ((n :: ns).map PyData.int) = .int n :: ofPys (ns.map .int) by simp [nth, ofPys, ofPy]] at w
    cases w with
    | cons a b =>
      cases a
      exact .cons (.int _ _) (vis_ints b)
theorem vis_of_well {P : Params} {h : Heap} {B : Bs} {f : Fz} (hf : ∀ a o, h.get? a = some o → f a = some o) {v : Value} {ns : List Int} (w : Well P h v (ofPy (.list (ns.map .int)))) : VIs B f v (.flist (ns.map .int)) := by
  rw [show ofPy (.list (ns.map PyData.int)) = .list (ofPys (ns.map .int)) by simp [nth, ofPy]] at w
  cases w with
  | list e r => exact .flist (hf _ _ e) (by simpa [nth] using vis_ints r)
end Lend
namespace Lend
theorem room_caller : Room 18 callerA := ⟨rfl, by decide, by decide⟩
theorem law_go {prog : Program} {w : World} {K : Frag} {s₁ : Shared} {mg mb : Str → Option Value} (KX : K.In s₁.heap) (g : s₁.heap.Ns mainGlobals mg) (b : s₁.heap.Ns builtinsNs mb) (lim : s₁.heap.NoLimit) (blt : ∀ x : Str, x ≠ "__name__" → mb x = bootBuiltins x) (hg : s₁.gens = #[])
    {v : Value} {ns : List Int} (hw : Well w.params s₁.heap v (ofPy (.list (ns.map .int)))) (hx : ns.length ≤ 63) {fa : Addr} {o : Obj} {fd : FuncData} {body : List Stmt} (ho : s₁.heap.get? fa = some o) (hd : o.data = .func fd) (hcd : s₁.heap.CodeRec fd.code fd.qualname) (hbody : fd.body = .stmts body)
    (hcl : fd.closure = []) (hgl : fd.globals = mainGlobals) (hbl : fd.builtins = builtinsNs) (hco : fd.scope.isCoroutine = false) (hgen : fd.scope.isGenerator = false) (hkind : fd.scope.kind = .function)
    (hnod : decide ((fd.scope.names.map (·.1)).Nodup) = true) (hfree : (fd.scope.names.all fun p => p.2 != .free) = true) (hbind : ∀ v, bindArgs fd ⟨[v], []⟩ = pure [(Str.ofString "script", v)]) (hN : ownN fd.scope = lawN) (hlook : fd.scope.names.lookup (Str.ofString "script") = some NameKind.local)
    (hres : cSs 60 (cxOf fd) body = rLaw) (F : Facts w.params K) {R : Result → Shared → Prop} (h : ∀ s', (∀ b o, s₁.heap.get? b = some o → s'.heap.get? b = some o) → s'.os = s₁.os → s'.gens = #[] → R (.ok (.ret (.bool true))) s') :
    codeAny (model prog w) callerA (.call (.ref fa) ⟨[v], []⟩) R s₁ := by
  let B : Bs := { prog := prog, w := w, K := K, h₀ := s₁.heap, mg := mg, mb := mb, os := s₁.os }
  have E : Env0 B := ⟨⟨⟨KX, g, b, lim⟩, F⟩, blt⟩
  have X : St B s₁.heap.get? (fun _ => none) [] s₁ := ⟨hg, rfl, fun _ _ e => e, fun _ _ e => e, fun _ _ e => (by cases e), fun _ h => (by cases h), fun _ h => (by cases h), List.nodup_nil⟩
  refine codeAny_mono (law_call E ho hd hcd hbody hcl hgl hbl hco hgen hkind hnod hfree hbind hN hlook hres room_caller X hx (vis_of_well (fun _ _ e => e) hw)) fun r s' hr => ?_
  obtain ⟨v, f', x, S', rfl, _, Z, hv, rfl⟩ := hr
  cases hv
  exact h s' (fun b o e => Z.keep b o e) Z.os Z.gens
end Lend
theorem Lend.top.tw10061011554226143347 : True := trivial
theorem Lend.top.tw10071503794567913784 : True := trivial
theorem Lend.top.tw10156274191169691416 : True := trivial
theorem Lend.top.tw10177094586873442058 : True := trivial
theorem Lend.top.tw10193814365780115427 : True := trivial
theorem Lend.top.tw10234644000850268650 : True := trivial
theorem Lend.top.tw10237235498685730295 : True := trivial
theorem Lend.top.tw10266423130963488790 : True := trivial
theorem Lend.top.tw10276373947446068242 : True := trivial
theorem Lend.top.tw10366694224889310349 : True := trivial
theorem Lend.top.tw10368411538174314851 : True := trivial
theorem Lend.top.tw10401467520112533420 : True := trivial
theorem Lend.top.tw10419769317605742952 : True := trivial
theorem Lend.top.tw1043886819550828661 : True := trivial
theorem Lend.top.tw10463808174905927099 : True := trivial
theorem Lend.top.tw10499968477390733655 : True := trivial
theorem Lend.top.tw10584333493463449254 : True := trivial
theorem Lend.top.tw10602348048795918026 : True := trivial
theorem Lend.top.tw10633437444065053382 : True := trivial
theorem Lend.top.tw10658082414322818311 : True := trivial
theorem Lend.top.tw10683705691945499981 : True := trivial
theorem Lend.top.tw10694369546267682771 : True := trivial
theorem Lend.top.tw10713567125905735001 : True := trivial
theorem Lend.top.tw10747264367389777995 : True := trivial
theorem Lend.top.tw10779522406447099375 : True := trivial
theorem Lend.top.tw10847736117925598513 : True := trivial
theorem Lend.top.tw1092645781847314970 : True := trivial
theorem Lend.top.tw10941381417231174550 : True := trivial
theorem Lend.top.tw10967856686962470725 : True := trivial
theorem Lend.top.tw11027690501693039510 : True := trivial
theorem Lend.top.tw11032336556225937246 : True := trivial
theorem Lend.top.tw11060765410972281491 : True := trivial
theorem Lend.top.tw11073522606461843947 : True := trivial
theorem Lend.top.tw11082673165706082511 : True := trivial
theorem Lend.top.tw11102861287778603704 : True := trivial
theorem Lend.top.tw11103284447826493726 : True := trivial
theorem Lend.top.tw11110296188327666982 : True := trivial
theorem Lend.top.tw11154838737051308218 : True := trivial
theorem Lend.top.tw11160385663697028453 : True := trivial
theorem Lend.top.tw11171011484297691393 : True := trivial
theorem Lend.top.tw11214594728022044003 : True := trivial
theorem Lend.top.tw11246444954040323263 : True := trivial
theorem Lend.top.tw11285107457603071539 : True := trivial
theorem Lend.top.tw11293554448468851459 : True := trivial
theorem Lend.top.tw11324663676861179573 : True := trivial
theorem Lend.top.tw1134538420809560466 : True := trivial
theorem Lend.top.tw11345981933050028486 : True := trivial
theorem Lend.top.tw11430336566916802573 : True := trivial
theorem Lend.top.tw11455043066764022757 : True := trivial
theorem Lend.top.tw11464737691588109085 : True := trivial
theorem Lend.top.tw11497818762646847470 : True := trivial
theorem Lend.top.tw11539017514762980348 : True := trivial
theorem Lend.top.tw11564760173318262223 : True := trivial
theorem Lend.top.tw1157517003447577238 : True := trivial
theorem Lend.top.tw1160834613328935513 : True := trivial
theorem Lend.top.tw11624168832845875482 : True := trivial
theorem Lend.top.tw11628852828164519332 : True := trivial
theorem Lend.top.tw1164643643983791885 : True := trivial
theorem Lend.top.tw11649943709077679697 : True := trivial
theorem Lend.top.tw11653709099074236283 : True := trivial
theorem Lend.top.tw11673000161447600833 : True := trivial
theorem Lend.top.tw11675144728237982346 : True := trivial
theorem Lend.top.tw11693830283818977548 : True := trivial
theorem Lend.top.tw11698992988560715953 : True := trivial
theorem Lend.top.tw11719038584154407147 : True := trivial
theorem Lend.top.tw11765278912041831389 : True := trivial
theorem Lend.top.tw11791008198208355164 : True := trivial
theorem Lend.top.tw11817831104082286991 : True := trivial
theorem Lend.top.tw11888282560240516851 : True := trivial
theorem Lend.top.tw11892635932117123834 : True := trivial
theorem Lend.top.tw12000802929166725611 : True := trivial
theorem Lend.top.tw12061698093099840278 : True := trivial
theorem Lend.top.tw12105163920800389884 : True := trivial
theorem Lend.top.tw12176106598651895666 : True := trivial
theorem Lend.top.tw12213552590153774941 : True := trivial
theorem Lend.top.tw12233061002504470776 : True := trivial
theorem Lend.top.tw12280696352422331571 : True := trivial
theorem Lend.top.tw1228082391250876656 : True := trivial
theorem Lend.top.tw12282463347300164296 : True := trivial
theorem Lend.top.tw1229771969346320641 : True := trivial
theorem Lend.top.tw12325308442310911611 : True := trivial
theorem Lend.top.tw12337128464365208672 : True := trivial
theorem Lend.top.tw1239178329081312504 : True := trivial
theorem Lend.top.tw12423995058307726630 : True := trivial
theorem Lend.top.tw1244278300947120769 : True := trivial
theorem Lend.top.tw12455137140408205737 : True := trivial
theorem Lend.top.tw12493469442631506923 : True := trivial
theorem Lend.top.tw12501168118175642589 : True := trivial
theorem Lend.top.tw12516702794334310279 : True := trivial
theorem Lend.top.tw12529134800984089426 : True := trivial
theorem Lend.top.tw12531747505999836936 : True := trivial
theorem Lend.top.tw12534960039985443251 : True := trivial
theorem Lend.top.tw12579293584687442411 : True := trivial
theorem Lend.top.tw12629865256097241334 : True := trivial
theorem Lend.top.tw12674647808199743463 : True := trivial
theorem Lend.top.tw1272775779528419022 : True := trivial
theorem Lend.top.tw12736822079115735839 : True := trivial
theorem Lend.top.tw12882174034431723778 : True := trivial
theorem Lend.top.tw12898795678006491983 : True := trivial
theorem Lend.top.tw12921080049450488399 : True := trivial
theorem Lend.top.tw12946015027258732046 : True := trivial
theorem Lend.top.tw12971179650080220516 : True := trivial
theorem Lend.top.tw12979495457707443840 : True := trivial
theorem Lend.top.tw13010174904597573933 : True := trivial
theorem Lend.top.tw13019581141342752134 : True := trivial
theorem Lend.top.tw13080972419767269182 : True := trivial
theorem Lend.top.tw13090715116601589022 : True := trivial
theorem Lend.top.tw13105472155115512826 : True := trivial
theorem Lend.top.tw13132191496163581854 : True := trivial
theorem Lend.top.tw13188626793381291293 : True := trivial
theorem Lend.top.tw1319319653979468793 : True := trivial
theorem Lend.top.tw13223849030004391992 : True := trivial
theorem Lend.top.tw13251265694989544747 : True := trivial
theorem Lend.top.tw13356177464724371495 : True := trivial
theorem Lend.top.tw1342430883441579046 : True := trivial
theorem Lend.top.tw13466010254210576479 : True := trivial
theorem Lend.top.tw13502051284132113669 : True := trivial
theorem Lend.top.tw13531723560450171258 : True := trivial
theorem Lend.top.tw13562883079419732542 : True := trivial
theorem Lend.top.tw13597988104578449469 : True := trivial
theorem Lend.top.tw13604155542608339769 : True := trivial
theorem Lend.top.tw13632037210732412501 : True := trivial
theorem Lend.top.tw13683895696581090334 : True := trivial
theorem Lend.top.tw13701961651118151523 : True := trivial
theorem Lend.top.tw13783074016300188511 : True := trivial
theorem Lend.top.tw13837456428405808348 : True := trivial
theorem Lend.top.tw13892128045633602944 : True := trivial
theorem Lend.top.tw13914124772857208547 : True := trivial
theorem Lend.top.tw1392343880340041661 : True := trivial
theorem Lend.top.tw13976492251354995513 : True := trivial
theorem Lend.top.tw13997890092852665646 : True := trivial
theorem Lend.top.tw14008504795297040211 : True := trivial
theorem Lend.top.tw14024034892815222027 : True := trivial
theorem Lend.top.tw14054351398572625541 : True := trivial
theorem Lend.top.tw14068521673284661883 : True := trivial
theorem Lend.top.tw14080025935288044778 : True := trivial
theorem Lend.top.tw14157163581693845033 : True := trivial
theorem Lend.top.tw1416169500081389164 : True := trivial
theorem Lend.top.tw14235086984427215680 : True := trivial
theorem Lend.top.tw14237900427633470394 : True := trivial
theorem Lend.top.tw14277302855807084831 : True := trivial
theorem Lend.top.tw1433821648667779279 : True := trivial
theorem Lend.top.tw14377546486977028988 : True := trivial
theorem Lend.top.tw14468551129510948392 : True := trivial
theorem Lend.top.tw14554326061035818595 : True := trivial
theorem Lend.top.tw14624555855607244330 : True := trivial
theorem Lend.top.tw14631660791369506078 : True := trivial
theorem Lend.top.tw14683318419768555518 : True := trivial
theorem Lend.top.tw14712391447806937103 : True := trivial
theorem Lend.top.tw14774550705256327860 : True := trivial
theorem Lend.top.tw14781522145095028044 : True := trivial
theorem Lend.top.tw14801483014309203315 : True := trivial
theorem Lend.top.tw14816119567955117426 : True := trivial
theorem Lend.top.tw14890585608536496350 : True := trivial
theorem Lend.top.tw14899571644731821077 : True := trivial
theorem Lend.top.tw14911668348055301437 : True := trivial
theorem Lend.top.tw14957597177417500420 : True := trivial
theorem Lend.top.tw15056202959855202398 : True := trivial
theorem Lend.top.tw15057669730410055815 : True := trivial
theorem Lend.top.tw15071091259427837428 : True := trivial
theorem Lend.top.tw15101408594267964814 : True := trivial
theorem Lend.top.tw15145910827279542352 : True := trivial
theorem Lend.top.tw15276236404500513352 : True := trivial
theorem Lend.top.tw15321710151715092276 : True := trivial
theorem Lend.top.tw15342770300144628981 : True := trivial
theorem Lend.top.tw15474298173933002444 : True := trivial
theorem Lend.top.tw15501803451412838376 : True := trivial
theorem Lend.top.tw15585855480690761425 : True := trivial
theorem Lend.top.tw15633250019002035727 : True := trivial
theorem Lend.top.tw15649063997693126812 : True := trivial
theorem Lend.top.tw15654751412682473923 : True := trivial
theorem Lend.top.tw15753517812581037337 : True := trivial
theorem Lend.top.tw15814765936537203340 : True := trivial
theorem Lend.top.tw15847058004738780026 : True := trivial
theorem Lend.top.tw15864103332389729228 : True := trivial
theorem Lend.top.tw15890999185137789585 : True := trivial
theorem Lend.top.tw15900829317846337273 : True := trivial
theorem Lend.top.tw15926061523107878156 : True := trivial
theorem Lend.top.tw16090080213006435972 : True := trivial
theorem Lend.top.tw16099707015450159908 : True := trivial
theorem Lend.top.tw16151577920655926671 : True := trivial
theorem Lend.top.tw1625308533112420011 : True := trivial
theorem Lend.top.tw16261329910890464751 : True := trivial
theorem Lend.top.tw16298609817511803749 : True := trivial
theorem Lend.top.tw16317632807505638921 : True := trivial
theorem Lend.top.tw16407251044871355471 : True := trivial
theorem Lend.top.tw16439463146930708007 : True := trivial
theorem Lend.top.tw16482173922622700714 : True := trivial
theorem Lend.top.tw16517654029810814921 : True := trivial
theorem Lend.top.tw16553452663535675018 : True := trivial
theorem Lend.top.tw16573405784878695060 : True := trivial
theorem Lend.top.tw16582020283573575701 : True := trivial
theorem Lend.top.tw16622934618241418936 : True := trivial
theorem Lend.top.tw16630144851982595508 : True := trivial
theorem Lend.top.tw16659340919492833232 : True := trivial
theorem Lend.top.tw16702187280739676298 : True := trivial
theorem Lend.top.tw16760242095220517217 : True := trivial
theorem Lend.top.tw16773870409824519938 : True := trivial
theorem Lend.top.tw16797852876372015493 : True := trivial
theorem Lend.top.tw16821479865430270476 : True := trivial
theorem Lend.top.tw16847969694089267463 : True := trivial
theorem Lend.top.tw16857741463702146135 : True := trivial
theorem Lend.top.tw16867142976120290678 : True := trivial
theorem Lend.top.tw16898868934336342360 : True := trivial
theorem Lend.top.tw16928049748749772271 : True := trivial
theorem Lend.top.tw1695140503061658855 : True := trivial
theorem Lend.top.tw16959152238519555217 : True := trivial
theorem Lend.top.tw16996177340096657264 : True := trivial
theorem Lend.top.tw17027582352840262676 : True := trivial
theorem Lend.top.tw17043510273995120658 : True := trivial
theorem Lend.top.tw17050092605015671413 : True := trivial
theorem Lend.top.tw17072284815007756601 : True := trivial
theorem Lend.top.tw17076766423394218114 : True := trivial
theorem Lend.top.tw17090789377041273366 : True := trivial
theorem Lend.top.tw17103144063383766167 : True := trivial
theorem Lend.top.tw1713246072923329783 : True := trivial
theorem Lend.top.tw17139953342260473466 : True := trivial
theorem Lend.top.tw17160532317863047807 : True := trivial
theorem Lend.top.tw17170550419623803565 : True := trivial
theorem Lend.top.tw17223016142048584704 : True := trivial
theorem Lend.top.tw17229535267338582319 : True := trivial
theorem Lend.top.tw17237284168864568265 : True := trivial
theorem Lend.top.tw17278477649302622473 : True := trivial
theorem Lend.top.tw1728599472300144997 : True := trivial
theorem Lend.top.tw17297870310617605574 : True := trivial
theorem Lend.top.tw17424758013612674920 : True := trivial
theorem Lend.top.tw1744867144312243341 : True := trivial
theorem Lend.top.tw17476486608164402483 : True := trivial
theorem Lend.top.tw17483470118867892306 : True := trivial
theorem Lend.top.tw17484893788284833289 : True := trivial
theorem Lend.top.tw17501728357862708794 : True := trivial
theorem Lend.top.tw17528239661903656517 : True := trivial
theorem Lend.top.tw17559695332778870134 : True := trivial
theorem Lend.top.tw17584286747087315943 : True := trivial
theorem Lend.top.tw17615041115325664126 : True := trivial
theorem Lend.top.tw17841589767689671699 : True := trivial
theorem Lend.top.tw17922644350308087643 : True := trivial
theorem Lend.top.tw17936617238942512994 : True := trivial
theorem Lend.top.tw17940425043893965843 : True := trivial
theorem Lend.top.tw180229946024376537 : True := trivial
theorem Lend.top.tw18047621440505110121 : True := trivial
theorem Lend.top.tw18068814249554651218 : True := trivial
theorem Lend.top.tw18101127936818615579 : True := trivial
theorem Lend.top.tw18120459445165391307 : True := trivial
theorem Lend.top.tw18205714475668728402 : True := trivial
theorem Lend.top.tw18252867700206961201 : True := trivial
theorem Lend.top.tw18273431425641908225 : True := trivial
theorem Lend.top.tw18289982284591301751 : True := trivial
theorem Lend.top.tw18318153666278172451 : True := trivial
theorem Lend.top.tw18323556930890188143 : True := trivial
theorem Lend.top.tw18327887345799356503 : True := trivial
theorem Lend.top.tw18381156656793231362 : True := trivial
theorem Lend.top.tw18385511470976259025 : True := trivial
theorem Lend.top.tw185488554108834008 : True := trivial
theorem Lend.top.tw1862438810268473747 : True := trivial
theorem Lend.top.tw1914323220580220394 : True := trivial
theorem Lend.top.tw1945368980748620153 : True := trivial
theorem Lend.top.tw1956211437563657102 : True := trivial
theorem Lend.top.tw1967770809742235062 : True := trivial
theorem Lend.top.tw1977048383206812789 : True := trivial
theorem Lend.top.tw1980319715526113713 : True := trivial
theorem Lend.top.tw1996009470835632079 : True := trivial
theorem Lend.top.tw2033807817616179450 : True := trivial
theorem Lend.top.tw2089255662857848855 : True := trivial
theorem Lend.top.tw2093857093196754994 : True := trivial
theorem Lend.top.tw2235977226586182298 : True := trivial
theorem Lend.top.tw2269909449740945656 : True := trivial
theorem Lend.top.tw2292541477536460387 : True := trivial
theorem Lend.top.tw2312090127642329824 : True := trivial
theorem Lend.top.tw2337608707520679426 : True := trivial
theorem Lend.top.tw2436647514678445623 : True := trivial
theorem Lend.top.tw2444539352523177194 : True := trivial
theorem Lend.top.tw2507205317700373785 : True := trivial
theorem Lend.top.tw2602708707008346143 : True := trivial
theorem Lend.top.tw2780020969885355100 : True := trivial
theorem Lend.top.tw2800558034467781672 : True := trivial
theorem Lend.top.tw2864633478587458162 : True := trivial
theorem Lend.top.tw2867918815536470555 : True := trivial
theorem Lend.top.tw2903966471421205825 : True := trivial
theorem Lend.top.tw2910943177786514975 : True := trivial
theorem Lend.top.tw2965144684123424659 : True := trivial
theorem Lend.top.tw2975183352985325083 : True := trivial
theorem Lend.top.tw3031908013492920805 : True := trivial
theorem Lend.top.tw3068208342999713143 : True := trivial
theorem Lend.top.tw3150354577551732401 : True := trivial
theorem Lend.top.tw3159845990631532490 : True := trivial
theorem Lend.top.tw3173326525585749369 : True := trivial
theorem Lend.top.tw320051368869666561 : True := trivial
theorem Lend.top.tw3201671698091680444 : True := trivial
theorem Lend.top.tw3306940898158966185 : True := trivial
theorem Lend.top.tw3307561804946002772 : True := trivial
theorem Lend.top.tw3323828143087466346 : True := trivial
theorem Lend.top.tw3342463042300632518 : True := trivial
theorem Lend.top.tw334720000073423409 : True := trivial
theorem Lend.top.tw3450650451577530229 : True := trivial
theorem Lend.top.tw352117169520481465 : True := trivial
theorem Lend.top.tw3559989295742792217 : True := trivial
theorem Lend.top.tw3596855203591707235 : True := trivial
theorem Lend.top.tw362864577160494042 : True := trivial
theorem Lend.top.tw3662723305466983843 : True := trivial
theorem Lend.top.tw3663090564464512693 : True := trivial
theorem Lend.top.tw3681935016414092025 : True := trivial
theorem Lend.top.tw369129105375057493 : True := trivial
theorem Lend.top.tw3705302680082228538 : True := trivial
theorem Lend.top.tw3706698385102130795 : True := trivial
theorem Lend.top.tw3765328528258108420 : True := trivial
theorem Lend.top.tw3768428793446738834 : True := trivial
theorem Lend.top.tw3821865158019893896 : True := trivial
theorem Lend.top.tw3966822143733281077 : True := trivial
theorem Lend.top.tw3971382554614786928 : True := trivial
theorem Lend.top.tw3989219503871036373 : True := trivial
theorem Lend.top.tw4020731341153365551 : True := trivial
theorem Lend.top.tw404139601385087719 : True := trivial
theorem Lend.top.tw4079583281226355842 : True := trivial
theorem Lend.top.tw4106709791572319612 : True := trivial
theorem Lend.top.tw4160026434716919799 : True := trivial
theorem Lend.top.tw4181652751975266877 : True := trivial
theorem Lend.top.tw4181753128360022145 : True := trivial
theorem Lend.top.tw4217133163677680957 : True := trivial
theorem Lend.top.tw4277865781668942114 : True := trivial
theorem Lend.top.tw4380689070717928666 : True := trivial
theorem Lend.top.tw4425954809777551943 : True := trivial
theorem Lend.top.tw446754833530790306 : True := trivial
theorem Lend.top.tw4469948654878137300 : True := trivial
theorem Lend.top.tw4490009555687265153 : True := trivial
theorem Lend.top.tw4538468746262104251 : True := trivial
theorem Lend.top.tw4559164433990174135 : True := trivial
theorem Lend.top.tw4588735865753784247 : True := trivial
theorem Lend.top.tw4616622499782764739 : True := trivial
theorem Lend.top.tw4624777980707773700 : True := trivial
theorem Lend.top.tw464030038044730375 : True := trivial
theorem Lend.top.tw4647866482323590194 : True := trivial
theorem Lend.top.tw4659566909843461003 : True := trivial
theorem Lend.top.tw4694694655025573144 : True := trivial
theorem Lend.top.tw4735851480831434160 : True := trivial
theorem Lend.top.tw4756802808506219126 : True := trivial
theorem Lend.top.tw4834066762906292900 : True := trivial
theorem Lend.top.tw4857415170330844119 : True := trivial
theorem Lend.top.tw4886888518639175507 : True := trivial
theorem Lend.top.tw4930289344454786557 : True := trivial
theorem Lend.top.tw5001837611687773714 : True := trivial
theorem Lend.top.tw5022268330262595810 : True := trivial
theorem Lend.top.tw5068279529635537780 : True := trivial
theorem Lend.top.tw5229013006911471987 : True := trivial
theorem Lend.top.tw5350531950455420167 : True := trivial
theorem Lend.top.tw5352505004216291904 : True := trivial
theorem Lend.top.tw5386999320762264886 : True := trivial
theorem Lend.top.tw5391552528188454135 : True := trivial
theorem Lend.top.tw5394599477543404712 : True := trivial
theorem Lend.top.tw5406270901561500386 : True := trivial
theorem Lend.top.tw5407456866335127163 : True := trivial
theorem Lend.top.tw5414357131165484000 : True := trivial
theorem Lend.top.tw5416834136646807304 : True := trivial
theorem Lend.top.tw5442675423928171145 : True := trivial
theorem Lend.top.tw5531583996154449293 : True := trivial
theorem Lend.top.tw5564355766771693852 : True := trivial
theorem Lend.top.tw5568866006977605597 : True := trivial
theorem Lend.top.tw5644154807364323750 : True := trivial
theorem Lend.top.tw5714867739339361137 : True := trivial
theorem Lend.top.tw5726272606884595121 : True := trivial
theorem Lend.top.tw577580061015377059 : True := trivial
theorem Lend.top.tw578209095834654496 : True := trivial
theorem Lend.top.tw5809962119432869708 : True := trivial
theorem Lend.top.tw5846748851414342521 : True := trivial
theorem Lend.top.tw5858234319375437910 : True := trivial
theorem Lend.top.tw5914945496782277928 : True := trivial
theorem Lend.top.tw5918324132985289176 : True := trivial
theorem Lend.top.tw5929947794603464521 : True := trivial
theorem Lend.top.tw5936414719164921349 : True := trivial
theorem Lend.top.tw6032051151863934010 : True := trivial
theorem Lend.top.tw6046558669572321201 : True := trivial
theorem Lend.top.tw605087567589238314 : True := trivial
theorem Lend.top.tw6067629442693984463 : True := trivial
theorem Lend.top.tw6135602670108046740 : True := trivial
theorem Lend.top.tw6211875186385079669 : True := trivial
theorem Lend.top.tw6271530082344611851 : True := trivial
theorem Lend.top.tw6323298354938736746 : True := trivial
theorem Lend.top.tw633619832780491908 : True := trivial
theorem Lend.top.tw6397363365001056601 : True := trivial
theorem Lend.top.tw6403009809070072183 : True := trivial
theorem Lend.top.tw6438520383632612839 : True := trivial
theorem Lend.top.tw6479829340593784310 : True := trivial
theorem Lend.top.tw6488954952878620247 : True := trivial
theorem Lend.top.tw6539521010086081074 : True := trivial
theorem Lend.top.tw6542970113029653117 : True := trivial
theorem Lend.top.tw6546827523638813278 : True := trivial
theorem Lend.top.tw6555447464767044855 : True := trivial
theorem Lend.top.tw65829266928758269 : True := trivial
theorem Lend.top.tw6591783324590367908 : True := trivial
theorem Lend.top.tw6614100179403265555 : True := trivial
theorem Lend.top.tw6627519343366504597 : True := trivial
theorem Lend.top.tw6660606357944585088 : True := trivial
theorem Lend.top.tw6683042848626493118 : True := trivial
theorem Lend.top.tw67207732261534926 : True := trivial
theorem Lend.top.tw6733087417884489128 : True := trivial
theorem Lend.top.tw6779807107831082694 : True := trivial
theorem Lend.top.tw6794869180505898773 : True := trivial
theorem Lend.top.tw6795686546974844077 : True := trivial
theorem Lend.top.tw683017319634184274 : True := trivial
theorem Lend.top.tw6966187679368021254 : True := trivial
theorem Lend.top.tw7133487625611297280 : True := trivial
theorem Lend.top.tw7178470106460491316 : True := trivial
theorem Lend.top.tw721546452018019515 : True := trivial
theorem Lend.top.tw7239643093184167378 : True := trivial
theorem Lend.top.tw7245858349611154720 : True := trivial
theorem Lend.top.tw7250385323942301874 : True := trivial
theorem Lend.top.tw7259644982315941334 : True := trivial
theorem Lend.top.tw7259663231686501184 : True := trivial
theorem Lend.top.tw7319213552970244949 : True := trivial
theorem Lend.top.tw7356867832653525782 : True := trivial
theorem Lend.top.tw7390755230033228112 : True := trivial
theorem Lend.top.tw7404818733764897727 : True := trivial
theorem Lend.top.tw7415121680521410437 : True := trivial
theorem Lend.top.tw742194735656633949 : True := trivial
theorem Lend.top.tw7443590623246708736 : True := trivial
theorem Lend.top.tw7500261229192311845 : True := trivial
theorem Lend.top.tw7504774695970853839 : True := trivial
theorem Lend.top.tw754155261351825839 : True := trivial
theorem Lend.top.tw7576791468800251873 : True := trivial
theorem Lend.top.tw760474831295439460 : True := trivial
theorem Lend.top.tw76112944492046384 : True := trivial
theorem Lend.top.tw7671545698342839673 : True := trivial
theorem Lend.top.tw7692907606463775047 : True := trivial
theorem Lend.top.tw7704674868324155223 : True := trivial
theorem Lend.top.tw7711923162095676254 : True := trivial
theorem Lend.top.tw7714425069459360450 : True := trivial
theorem Lend.top.tw7788666120641872546 : True := trivial
theorem Lend.top.tw7817139553469979707 : True := trivial
theorem Lend.top.tw7826311531915677183 : True := trivial
theorem Lend.top.tw7851168357922302617 : True := trivial
theorem Lend.top.tw7861110568268664409 : True := trivial
theorem Lend.top.tw8017374439814947909 : True := trivial
theorem Lend.top.tw8092306288024749024 : True := trivial
theorem Lend.top.tw8092699961749029868 : True := trivial
theorem Lend.top.tw8105320468014306071 : True := trivial
theorem Lend.top.tw8150007802138829334 : True := trivial
theorem Lend.top.tw8158747433836010741 : True := trivial
theorem Lend.top.tw8231905672180397131 : True := trivial
theorem Lend.top.tw8313085583613615615 : True := trivial
theorem Lend.top.tw8317849339742298283 : True := trivial
theorem Lend.top.tw8352527655475494758 : True := trivial
theorem Lend.top.tw8354811163167817099 : True := trivial
theorem Lend.top.tw8357097892153671600 : True := trivial
theorem Lend.top.tw8374094653062112375 : True := trivial
theorem Lend.top.tw8407484667225806101 : True := trivial
theorem Lend.top.tw8482668322377260989 : True := trivial
theorem Lend.top.tw8493506661896936901 : True := trivial
theorem Lend.top.tw8509456767736797578 : True := trivial
theorem Lend.top.tw8533120924012939631 : True := trivial
theorem Lend.top.tw8554032295426208145 : True := trivial
theorem Lend.top.tw8592342313863273617 : True := trivial
theorem Lend.top.tw8616446606325083813 : True := trivial
theorem Lend.top.tw8639045169268114141 : True := trivial
theorem Lend.top.tw8659853528439951724 : True := trivial
theorem Lend.top.tw8753209680673558207 : True := trivial
theorem Lend.top.tw8760465339565778002 : True := trivial
theorem Lend.top.tw8804907630945528718 : True := trivial
theorem Lend.top.tw8840000729662167631 : True := trivial
theorem Lend.top.tw8840697345262393924 : True := trivial
theorem Lend.top.tw8848731863634543139 : True := trivial
theorem Lend.top.tw8881432792251811989 : True := trivial
theorem Lend.top.tw8930086975957658879 : True := trivial
theorem Lend.top.tw89653250180470932 : True := trivial
theorem Lend.top.tw8998237509254433086 : True := trivial
theorem Lend.top.tw9003897713042847944 : True := trivial
theorem Lend.top.tw9023563163037522490 : True := trivial
theorem Lend.top.tw9108252342015533425 : True := trivial
theorem Lend.top.tw9108527644708346312 : True := trivial
theorem Lend.top.tw9108716385490936324 : True := trivial
theorem Lend.top.tw9191075936211780493 : True := trivial
theorem Lend.top.tw9273198792028005927 : True := trivial
theorem Lend.top.tw9288837253191597511 : True := trivial
theorem Lend.top.tw9298176973748127296 : True := trivial
theorem Lend.top.tw9330768569469015642 : True := trivial
theorem Lend.top.tw933858631380439140 : True := trivial
theorem Lend.top.tw9381243615788982000 : True := trivial
theorem Lend.top.tw9383804914838103932 : True := trivial
theorem Lend.top.tw9428773996633609505 : True := trivial
theorem Lend.top.tw9484999944336524301 : True := trivial
theorem Lend.top.tw9500256869234605554 : True := trivial
theorem Lend.top.tw9522232643696924529 : True := trivial
theorem Lend.top.tw9528018242791403845 : True := trivial
theorem Lend.top.tw95348250810796160 : True := trivial
theorem Lend.top.tw9606997646617733640 : True := trivial
theorem Lend.top.tw9609630195175153428 : True := trivial
theorem Lend.top.tw9638401069814221751 : True := trivial
theorem Lend.top.tw9642814423496558907 : True := trivial
theorem Lend.top.tw9711055349858609919 : True := trivial
theorem Lend.top.tw9770363031589111214 : True := trivial
theorem Lend.top.tw9792269213364201221 : True := trivial
theorem Lend.top.tw9807273350780962744 : True := trivial
theorem Lend.top.tw980961637027973922 : True := trivial
theorem Lend.top.tw9843314973190188252 : True := trivial
theorem Lend.top.tw9852228981154554629 : True := trivial
theorem Lend.top.tw9862702371929131799 : True := trivial
theorem Lend.top.tw9863385325687351672 : True := trivial
theorem Lend.top.tw9890040146919642128 : True := trivial
theorem Lend.top.tw9901110880440886422 : True := trivial
theorem Lend.top.tw9909188762972225885 : True := trivial
theorem Lend.top.tw9913013796571222498 : True := trivial
theorem Lend.top.tw9919296305227637595 : True := trivial
theorem Lend.top.tw992299508427249654 : True := trivial
theorem Lend.top.tw9942145740352618847 : True := trivial
theorem Lend.top.tw9949753724535957378 : True := trivial
set_option Elab.async true in
set_option tactic.hygienic true in
set_option maxHeartbeats 8000000 in
theorem Lend.top : PySem.Challenge.rw_xw0170_01.Holds := by
  w_on; o_law; k_head; (case hw => w_witness2)
  intro w s₀ s₁ mg mb G Y fa o pm cd doc dV kV ho hdd hcd hD hmg hg args vals as hpre hlay hrd hwl hlo
  have KX := kIn_of Y
  have T := G.T
  have hk : kV = .none := hD.kw.elim (·.2) (fun h => absurd rfl h.1)
  have hd0 : dV = .none := hD.pos.elim (·.2) (fun h => absurd rfl h.1)
  subst hk hd0
  clear hmg hD G Y
  wrow_args hpre hlay hrd hwl hlo
  refine enter_call ?_
  rename Well _ _ _ _ => hw
  rename List Int => ns
  have hlen : ns.length ≤ 63 := by omega
  refine Lend.law_go KX T.g T.b T.nolimit T.builtins hg hw hlen ho hdd hcd rfl rfl rfl rfl rfl rfl rfl (by kernel_rfl) (by kernel_rfl) (fun v => by kernel_rfl) (by kernel_rfl) (by kernel_rfl) (by kernel_rfl) ?_ fun s' k1 k2 k3 => GoodW.toG ⟨.inl ⟨_, _, _, rfl, fun _ => rfl, .bool true, ?_, fun _ => ⟨List.nodup_nil, fun _ h => (by cases h)⟩⟩, k1, k2, k3⟩
  · exact ⟨⟨by kernel_rfl, by kernel_rfl, by kernel_rfl⟩,
    (Lend.bind1 fun u0 => by kernel_rfl),
    ⟨by kernel_rfl, by kernel_rfl, by kernel_rfl⟩,
    (Lend.bind1 fun u0 => by kernel_rfl),
    ⟨by kernel_rfl, by kernel_rfl, by kernel_rfl⟩,
    (Lend.bind1 fun u0 => by kernel_rfl),
    ⟨by kernel_rfl, by kernel_rfl, by kernel_rfl⟩,
    (Lend.bind2 fun u0 u1 => by kernel_rfl),
    ⟨by kernel_rfl, by kernel_rfl, by kernel_rfl⟩,
    (Lend.bind2 fun u0 u1 => by kernel_rfl),
    ⟨by kernel_rfl, by kernel_rfl, by kernel_rfl⟩,
    (Lend.bind2 fun u0 u1 => by kernel_rfl),
    ⟨by kernel_rfl, by kernel_rfl, by kernel_rfl⟩,
    (Lend.bind3 fun u0 u1 u2 => by kernel_rfl),
    ⟨by kernel_rfl, by kernel_rfl, by kernel_rfl⟩,
    (Lend.bind4 fun u0 u1 u2 u3 => by kernel_rfl),
    ⟨by kernel_rfl, by kernel_rfl, by kernel_rfl⟩,
    (Lend.bind3 fun u0 u1 u2 => by kernel_rfl),
    ⟨by kernel_rfl, by kernel_rfl, by kernel_rfl⟩,
    ⟨by kernel_rfl, by kernel_rfl, by kernel_rfl⟩,
    (Lend.bind1 fun u0 => by kernel_rfl),
    ⟨by kernel_rfl, by kernel_rfl, by kernel_rfl⟩,
    (Lend.bind1 fun u0 => by kernel_rfl),
    ⟨by kernel_rfl, by kernel_rfl, by kernel_rfl⟩,
    (Lend.bind1 fun u0 => by kernel_rfl),
    ⟨by kernel_rfl, by kernel_rfl, by kernel_rfl⟩,
    (Lend.bind2 fun u0 u1 => by kernel_rfl),
    ⟨by kernel_rfl, by kernel_rfl, by kernel_rfl⟩,
    (Lend.bind2 fun u0 u1 => by kernel_rfl),
    ⟨by kernel_rfl, by kernel_rfl, by kernel_rfl⟩,
    (Lend.bind2 fun u0 u1 => by kernel_rfl),
    ⟨by kernel_rfl, by kernel_rfl, by kernel_rfl⟩,
    (Lend.bind2 fun u0 u1 => by kernel_rfl),
    ⟨by kernel_rfl, by kernel_rfl, by kernel_rfl⟩,
    (Lend.bind4 fun u0 u1 u2 u3 => by kernel_rfl),
    ⟨by kernel_rfl, by kernel_rfl, by kernel_rfl⟩,
    (Lend.bind2 fun u0 u1 => by kernel_rfl),
    ⟨by kernel_rfl, by kernel_rfl, by kernel_rfl⟩,
    (Lend.bind2 fun u0 u1 => by kernel_rfl),
    ⟨by kernel_rfl, by kernel_rfl, by kernel_rfl⟩,
    (Lend.bind3 fun u0 u1 u2 => by kernel_rfl),
    ⟨by kernel_rfl, by kernel_rfl, by kernel_rfl⟩,
    (Lend.bind3 fun u0 u1 u2 => by kernel_rfl),
    ⟨by kernel_rfl, by kernel_rfl, by kernel_rfl⟩,
    (Lend.bind3 fun u0 u1 u2 => by kernel_rfl),
    ⟨by kernel_rfl, by kernel_rfl, by kernel_rfl⟩,
    (Lend.bind3 fun u0 u1 u2 => by kernel_rfl),
    ⟨by kernel_rfl, by kernel_rfl, by kernel_rfl⟩,
    (Lend.bind3 fun u0 u1 u2 => by kernel_rfl),
    ⟨by kernel_rfl, by kernel_rfl, by kernel_rfl⟩,
    (Lend.bind2 fun u0 u1 => by kernel_rfl),
    ⟨by kernel_rfl, by kernel_rfl, by kernel_rfl⟩,
    (Lend.bind3 fun u0 u1 u2 => by kernel_rfl),
    ⟨by kernel_rfl, by kernel_rfl, by kernel_rfl⟩,
    (Lend.bind3 fun u0 u1 u2 => by kernel_rfl),
    ⟨by kernel_rfl, by kernel_rfl, by kernel_rfl⟩,
    (Lend.bind3 fun u0 u1 u2 => by kernel_rfl),
    ⟨by kernel_rfl, by kernel_rfl, by kernel_rfl⟩,
    (Lend.bind1 fun u0 => by kernel_rfl),
    ⟨by kernel_rfl, by kernel_rfl, by kernel_rfl⟩,
    (Lend.bind1 fun u0 => by kernel_rfl),
    ⟨by kernel_rfl, by kernel_rfl, by kernel_rfl⟩,
    (Lend.bind2 fun u0 u1 => by kernel_rfl),
    ⟨by kernel_rfl, by kernel_rfl, by kernel_rfl⟩,
    (Lend.bind2 fun u0 u1 => by kernel_rfl),
    ⟨by kernel_rfl, by kernel_rfl, by kernel_rfl⟩,
    (Lend.bind0 (by kernel_rfl)),
    ⟨by kernel_rfl, by kernel_rfl, by kernel_rfl⟩,
    (Lend.bind1 fun u0 => by kernel_rfl),
    ⟨by kernel_rfl, by kernel_rfl, by kernel_rfl⟩,
    (Lend.bind2 fun u0 u1 => by kernel_rfl),
    ⟨by kernel_rfl, by kernel_rfl, by kernel_rfl⟩,
    (Lend.bind2 fun u0 u1 => by kernel_rfl),
    ⟨by kernel_rfl, by kernel_rfl, by kernel_rfl⟩,
    (Lend.bind1 fun u0 => by kernel_rfl),
    ⟨by kernel_rfl, by kernel_rfl, by kernel_rfl⟩,
    (Lend.bind2 fun u0 u1 => by kernel_rfl),
    ⟨by kernel_rfl, by kernel_rfl, by kernel_rfl⟩,
    (Lend.bind1 fun u0 => by kernel_rfl),
    ⟨by kernel_rfl, by kernel_rfl, by kernel_rfl⟩,
    (Lend.bind1 fun u0 => by kernel_rfl),
    ⟨by kernel_rfl, by kernel_rfl, by kernel_rfl⟩,
    (Lend.bind2 fun u0 u1 => by kernel_rfl),
    ⟨by kernel_rfl, by kernel_rfl, by kernel_rfl⟩,
    (Lend.bind3 fun u0 u1 u2 => by kernel_rfl),
    ⟨by kernel_rfl, by kernel_rfl, by kernel_rfl⟩,
    (Lend.bind1 fun u0 => by kernel_rfl),
    ⟨by kernel_rfl, by kernel_rfl, by kernel_rfl⟩,
    (Lend.bind0 (by kernel_rfl)),
    (fun _ _ _ _ _ _ => by kernel_rfl),
    ⟨by kernel_rfl, by kernel_rfl, by kernel_rfl, by kernel_rfl, Lend.hasD (by kernel_rfl)⟩,
    ⟨by kernel_rfl, by kernel_rfl, by kernel_rfl, by kernel_rfl⟩,
    ⟨by kernel_rfl, by kernel_rfl, by kernel_rfl, by kernel_rfl, Lend.hasD (by kernel_rfl)⟩,
    ⟨by kernel_rfl, by kernel_rfl, by kernel_rfl, by kernel_rfl⟩,
    ⟨by kernel_rfl, by kernel_rfl, by kernel_rfl, by kernel_rfl, Lend.hasD (by kernel_rfl)⟩,
    ⟨by kernel_rfl, by kernel_rfl, by kernel_rfl, by kernel_rfl⟩,
    (by kernel_rfl),
    (by kernel_rfl),
    (by kernel_rfl),
    (by kernel_rfl),
    (by kernel_rfl),
    (by kernel_rfl),
    (by kernel_rfl),
    (by kernel_rfl)⟩
  · kernel_rfl

theorem PySem.Challenge.cw_xw0170_01_holds : PySem.Challenge.rw_xw0170_01.Holds :=
  Lend.top
