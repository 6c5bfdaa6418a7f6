import PyProof.Rows.All
import Wide.All
import OpenK.AllK
import Wide.FinOn
import HandS.ForMost
import HandS.Exc
import HandS.TryOnly
import HandS.ExcOwn
import HandS.WordsExc
import HandS.Wide
import HandS.IsInst
import HandS.Style
import HandS.TupAny
import HandS.TupMul
import HandS.Rev
import HandS.Zip
import HandS.Deep
import HandS.Flow
import KE.Datum
import KE.GoesEnum
import HandS.ExcInit
import HandS.ExcSuper
import HandS.FStr
import KE.KExcSuper
import KE.KSuper
import HandS.ExcField
import HandS.Dict
import HandS.More
import PySem.Challenge.RW_unswapped_k70_words_of_free_groups
set_option Elab.async false
set_option linter.all false
set_option maxRecDepth 100000
set_option maxHeartbeats 4000000
/-! UZ, part A: values as data. A layer of our own above HandS: what a def computes is told over plain data (trees) and a numbered store of changeable objects; no address stands in it. -/
namespace UZ
open PySem PySem.Spec PyProof.Rows L2

/-! ### data held by a value, in a heap part S that is never written -/
def keyD : Key → PyData
  | .inl i => .int i
  | .inr x => .str x
mutual
inductive Rep (K : PySem.W.Frag) (S : Hp) : V → PyData → Prop
  | non : Rep K S .non .none
  | bl (b : Bool) : Rep K S (.bl b) (.bool b)
  | int (i : Int) : Rep K S (.int i) (.int i)
  | str (x : Str) : Rep K S (.str x) (.str x)
  | lst {a : Addr} {vs : List V} {ds : List PyData} : S a = some (.lst vs) → RepL K S vs ds → Rep K S (.ref a) (.list ds)
  | tup {a : Addr} {vs : List V} {ds : List PyData} : SqT K S a vs → RepL K S vs ds → Rep K S (.ref a) (.tuple ds)
  | dK {a : Addr} {kvs : List (Key × V)} {ds : List (PyData × PyData)} : S a = some (.dK kvs) → RepK K S kvs ds → Rep K S (.ref a) (.dict ds)
  | dT {a : Addr} {kvs : List (List Key × V)} {ds : List (PyData × PyData)} : S a = some (.dT kvs) → RepT K S kvs ds → Rep K S (.ref a) (.dict ds)
inductive RepL (K : PySem.W.Frag) (S : Hp) : List V → List PyData → Prop
  | nil : RepL K S [] []
  | cons {v : V} {vs : List V} {d : PyData} {ds : List PyData} : Rep K S v d → RepL K S vs ds → RepL K S (v :: vs) (d :: ds)
inductive RepK (K : PySem.W.Frag) (S : Hp) : List (Key × V) → List (PyData × PyData) → Prop
  | nil : RepK K S [] []
  | cons {k : Key} {v : V} {vs : List (Key × V)} {d : PyData} {ds : List (PyData × PyData)} : Rep K S v d → RepK K S vs ds → RepK K S ((k, v) :: vs) ((keyD k, d) :: ds)
inductive RepT (K : PySem.W.Frag) (S : Hp) : List (List Key × V) → List (PyData × PyData) → Prop
  | nil : RepT K S [] []
  | cons {k : List Key} {v : V} {vs : List (List Key × V)} {d : PyData} {ds : List (PyData × PyData)} : Rep K S v d → RepT K S vs ds → RepT K S ((k, v) :: vs) ((.tuple (k.map keyD), d) :: ds)
end

def SubH (S S' : Hp) : Prop := ∀ a o, S a = some o → S' a = some o
theorem SubH.refl (S : Hp) : SubH S S := fun _ _ h => h
theorem SubH.trans {A B C : Hp} (x : SubH A B) (y : SubH B C) : SubH A C := fun a o h => y a o (x a o h)
theorem SubH.sqT {K : PySem.W.Frag} {S S' : Hp} {a : Addr} {xs : List V} (e : SubH S S') (h : SqT K S a xs) : SqT K S' a xs := by
  rcases h with (h | ⟨o, h⟩) | h
  · exact .inl (.inl (e _ _ h))
  · exact .inl (.inr ⟨o, e _ _ h⟩)
  · exact .inr h
theorem SubH.sqL {K : PySem.W.Frag} {S S' : Hp} {a : Addr} {xs : List V} (e : SubH S S') (h : SqL K S a xs) : SqL K S' a xs := by
  rcases h with (h | ⟨o, h⟩) | h
  · exact .inl (.inl (e _ _ h))
  · exact .inl (.inr ⟨o, e _ _ h⟩)
  · exact .inr h
mutual
theorem Rep.sub {K : PySem.W.Frag} {S S' : Hp} (e : SubH S S') : ∀ {v : V} {d : PyData}, Rep K S v d → Rep K S' v d
  | _, _, .non => .non
  | _, _, .bl b => .bl b
  | _, _, .int i => .int i
  | _, _, .str x => .str x
  | _, _, .lst h r => .lst (e _ _ h) (RepL.sub e r)
  | _, _, .tup h r => .tup (e.sqT h) (RepL.sub e r)
  | _, _, .dK h r => .dK (e _ _ h) (RepK.sub e r)
  | _, _, .dT h r => .dT (e _ _ h) (RepT.sub e r)
theorem RepL.sub {K : PySem.W.Frag} {S S' : Hp} (e : SubH S S') : ∀ {v : List V} {d : List PyData}, RepL K S v d → RepL K S' v d
  | _, _, .nil => .nil
  | _, _, .cons h r => .cons (Rep.sub e h) (RepL.sub e r)
theorem RepK.sub {K : PySem.W.Frag} {S S' : Hp} (e : SubH S S') : ∀ {v : List (Key × V)} {d : List (PyData × PyData)}, RepK K S v d → RepK K S' v d
  | _, _, .nil => .nil
  | _, _, .cons h r => .cons (Rep.sub e h) (RepK.sub e r)
theorem RepT.sub {K : PySem.W.Frag} {S S' : Hp} (e : SubH S S') : ∀ {v : List (List Key × V)} {d : List (PyData × PyData)}, RepT K S v d → RepT K S' v d
  | _, _, .nil => .nil
  | _, _, .cons h r => .cons (Rep.sub e h) (RepT.sub e r)
end
theorem RepL.length {K : PySem.W.Frag} {S : Hp} : ∀ {v : List V} {d : List PyData}, RepL K S v d → v.length = d.length
  | _, _, .nil => rfl
  | _, _, .cons _ r => by rw [List.length_cons, List.length_cons, r.length]
theorem RepL.get {K : PySem.W.Frag} {S : Hp} : ∀ {vs : List V} {ds : List PyData} {i : Nat} {d : PyData}, RepL K S vs ds → ds[i]? = some d → ∃ v, vs[i]? = some v ∧ Rep K S v d
  | _, _, _, _, .nil, e => by simp at e
  | _, _, 0, _, .cons r _, e => by simp at e; subst e; exact ⟨_, rfl, r⟩
  | _, _, i + 1, _, .cons _ t, e => by
    obtain ⟨u, h1, h2⟩ := RepL.get (i := i) t (by simpa using e)
    exact ⟨u, by simpa using h1, h2⟩
theorem RepL.append {K : PySem.W.Frag} {S : Hp} : ∀ {xs ys : List V} {us ws : List PyData}, RepL K S xs us → RepL K S ys ws → RepL K S (xs ++ ys) (us ++ ws)
  | _, _, _, _, .nil, s => s
  | _, _, _, _, .cons r t, s => .cons r (RepL.append t s)
theorem RepL.take {K : PySem.W.Frag} {S : Hp} : ∀ {xs : List V} {us : List PyData} (n : Nat), RepL K S xs us → RepL K S (xs.take n) (us.take n)
  | _, _, 0, _ => .nil
  | _, _, _ + 1, .nil => .nil
  | _, _, n + 1, .cons r t => .cons r (RepL.take n t)
theorem RepL.drop {K : PySem.W.Frag} {S : Hp} : ∀ {xs : List V} {us : List PyData} (n : Nat), RepL K S xs us → RepL K S (xs.drop n) (us.drop n)
  | _, _, 0, r => r
  | _, _, _ + 1, .nil => .nil
  | _, _, n + 1, .cons _ t => RepL.drop n t
theorem RepL.reverse {K : PySem.W.Frag} {S : Hp} : ∀ {xs : List V} {us : List PyData}, RepL K S xs us → RepL K S xs.reverse us.reverse
  | _, _, .nil => .nil
  | _, _, .cons r t => by
    rw [List.reverse_cons, List.reverse_cons]
    exact t.reverse.append (.cons r .nil)
theorem RepL.rep {K : PySem.W.Frag} {S : Hp} {xs : List V} {us : List PyData} (h : RepL K S xs us) : ∀ k : Nat, RepL K S (List.replicate k xs).flatten (List.replicate k us).flatten
  | 0 => .nil
  | k + 1 => by
    rw [List.replicate_succ, List.replicate_succ, List.flatten_cons, List.flatten_cons]
    exact h.append (h.rep k)

mutual
theorem Rep.dp {K : PySem.W.Frag} {S : Hp} : ∀ {v : V} {d : PyData}, Rep K S v d → d.plain = true → Dp K S v d
  | _, _, .non, _ => .non
  | _, _, .bl b, _ => .bl b
  | _, _, .int i, _ => .int i
  | _, _, .str x, _ => .str x
  | _, _, .lst h r, p => .lst (SqL.of h) (RepL.dp r (by simpa [PyData.plain] using p))
  | _, _, .tup h r, p => .tup h (RepL.dp r (by simpa [PyData.plain] using p))
  | _, _, .dK h r, p => by simp [PyData.plain] at p
  | _, _, .dT h r, p => by simp [PyData.plain] at p
theorem RepL.dp {K : PySem.W.Frag} {S : Hp} : ∀ {v : List V} {d : List PyData}, RepL K S v d → PyData.plainAll d = true → DpAll K S v d
  | _, _, .nil, _ => .nil
  | _, _, .cons h r, p => by
    rw [PyData.plainAll, Bool.and_eq_true] at p
    exact .cons (Rep.dp h p.1) (RepL.dp r p.2)
end

/-! ### what stands in a slot, and the changeable objects -/
/-- a value: a datum; the changeable object number k; a tuple of such; a list that is read alone (the script); any value as it is -/
inductive W where
  | d (x : PyData) | o (k : Nat) | tp (ws : List W) | rl (xs : List PyData) | v (y : V) | exc (a d : Addr) (fs : List (Str × PyData)) | gl (x : Str)
inductive Ob where
  | lst (ws : List W) | dK (kvs : List (Key × W)) | dT (kvs : List (List Key × W)) | ins (C : Addr) (fs : List (Str × W)) | dead
/-- the fields of a caught exception -/
inductive RepF (K : PySem.W.Frag) (S : Hp) : List (Str × V) → List (Str × PyData) → Prop
  | nil : RepF K S [] []
  | cons {k : Str} {v : V} {vs : List (Str × V)} {x : PyData} {xs : List (Str × PyData)} : Rep K S v x → RepF K S vs xs → RepF K S ((k, v) :: vs) ((k, x) :: xs)
theorem RepF.sub {K : PySem.W.Frag} {S S' : Hp} (e : SubH S S') : ∀ {v : List (Str × V)} {x : List (Str × PyData)}, RepF K S v x → RepF K S' v x
  | _, _, .nil => .nil
  | _, _, .cons h r => .cons (h.sub e) (r.sub e)
theorem RepF.look {K : PySem.W.Frag} {S : Hp} {f : Str} {y : PyData} : ∀ {v : List (Str × V)} {x : List (Str × PyData)}, RepF K S v x → x.lookup f = some y → ∃ u, v.lookup f = some u ∧ Rep K S u y
  | _, _, .nil, h => by cases h
  | (k, v) :: vs, (_, x) :: xs, .cons r t, h => by
    rw [List.lookup_cons] at h ⊢
    split at h
    · rename_i e
      cases h
      exact ⟨v, rfl, r⟩
    · rename_i e
      exact RepF.look t h
/-- what stands under x in the module -/
def ClsN (K : PySem.W.Frag) (x : Str) (C : Addr) : Prop := PySem.W.nsIn K mainGlobals x = some (some (.ref C))
mutual
inductive RelW (K : PySem.W.Frag) (S : Hp) (ρ : Nat → Addr) (n : Nat) : V → W → Prop
  | d {v : V} {x : PyData} : Rep K S v x → RelW K S ρ n v (.d x)
  | o {k : Nat} {a : Addr} : k < n → a = ρ k → RelW K S ρ n (.ref a) (.o k)
  | tp {a : Addr} {vs : List V} {ws : List W} : S a = some (.tup vs) → RelWs K S ρ n vs ws → RelW K S ρ n (.ref a) (.tp ws)
  | rl {a : Addr} {vs : List V} {xs : List PyData} : SqL K S a vs → RepL K S vs xs → RelW K S ρ n (.ref a) (.rl xs)
  | v {y : V} : RelW K S ρ n y (.v y)
  | exc {a d : Addr} {vs : List (Str × V)} {fs : List (Str × PyData)} : S d = some (.xd vs) → RepF K S vs fs → RelW K S ρ n (.ref a) (.exc a d fs)
  | gl {x : Str} {f : Addr} : ClsN K x f → RelW K S ρ n (.ref f) (.gl x)
inductive RelWs (K : PySem.W.Frag) (S : Hp) (ρ : Nat → Addr) (n : Nat) : List V → List W → Prop
  | nil : RelWs K S ρ n [] []
  | cons {v : V} {vs : List V} {d : W} {ds : List W} : RelW K S ρ n v d → RelWs K S ρ n vs ds → RelWs K S ρ n (v :: vs) (d :: ds)
end
/-- pairs with any first part -/
inductive RelF {κ : Type} (K : PySem.W.Frag) (S : Hp) (ρ : Nat → Addr) (n : Nat) : List (κ × V) → List (κ × W) → Prop
  | nil : RelF K S ρ n [] []
  | cons {k : κ} {v : V} {vs : List (κ × V)} {w : W} {ws : List (κ × W)} : RelW K S ρ n v w → RelF K S ρ n vs ws → RelF K S ρ n ((k, v) :: vs) ((k, w) :: ws)
/-- the object numbered as ob stands at a -/
inductive ObR (K : PySem.W.Frag) (S : Hp) (ρ : Nat → Addr) (n : Nat) (H : Hp) (a : Addr) : Ob → Prop
  | lst {vs : List V} {ws : List W} : H a = some (.lst vs) → RelWs K S ρ n vs ws → ObR K S ρ n H a (.lst ws)
  | dK {kvs : List (Key × V)} {ws : List (Key × W)} : H a = some (.dK kvs) → RelF K S ρ n kvs ws → ObR K S ρ n H a (.dK ws)
  | dT {kvs : List (List Key × V)} {ws : List (List Key × W)} : H a = some (.dT kvs) → RelF K S ρ n kvs ws → ObR K S ρ n H a (.dT ws)
  | ins {C dx : Addr} {fs : List (Str × V)} {ws : List (Str × W)} : H a = some (.ins C dx fs) → RelF K S ρ n fs ws → ObR K S ρ n H a (.ins C ws)
  | dead : ObR K S ρ n H a .dead

section
variable {K : PySem.W.Frag} {S S' : Hp} {ρ ρ' : Nat → Addr} {n n' : Nat}
mutual
theorem RelW.mono (e : SubH S S') (r : ∀ k, k < n → ρ' k = ρ k) (l : n ≤ n') : ∀ {v : V} {w : W}, RelW K S ρ n v w → RelW K S' ρ' n' v w
  | _, _, .d h => .d (h.sub e)
  | _, _, .o h q => .o (Nat.lt_of_lt_of_le h l) (q.trans (r _ h).symm)
  | _, _, .tp h q => .tp (e _ _ h) (RelWs.mono e r l q)
  | _, _, .rl h q => .rl (e.sqL h) (q.sub e)
  | _, _, .v => .v
  | _, _, .exc h q => .exc (e _ _ h) (q.sub e)
  | _, _, .gl h => .gl h
theorem RelWs.mono (e : SubH S S') (r : ∀ k, k < n → ρ' k = ρ k) (l : n ≤ n') : ∀ {v : List V} {w : List W}, RelWs K S ρ n v w → RelWs K S' ρ' n' v w
  | _, _, .nil => .nil
  | _, _, .cons h q => .cons (RelW.mono e r l h) (RelWs.mono e r l q)
end
theorem RelF.mono {κ : Type} (e : SubH S S') (r : ∀ k, k < n → ρ' k = ρ k) (l : n ≤ n') : ∀ {v : List (κ × V)} {w : List (κ × W)}, RelF K S ρ n v w → RelF K S' ρ' n' v w
  | _, _, .nil => .nil
  | _, _, .cons h q => .cons (h.mono e r l) (RelF.mono e r l q)
theorem RelWs.length : ∀ {v : List V} {w : List W}, RelWs K S ρ n v w → v.length = w.length
  | _, _, .nil => rfl
  | _, _, .cons _ r => by rw [List.length_cons, List.length_cons, r.length]
theorem RelWs.get : ∀ {vs : List V} {ds : List W} {i : Nat} {d : W}, RelWs K S ρ n vs ds → ds[i]? = some d → ∃ v, vs[i]? = some v ∧ RelW K S ρ n v d
  | _, _, _, _, .nil, e => by simp at e
  | _, _, 0, _, .cons r _, e => by simp at e; subst e; exact ⟨_, rfl, r⟩
  | _, _, i + 1, _, .cons _ t, e => by
    obtain ⟨u, h1, h2⟩ := RelWs.get (i := i) t (by simpa using e)
    exact ⟨u, by simpa using h1, h2⟩
theorem RelWs.set {v : V} {w : W} (r : RelW K S ρ n v w) : ∀ {vs : List V} {ws : List W} (i : Nat), RelWs K S ρ n vs ws → RelWs K S ρ n (vs.set i v) (ws.set i w)
  | _, _, _, .nil => .nil
  | _, _, 0, .cons _ t => .cons r t
  | _, _, i + 1, .cons q t => .cons q (RelWs.set r i t)
theorem RelWs.append : ∀ {xs ys : List V} {us ws : List W}, RelWs K S ρ n xs us → RelWs K S ρ n ys ws → RelWs K S ρ n (xs ++ ys) (us ++ ws)
  | _, _, _, _, .nil, s => s
  | _, _, _, _, .cons r t, s => .cons r (RelWs.append t s)
theorem RelWs.take : ∀ {xs : List V} {us : List W} (m : Nat), RelWs K S ρ n xs us → RelWs K S ρ n (xs.take m) (us.take m)
  | _, _, 0, _ => .nil
  | _, _, _ + 1, .nil => .nil
  | _, _, m + 1, .cons r t => .cons r (RelWs.take m t)
theorem RelWs.drop : ∀ {xs : List V} {us : List W} (m : Nat), RelWs K S ρ n xs us → RelWs K S ρ n (xs.drop m) (us.drop m)
  | _, _, 0, r => r
  | _, _, _ + 1, .nil => .nil
  | _, _, m + 1, .cons _ t => RelWs.drop m t
theorem RelWs.reverse : ∀ {xs : List V} {us : List W}, RelWs K S ρ n xs us → RelWs K S ρ n xs.reverse us.reverse
  | _, _, .nil => .nil
  | _, _, .cons r t => by
    rw [List.reverse_cons, List.reverse_cons]
    exact t.reverse.append (.cons r .nil)
theorem RelWs.dropLast : ∀ {xs : List V} {us : List W}, RelWs K S ρ n xs us → RelWs K S ρ n xs.dropLast us.dropLast
  | _, _, .nil => .nil
  | _, _, .cons r .nil => .nil
  | _, _, .cons r (.cons q t) => .cons r (RelWs.dropLast (.cons q t))
theorem RelWs.rep {xs : List V} {us : List W} (h : RelWs K S ρ n xs us) : ∀ k : Nat, RelWs K S ρ n (List.replicate k xs).flatten (List.replicate k us).flatten
  | 0 => .nil
  | k + 1 => by
    rw [List.replicate_succ, List.replicate_succ, List.flatten_cons, List.flatten_cons]
    exact h.append (h.rep k)
theorem RepL.relWs : ∀ {vs : List V} {ds : List PyData}, RepL K S vs ds → RelWs K S ρ n vs (ds.map .d)
  | _, _, .nil => .nil
  | _, _, .cons h r => .cons (.d h) r.relWs
theorem RelWs.repL : ∀ {ds : List PyData} {vs : List V}, RelWs K S ρ n vs (ds.map .d) → RepL K S vs ds
  | [], _, h => by cases h; exact .nil
  | d :: ds, _, h => by
    cases h with
    | cons h r =>
      cases h with
      | d h => exact .cons h r.repL
theorem ObR.mono {H : Hp} {a : Addr} {ob : Ob} (e : SubH S S') (r : ∀ k, k < n → ρ' k = ρ k) (l : n ≤ n') (h : ObR K S ρ n H a ob) : ObR K S' ρ' n' H a ob := by
  cases h with
  | lst h q => exact .lst h (q.mono e r l)
  | dK h q => exact .dK h (q.mono e r l)
  | dT h q => exact .dT h (q.mono e r l)
  | ins h q => exact .ins h (q.mono e r l)
  | dead => exact .dead
theorem ObR.at {H H' : Hp} {a : Addr} {ob : Ob} (h : ObR K S ρ n H a ob) (e : ∀ o, H a = some o → H' a = some o) : ObR K S ρ n H' a ob := by
  cases h with
  | lst h q => exact .lst (e _ h) q
  | dK h q => exact .dK (e _ h) q
  | dT h q => exact .dT (e _ h) q
  | ins h q => exact .ins (e _ h) q
  | dead => exact .dead
end

/-! ### the world: S what is never written, ρ where the numbered objects stand -/
structure Wd (K : PySem.W.Frag) (S : Hp) (ρ : Nat → Addr) (O : List Ob) (H : Hp) : Prop where
  sub : SubH S H
  own : ∀ k ob, O[k]? = some ob → ObR K S ρ O.length H (ρ k) ob
  sep : ∀ k ob, O[k]? = some ob → ob ≠ .dead → S (ρ k) = none
  inj : ∀ j k a b, O[j]? = some a → O[k]? = some b → a ≠ .dead → b ≠ .dead → ρ j = ρ k → j = k
  th : ∀ k, k < O.length → ∃ o, H (ρ k) = some o
structure Ext (S : Hp) (ρ : Nat → Addr) (n : Nat) (H : Hp) (S' : Hp) (ρ' : Nat → Addr) (n' : Nat) (H' : Hp) : Prop where
  le : n ≤ n'
  sub : SubH S S'
  rho : ∀ k, k < n → ρ' k = ρ k
  new : ∀ k, n ≤ k → k < n' → H (ρ' k) = none
  dom : ∀ a o, H a = some o → ∃ o', H' a = some o'
  frame : ∀ a o, H a = some o → (∀ k, k < n → ρ k ≠ a) → H' a = some o
  sfr : ∀ a o, H a = some o → S a = none → (∀ k, k < n → ρ k ≠ a) → S' a = none
section
variable {K : PySem.W.Frag} {S S1 S2 : Hp} {ρ ρ1 ρ2 : Nat → Addr} {n n1 n2 : Nat} {H H1 H2 : Hp} {O O' : List Ob}
theorem Ext.refl : Ext S ρ n H S ρ n H := ⟨Nat.le_refl _, .refl _, fun _ _ => rfl, fun _ h1 h2 => absurd (Nat.lt_of_lt_of_le h2 h1) (Nat.lt_irrefl _), fun _ o h => ⟨o, h⟩, fun _ _ h _ => h, fun _ _ _ h _ => h⟩
theorem Ext.trans (x : Ext S ρ n H S1 ρ1 n1 H1) (y : Ext S1 ρ1 n1 H1 S2 ρ2 n2 H2) : Ext S ρ n H S2 ρ2 n2 H2 := by
  have ne : ∀ a o, H a = some o → (∀ k, k < n → ρ k ≠ a) → ∀ k, k < n1 → ρ1 k ≠ a := fun a o h hk k hk1 => by
    by_cases hn : k < n
    · rw [x.rho k hn]; exact hk k hn
    · intro z
      have q := x.new k (Nat.le_of_not_lt hn) hk1
      rw [z, h] at q; cases q
  refine ⟨Nat.le_trans x.le y.le, x.sub.trans y.sub, fun k h => (y.rho k (Nat.lt_of_lt_of_le h x.le)).trans (x.rho k h), fun k h1 h2 => ?_, fun a o h => ?_, fun a o h hk => ?_, fun a o h hs hk => ?_⟩
  · by_cases hk : k < n1
    · rw [y.rho k hk]; exact x.new k h1 hk
    · have q := y.new k (Nat.le_of_not_lt hk) h2
      cases e : H (ρ2 k) with
      | none => rfl
      | some o =>
        obtain ⟨o', e'⟩ := x.dom _ _ e
        rw [q] at e'; cases e'
  · obtain ⟨o', e⟩ := x.dom a o h
    exact y.dom a o' e
  · exact y.frame a o (x.frame a o h hk) (ne a o h hk)
  · exact y.sfr a o (x.frame a o h hk) (x.sfr a o h hs hk) (ne a o h hk)
theorem RelW.ext {v : V} {w : W} (h : RelW K S ρ n v w) (x : Ext S ρ n H S1 ρ1 n1 H1) : RelW K S1 ρ1 n1 v w := h.mono x.sub x.rho x.le
theorem RelWs.ext {v : List V} {w : List W} (h : RelWs K S ρ n v w) (x : Ext S ρ n H S1 ρ1 n1 H1) : RelWs K S1 ρ1 n1 v w := h.mono x.sub x.rho x.le
theorem Wd.lt {k : Nat} {ob : Ob} (h : O[k]? = some ob) : k < O.length := (List.getElem?_eq_some_iff.mp h).1
/-- a live object stands in H -/
theorem ObR.there {a : Addr} {ob : Ob} (h : ObR K S ρ n H a ob) (hd : ob ≠ .dead) : ∃ o, H a = some o := by
  cases h with
  | lst h _ => exact ⟨_, h⟩
  | dK h _ => exact ⟨_, h⟩
  | dT h _ => exact ⟨_, h⟩
  | ins h _ => exact ⟨_, h⟩
  | dead => exact absurd rfl hd
/-- a new object that is never written -/
theorem Wd.lay {p : Addr} {u : HO} (wd : Wd K S ρ O H) (np : H p = none) : Wd K (upd S p u) ρ O (upd H p u) ∧ Ext S ρ O.length H (upd S p u) ρ O.length (upd H p u) := by
  have nS : S p = none := by
    cases e : S p with
    | none => rfl
    | some o => rw [wd.sub p o e] at np; cases np
  have sS : SubH S (upd S p u) := fun a o h => by
    rw [upd_ne (fun z => by rw [z, nS] at h; cases h)]; exact h
  have nep : ∀ a o, H a = some o → a ≠ p := fun a o h z => by rw [z, np] at h; cases h
  refine ⟨⟨fun a o h => ?_, fun k ob h => ?_, fun k ob h hd => ?_, wd.inj, fun k hk => let ⟨o, h⟩ := wd.th k hk; ⟨o, by rw [upd_ne (nep _ o h)]; exact h⟩⟩, Nat.le_refl _, sS, fun _ _ => rfl, fun _ h1 h2 => absurd (Nat.lt_of_lt_of_le h2 h1) (Nat.lt_irrefl _), fun a o h => ⟨o, by rw [upd_ne (nep a o h)]; exact h⟩, fun a o h _ => by rw [upd_ne (nep a o h)]; exact h, fun a o h hs _ => by rw [upd_ne (nep a o h)]; exact hs⟩
  · by_cases z : a = p
    · subst z; rw [upd_same] at h ⊢; exact h
    · rw [upd_ne z] at h ⊢; exact wd.sub a o h
  · exact ((wd.own k ob h).mono sS (fun _ _ => rfl) (Nat.le_refl _)).at fun o q => by rw [upd_ne (nep _ o q)]; exact q
  · obtain ⟨o, q⟩ := (wd.own k ob h).there hd
    rw [upd_ne (nep _ o q)]; exact wd.sep k ob h hd
/-- a new object that may be changed -/
def rhoP (ρ : Nat → Addr) (n : Nat) (p : Addr) : Nat → Addr := fun k => if k = n then p else ρ k
theorem rhoP_lt {k : Nat} {p : Addr} (h : k < n) : rhoP ρ n p k = ρ k := if_neg (Nat.ne_of_lt h)
theorem rhoP_eq {p : Addr} : rhoP ρ n p n = p := if_pos rfl
theorem Wd.push {p : Addr} {u : HO} {ob : Ob} (wd : Wd K S ρ O H) (np : H p = none) (hb : ObR K S ρ O.length (upd H p u) p ob) :
    Wd K S (rhoP ρ O.length p) (O ++ [ob]) (upd H p u) ∧ Ext S ρ O.length H S (rhoP ρ O.length p) (O ++ [ob]).length (upd H p u) := by
  have nS : S p = none := by
    cases e : S p with
    | none => rfl
    | some o => rw [wd.sub p o e] at np; cases np
  have nep : ∀ a o, H a = some o → a ≠ p := fun a o h z => by rw [z, np] at h; cases h
  have len : (O ++ [ob]).length = O.length + 1 := by simp
  have rr : ∀ k, k < O.length → rhoP ρ O.length p k = ρ k := fun k h => rhoP_lt h
  have cs : ∀ k o, (O ++ [ob])[k]? = some o → (k < O.length ∧ O[k]? = some o) ∨ (k = O.length ∧ o = ob) := fun k o h => by
    by_cases hk : k < O.length
    · rw [List.getElem?_append_left hk] at h; exact .inl ⟨hk, h⟩
    · have hk' : O.length ≤ k := Nat.le_of_not_lt hk
      rw [List.getElem?_append_right hk'] at h
      by_cases e : k = O.length
      · subst e; simp at h; exact .inr ⟨rfl, h.symm⟩
      · have : k - O.length ≠ 0 := by omega
        obtain ⟨m, hm⟩ := Nat.exists_eq_succ_of_ne_zero this
        rw [hm] at h; simp at h
  refine ⟨⟨fun a o h => ?_, fun k o h => ?_, fun k o h hd => ?_, fun j k a b h1 h2 d1 d2 e => ?_, fun k hk => ?_⟩, by omega, .refl _, rr, fun k h1 h2 => ?_, fun a o h => ⟨o, by rw [upd_ne (nep a o h)]; exact h⟩, fun a o h _ => by rw [upd_ne (nep a o h)]; exact h, fun a o h hs _ => hs⟩
  · have q := wd.sub a o h
    rw [upd_ne (nep a o q)]; exact q
  · rcases cs k o h with ⟨hk, h⟩ | ⟨rfl, rfl⟩
    · rw [rr k hk]
      exact ((wd.own k o h).mono (.refl _) rr (by omega)).at fun u q => by rw [upd_ne (nep _ u q)]; exact q
    · rw [rhoP_eq]
      exact hb.mono (.refl _) rr (by omega)
  · rcases cs k o h with ⟨hk, h⟩ | ⟨rfl, rfl⟩
    · rw [rr k hk]; exact wd.sep k o h hd
    · rw [rhoP_eq]; exact nS
  · rcases cs j a h1 with ⟨hj, g1⟩ | ⟨ej, ea⟩ <;> rcases cs k b h2 with ⟨hk, g2⟩ | ⟨ek, eb⟩
    · rw [rr j hj, rr k hk] at e; exact wd.inj j k a b g1 g2 d1 d2 e
    · rw [rr j hj, ek, rhoP_eq] at e
      obtain ⟨u, q⟩ := (wd.own j a g1).there d1
      exact absurd e (nep _ u q)
    · rw [rr k hk, ej, rhoP_eq] at e
      obtain ⟨u, q⟩ := (wd.own k b g2).there d2
      exact absurd e.symm (nep _ u q)
    · rw [ej, ek]
  · by_cases hk' : k < O.length
    · obtain ⟨o, h⟩ := wd.th k hk'
      exact ⟨o, by rw [rr k hk', upd_ne (nep _ o h)]; exact h⟩
    · have e : k = O.length := by omega
      subst e
      exact ⟨u, by rw [rhoP_eq]; exact upd_same⟩
  · have e : k = O.length := by omega
    subst e; rw [rhoP_eq]; exact np
/-- a changeable object is changed -/
theorem Wd.write {k : Nat} {u : HO} {ob ob' : Ob} (wd : Wd K S ρ O H) (hk : O[k]? = some ob) (hd : ob ≠ .dead) (hb : ObR K S ρ O.length (upd H (ρ k) u) (ρ k) ob') :
    Wd K S ρ (O.set k ob') (upd H (ρ k) u) ∧ Ext S ρ O.length H S ρ (O.set k ob').length (upd H (ρ k) u) := by
  have len : (O.set k ob').length = O.length := by simp
  have hlt := Wd.lt hk
  have nS := wd.sep k ob hk hd
  have cs : ∀ j o, (O.set k ob')[j]? = some o → (j ≠ k ∧ O[j]? = some o) ∨ (j = k ∧ o = ob') := fun j o h => by
    by_cases e : j = k
    · subst e; rw [List.getElem?_set_self hlt] at h; exact .inr ⟨rfl, (Option.some.inj h).symm⟩
    · rw [List.getElem?_set_ne (Ne.symm e)] at h; exact .inl ⟨e, h⟩
  have dm : ∀ a o, H a = some o → ∃ o', upd H (ρ k) u a = some o' := fun a o h => by
    by_cases z : a = ρ k
    · subst z; exact ⟨u, upd_same⟩
    · exact ⟨o, by rw [upd_ne z]; exact h⟩
  refine ⟨⟨fun a o h => ?_, fun j o h => ?_, fun j o h hd' => ?_, fun i j a b h1 h2 d1 d2 e => ?_, fun j hj => let ⟨o, h⟩ := wd.th j (by omega); dm _ o h⟩, by omega, .refl _, fun _ _ => rfl, fun j h1 h2 => absurd (Nat.lt_of_lt_of_le h2 (by omega)) (Nat.not_lt_of_le h1), fun a o h => ?_, fun a o h hne => ?_, fun a o h hs _ => hs⟩
  · rw [upd_ne (fun z => by rw [z, nS] at h; cases h)]; exact wd.sub a o h
  · rcases cs j o h with ⟨hj, h⟩ | ⟨rfl, rfl⟩
    · rw [len]
      cases o with
      | dead => exact .dead
      | _ => exact (wd.own j _ h).at fun u q => by rw [upd_ne (fun z => hj (wd.inj j k _ ob h hk (by simp) hd z))]; exact q
    · rw [len]; exact hb
  · rcases cs j o h with ⟨hj, h⟩ | ⟨rfl, rfl⟩
    · exact wd.sep j o h hd'
    · exact nS
  · rcases cs i a h1 with ⟨hi, g1⟩ | ⟨ei, ea⟩ <;> rcases cs j b h2 with ⟨hj, g2⟩ | ⟨ej, eb⟩
    · exact wd.inj i j a b g1 g2 d1 d2 e
    · rw [ej] at e ⊢; exact wd.inj i k a ob g1 hk d1 hd e
    · rw [ei] at e ⊢; exact wd.inj k j ob b hk g2 hd d2 e
    · rw [ei, ej]
  · by_cases z : a = ρ k
    · subst z; exact ⟨u, upd_same⟩
    · exact ⟨o, by rw [upd_ne z]; exact h⟩
  · rw [upd_ne (Ne.symm (hne k hlt))]; exact h
end
end UZ
/-! UZ, part B: readings over data; expressions. -/
namespace UZ
open PySem PySem.Spec PyProof.Rows L2

abbrev Gm := List (Option W)
/-- an exception: of the class at C, without fields of its own, or with them -/
inductive Xc where
  | plain (x : Str) | fld (x : Str) (fs : List (Str × PyData))
def RelS (K : PySem.W.Frag) (S : Hp) (ρ : Nat → Addr) (n : Nat) (σ : L2.St) (Γ : Gm) : Prop :=
  σ.length = Γ.length ∧ ∀ (i : Nat) (w : W), Γ[i]? = some (some w) → ∃ v, σ[i]? = some (some v) ∧ RelW K S ρ n v w
inductive RelX (K : PySem.W.Frag) (S : Hp) (ρ : Nat → Addr) (n : Nat) (H : Hp) : Value → Option Addr → Xc → Prop
  | plain {C : Addr} {x : Str} : ClsN K x C → RelX K S ρ n H (.ref C) none (.plain x)
  | fld {C a : Addr} {x : Str} {vs : List (Str × V)} {ws : List (Str × PyData)} : ClsN K x C → S a = some (.xd vs) → RepF K S vs ws → RelX K S ρ n H (.ref C) (some a) (.fld x ws)
abbrev DQ := W → List Ob → Prop
abbrev DX := Xc → List Ob → Prop
abbrev DE := Gm → List Ob → DQ → DX → Prop
abbrev DA := Gm → List Ob → (List W → List Ob → Prop) → DX → Prop
abbrev DT := Gm → List Ob → (Bool → List Ob → Prop) → DX → Prop
section
variable (K : PySem.W.Frag) (S : Hp) (ρ : Nat → Addr) (n : Nat) (H : Hp)
def KE (Q' : DQ) (Q : VK) : Prop := ∀ w O' S' ρ' v H', Ext S ρ n H S' ρ' O'.length H' → Wd K S' ρ' O' H' → RelW K S' ρ' O'.length v w → Q' w O' → Q v H'
def KT (Q' : Bool → List Ob → Prop) (Q : Bool → Hp → Prop) : Prop := ∀ b O' S' ρ' H', Ext S ρ n H S' ρ' O'.length H' → Wd K S' ρ' O' H' → Q' b O' → Q b H'
def KA (Q' : List W → List Ob → Prop) (Q : List V → Hp → Prop) : Prop := ∀ ws O' S' ρ' vs H', Ext S ρ n H S' ρ' O'.length H' → Wd K S' ρ' O' H' → RelWs K S' ρ' O'.length vs ws → Q' ws O' → Q vs H'
def KX (σ : L2.St) (E' : DX) (Wx : WX) : Prop := ∀ x O' S' ρ' cls dd H', Ext S ρ n H S' ρ' O'.length H' → Wd K S' ρ' O' H' → RelX K S' ρ' O'.length H' cls dd x → E' x O' → Wx cls dd σ H'
/-- the state over data -/
structure At (O : List Ob) (σ : L2.St) (Γ : Gm) : Prop where
  wd : Wd K S ρ O H
  rs : RelS K S ρ O.length σ Γ
end
section
variable {K : PySem.W.Frag} {S S1 : Hp} {ρ ρ1 : Nat → Addr} {n n1 : Nat} {H H1 : Hp} {O O1 : List Ob} {σ : L2.St} {Γ : Gm} {Wx : WX}
theorem RelS.ext (h : RelS K S ρ n σ Γ) (x : Ext S ρ n H S1 ρ1 n1 H1) : RelS K S1 ρ1 n1 σ Γ := ⟨h.1, fun i w e => let ⟨v, q, r⟩ := h.2 i w e; ⟨v, q, r.ext x⟩⟩
theorem At.ext (h : At K S ρ H O σ Γ) (x : Ext S ρ O.length H S1 ρ1 O1.length H1) (wd : Wd K S1 ρ1 O1 H1) : At K S1 ρ1 H1 O1 σ Γ := ⟨wd, h.rs.ext x⟩
theorem KE.ext {Q' : DQ} {Q : VK} (k : KE K S ρ n H Q' Q) (x : Ext S ρ n H S1 ρ1 n1 H1) : KE K S1 ρ1 n1 H1 Q' Q := fun w O' S' ρ' v H' y => k w O' S' ρ' v H' (x.trans y)
theorem KT.ext {Q' : Bool → List Ob → Prop} {Q : Bool → Hp → Prop} (k : KT K S ρ n H Q' Q) (x : Ext S ρ n H S1 ρ1 n1 H1) : KT K S1 ρ1 n1 H1 Q' Q := fun w O' S' ρ' H' y => k w O' S' ρ' H' (x.trans y)
theorem KA.ext {Q' : List W → List Ob → Prop} {Q : List V → Hp → Prop} (k : KA K S ρ n H Q' Q) (x : Ext S ρ n H S1 ρ1 n1 H1) : KA K S1 ρ1 n1 H1 Q' Q := fun w O' S' ρ' v H' y => k w O' S' ρ' v H' (x.trans y)
theorem KX.ext {E' : DX} (k : KX K S ρ n H σ E' Wx) (x : Ext S ρ n H S1 ρ1 n1 H1) : KX K S1 ρ1 n1 H1 σ E' Wx := fun e O' S' ρ' c d H' y => k e O' S' ρ' c d H' (x.trans y)
end
def iE (K : PySem.W.Frag) (Wx : WX) (t : DE) : TE := fun σ H Q => ∃ Γ O S ρ Q' E', At K S ρ H O σ Γ ∧ t Γ O Q' E' ∧ KE K S ρ O.length H Q' Q ∧ KX K S ρ O.length H σ E' Wx
def iT (K : PySem.W.Frag) (Wx : WX) (t : DT) : TT := fun σ H Q => ∃ Γ O S ρ Q' E', At K S ρ H O σ Γ ∧ t Γ O Q' E' ∧ KT K S ρ O.length H Q' Q ∧ KX K S ρ O.length H σ E' Wx
def iA (K : PySem.W.Frag) (Wx : WX) (t : DA) : TA := fun σ H Q => ∃ Γ O S ρ Q' E', At K S ρ H O σ Γ ∧ t Γ O Q' E' ∧ KA K S ρ O.length H Q' Q ∧ KX K S ρ O.length H σ E' Wx
abbrev PDE (X : Cx) (Wx : WX) (e : Expr) (t : DE) : Prop := PE X e (iE X.K Wx t)
abbrev PDT (X : Cx) (Wx : WX) (e : Expr) (t : DT) : Prop := PT X e (iT X.K Wx t)
abbrev PDW (X : Cx) (Wx : WX) (e : Expr) (t : DT) : Prop := PW X e (iT X.K Wx t)
abbrev PDA (X : Cx) (Wx : WX) (es : List Expr) (t : DA) : Prop := PA X es (iA X.K Wx t)

theorem _root_.L2.PE.imp {X : Cx} {e : Expr} {t t' : TE} (h : PE X e t) (i : ∀ σ H Q, t' σ H Q → t σ H Q) : PE X e t' := ⟨fun pins s σ H Q I q => h.run pins s σ H Q I (i σ H Q q)⟩
theorem _root_.L2.PT.imp {X : Cx} {e : Expr} {t t' : TT} (h : PT X e t) (i : ∀ σ H Q, t' σ H Q → t σ H Q) : PT X e t' := ⟨fun pins s σ H Q I q => h.run pins s σ H Q I (i σ H Q q)⟩
theorem _root_.L2.PW.imp {X : Cx} {e : Expr} {t t' : TT} (h : PW X e t) (i : ∀ σ H Q, t' σ H Q → t σ H Q) : PW X e t' := ⟨fun wh pins s σ H Q I q => h.run wh pins s σ H Q I (i σ H Q q)⟩
theorem _root_.L2.PA.imp {X : Cx} {e : List Expr} {t t' : TA} (h : PA X e t) (i : ∀ σ H Q, t' σ H Q → t σ H Q) : PA X e t' := ⟨fun pos pins s σ H Q I q => h.run pos pins s σ H Q I (i σ H Q q)⟩

/-! ### names, constants -/
def dV (i : Nat) : DE := fun Γ O Q _ => match Γ[i]? with
  | some (some w) => Q w O
  | _ => False
def dC (x : PyData) : DE := fun _ O Q _ => Q (.d x) O
def dCw (w : W) : DE := fun _ O Q _ => Q w O
section
variable {X : Cx} {Wx : WX} {e a b : Expr} {pos : Pos}
theorem d_v (i : Nat) {x : Str} (hN : X.N[i]? = some x := by rfl) (hv : Vis X.env.scope x := by first | exact Or.inl rfl | exact Or.inr (Or.inl rfl) | exact Or.inr (Or.inr rfl)) (hd : (x == ("__debug__" : Str)) = false := by decide)
    (hcd : (x == ("__classdict__" : Str)) = false := by decide) : PDE X Wx (.Name x pos) (dV i) :=
  (pe_var hN hv hd hcd).imp fun σ H Q ⟨Γ, O, S, ρ, Q', E', st, h, kq, _⟩ => by
    unfold dV at h
    split at h
    · rename_i w e
      obtain ⟨v, e1, r⟩ := st.rs.2 i w e
      exact ⟨v, e1, kq w O S ρ v H .refl st.wd r h⟩
    · exact h.elim
theorem d_c {v : V} {x : PyData} (h : PE X e (tC v)) (hr : ∀ S, Rep X.K S v x) : PDE X Wx e (dC x) :=
  h.imp fun σ H Q ⟨Γ, O, S, ρ, Q', E', st, h, kq, _⟩ => kq _ O S ρ v H .refl st.wd (.d (hr S)) h
theorem d_int {i : Int} {j} : PDE X Wx (.Constant (.int i) j pos) (dC (.int i)) := d_c pe_int fun _ => .int i
theorem d_bl {i : Bool} {j} : PDE X Wx (.Constant (.bool i) j pos) (dC (.bool i)) := d_c pe_bl fun _ => .bl i
theorem d_str {i : Str} {j} : PDE X Wx (.Constant (.str i) j pos) (dC (.str i)) := d_c pe_str fun _ => .str i
theorem d_non {j} : PDE X Wx (.Constant .none j pos) (dC .none) := d_c pe_non fun _ => .non

/-! ### operators -/
abbrev F2 := W → W → List Ob → DQ → Prop
def rD (K : PySem.W.Frag) (f : F2) : R2 := fun x y H Q => ∃ wx wy O S ρ Q', Wd K S ρ O H ∧ RelW K S ρ O.length x wx ∧ RelW K S ρ O.length y wy ∧ f wx wy O Q' ∧ KE K S ρ O.length H Q' Q
def OpD (X : Cx) (g : Value → Value → Sem Value) (f : F2) : Prop := OpR X g (rD X.K f)
theorem _root_.L2.OpR.imp {g : Value → Value → Sem Value} {r r' : R2} (h : OpR X g r) (i : ∀ x y H Q, r' x y H Q → r x y H Q) : OpR X g r' := fun pins s σ H x y v u Q I r1 r2 q => h pins s σ H x y v u Q I r1 r2 (i x y H Q q)
def dOp (f : F2) (ta tb : DE) : DE := fun Γ O Q E => ta Γ O (fun x O1 => tb Γ O1 (fun y O2 => f x y O2 Q) E) E
theorem op_read {f : F2} {ta tb : DE} {σ : L2.St} {H : Hp} {Q : VK} (q : iE X.K Wx (dOp f ta tb) σ H Q) : tOp (rD X.K f) (iE X.K Wx ta) (iE X.K Wx tb) σ H Q := by
  obtain ⟨Γ, O, S, ρ, Q', E', st, h, kq, kx⟩ := q
  refine ⟨Γ, O, S, ρ, _, E', st, h, fun w1 O1 S1 ρ1 v1 H1 x1 wd1 r1 h1 => ?_, kx⟩
  refine ⟨Γ, O1, S1, ρ1, _, E', st.ext x1 wd1, h1, fun w2 O2 S2 ρ2 v2 H2 x2 wd2 r2 h2 => ?_, kx.ext x1⟩
  exact ⟨w1, w2, O2, S2, ρ2, Q', wd2, r1.ext x2, r2, h2, kq.ext (x1.trans x2)⟩
theorem d_op {op : Operator} {f : F2} {ta tb : DE} (ho : OpD X (binaryOp op) f) (ha : PDE X Wx a ta) (hb : PDE X Wx b tb) : PDE X Wx (.BinOp a op b pos) (dOp f ta tb) := (pe_op ho ha hb).imp fun _ _ _ q => op_read q
theorem d_cmp {op : CmpOp} {f : F2} {ta tb : DE} (ho : OpD X (compareOp op) f) (ha : PDE X Wx a ta) (hb : PDE X Wx b tb) (hm : behindInMarks op b = false := by first | exact nomark _ | rfl) : PDE X Wx (.Compare a [op] [b] pos) (dOp f ta tb) := (pe_cmpR ho ha hb hm).imp fun _ _ _ q => op_read q
abbrev F1 := W → List Ob → DQ → Prop
def rU1 (K : PySem.W.Frag) (f : F1) : V → Hp → VK → Prop := fun x H Q => ∃ wx O S ρ Q', Wd K S ρ O H ∧ RelW K S ρ O.length x wx ∧ f wx O Q' ∧ KE K S ρ O.length H Q' Q
def dUn (f : F1) (ta : DE) : DE := fun Γ O Q E => ta Γ O (fun x O1 => f x O1 Q) E
def UnD (X : Cx) (g : Value → Sem Value) (f : F1) : Prop := UnR X g (rU1 X.K f)
theorem _root_.L2.UnR.imp {g : Value → Sem Value} {r r' : V → Hp → VK → Prop} (h : UnR X g r) (i : ∀ x H Q, r' x H Q → r x H Q) : UnR X g r' := fun pins s σ H x v Q I r1 q => h pins s σ H x v Q I r1 (i x H Q q)
theorem d_un {op : UnaryOp} {f : F1} {ta : DE} (ho : UnD X (unaryOp op) f) (ha : PDE X Wx a ta) : PDE X Wx (.UnaryOp op a pos) (dUn f ta) :=
  (pe_un ho ha).imp fun σ H Q ⟨Γ, O, S, ρ, Q', E', st, h, kq, kx⟩ => ⟨Γ, O, S, ρ, _, E', st, h, fun w1 O1 S1 ρ1 v1 H1 x1 wd1 r1 h1 => ⟨w1, O1, S1, ρ1, Q', wd1, r1, h1, kq.ext x1⟩, kx⟩

/-! ### tests -/
def onB (Q : Bool → List Ob → Prop) : DQ := fun w O => match w with
  | .d (.bool b) => Q b O
  | _ => False
def dTst (t : DE) : DT := fun Γ O Q E => t Γ O (onB Q) E
theorem onB_inv {K : PySem.W.Frag} {S : Hp} {ρ : Nat → Addr} {n : Nat} {Q : Bool → List Ob → Prop} {w : W} {O : List Ob} {v : V} (h : onB Q w O) (r : RelW K S ρ n v w) : ∃ b, w = .d (.bool b) ∧ v = .bl b ∧ Q b O := by
  unfold onB at h
  split at h
  · cases r with
    | d r => cases r; exact ⟨_, rfl, rfl, h⟩
  · exact h.elim
theorem tst_read {t : DE} {σ : L2.St} {H : Hp} {Q : Bool → Hp → Prop} (q : iT X.K Wx (dTst t) σ H Q) : tB (iE X.K Wx t) σ H Q := by
  obtain ⟨Γ, O, S, ρ, Q', E', st, h, kq, kx⟩ := q
  refine ⟨Γ, O, S, ρ, _, E', st, h, fun w1 O1 S1 ρ1 v1 H1 x1 wd1 r1 h1 => ?_, kx⟩
  obtain ⟨b, rfl, rfl, h1⟩ := onB_inv h1 r1
  exact ⟨b, rfl, kq b O1 S1 ρ1 H1 x1 wd1 h1⟩
theorem d_tst {t : DE} (h : PDE X Wx e t) (he : ∀ whole, isTrue e X.env whole = (do let v ← whole; standAt e.pos; holding [v] (truthy v)) := by intro _; rfl) : PDT X Wx e (dTst t) := (pt_val h he).imp fun _ _ _ q => tst_read q
theorem d_tcmp {op : CmpOp} {f : F2} {ta tb : DE} (ho : OpD X (compareOp op) f) (ha : PDE X Wx a ta) (hb : PDE X Wx b tb) (hm : behindInMarks op b = false := by first | exact nomark _ | rfl) : PDT X Wx (.Compare a [op] [b] pos) (dTst (dOp f ta tb)) :=
  (pt_cmpR ho ha hb hm).imp fun σ H Q ⟨Γ, O, S, ρ, Q', E', st, h, kq, kx⟩ => op_read (Wx := Wx) ⟨Γ, O, S, ρ, _, E', st, h, fun w1 O1 S1 ρ1 v1 H1 x1 wd1 r1 h1 => by
    obtain ⟨b, rfl, rfl, h1⟩ := onB_inv h1 r1
    exact ⟨b, rfl, kq b O1 S1 ρ1 H1 x1 wd1 h1⟩, kx⟩
def dNotT (t : DT) : DT := fun Γ O Q E => t Γ O (fun b O1 => Q (!b) O1) E
theorem d_not {t : DT} (h : PDT X Wx a t) : PDT X Wx (.UnaryOp .Not a pos) (dNotT t) :=
  (pt_not h).imp fun σ H Q ⟨Γ, O, S, ρ, Q', E', st, h, kq, kx⟩ => ⟨Γ, O, S, ρ, _, E', st, h, fun b O1 S1 ρ1 H1 x1 wd1 h1 => kq _ O1 S1 ρ1 H1 x1 wd1 h1, kx⟩
def dAndT (t u : DT) : DT := fun Γ O Q E => t Γ O (fun b O1 => if b = true then u Γ O1 Q E else Q false O1) E
def dOrT (t u : DT) : DT := fun Γ O Q E => t Γ O (fun b O1 => if b = true then Q true O1 else u Γ O1 Q E) E
variable {rest : List Expr}
theorem d_and1 {t : DT} (h : PDT X Wx a t) : PDW X Wx (.BoolOp .And [a] pos) t := pw_and1 h
theorem d_or1 {t : DT} (h : PDT X Wx a t) : PDW X Wx (.BoolOp .Or [a] pos) t := pw_or1 h
theorem d_and {t u : DT} (ha : PDT X Wx a t) (hb : PDW X Wx (.BoolOp .And (b :: rest) pos) u) : PDW X Wx (.BoolOp .And (a :: b :: rest) pos) (dAndT t u) :=
  L2.PW.imp (pw_and ha hb) fun σ H Q ⟨Γ, O, S, ρ, Q', E', st, h, kq, kx⟩ => ⟨Γ, O, S, ρ, _, E', st, h, fun b O1 S1 ρ1 H1 x1 wd1 h1 => by
    cases b with
    | false => rw [if_neg (by decide)] at h1 ⊢; exact kq _ O1 S1 ρ1 H1 x1 wd1 h1
    | true => rw [if_pos rfl] at h1 ⊢; exact ⟨Γ, O1, S1, ρ1, Q', E', st.ext x1 wd1, h1, kq.ext x1, kx.ext x1⟩, kx⟩
theorem d_or {t u : DT} (ha : PDT X Wx a t) (hb : PDW X Wx (.BoolOp .Or (b :: rest) pos) u) : PDW X Wx (.BoolOp .Or (a :: b :: rest) pos) (dOrT t u) :=
  L2.PW.imp (pw_or ha hb) fun σ H Q ⟨Γ, O, S, ρ, Q', E', st, h, kq, kx⟩ => ⟨Γ, O, S, ρ, _, E', st, h, fun b O1 S1 ρ1 H1 x1 wd1 h1 => by
    cases b with
    | true => rw [if_pos rfl] at h1 ⊢; exact kq _ O1 S1 ρ1 H1 x1 wd1 h1
    | false => rw [if_neg (by decide)] at h1 ⊢; exact ⟨Γ, O1, S1, ρ1, Q', E', st.ext x1 wd1, h1, kq.ext x1, kx.ext x1⟩, kx⟩
theorem d_w {t : DT} (h : PDW X Wx e t) : PDT X Wx e t := PW.pt h
/-- and, or, not as values (truth values alone) -/
def dAndV (ta tb : DE) : DE := fun Γ O Q E => ta Γ O (onB fun b O1 => if b = true then tb Γ O1 Q E else Q (.d (.bool false)) O1) E
def dOrV (ta tb : DE) : DE := fun Γ O Q E => ta Γ O (onB fun b O1 => if b = true then Q (.d (.bool true)) O1 else tb Γ O1 Q E) E
def dNotV (ta : DE) : DE := fun Γ O Q E => ta Γ O (onB fun b O1 => Q (.d (.bool !b)) O1) E
theorem d_oneV {op} {t : DE} (h : PDE X Wx a t) : PDE X Wx (.BoolOp op [a] pos) t := pe_one h
theorem d_andV {ta tb : DE} (ha : PDE X Wx a ta) (hb : PDE X Wx (.BoolOp .And (b :: rest) pos) tb) : PDE X Wx (.BoolOp .And (a :: b :: rest) pos) (dAndV ta tb) :=
  (pe_and ha hb).imp fun σ H Q ⟨Γ, O, S, ρ, Q', E', st, h, kq, kx⟩ => ⟨Γ, O, S, ρ, _, E', st, h, fun w1 O1 S1 ρ1 v1 H1 x1 wd1 r1 h1 => by
    obtain ⟨b, rfl, rfl, h1⟩ := onB_inv h1 r1
    refine ⟨b, rfl, ?_⟩
    cases b with
    | false => rw [if_neg (by decide)] at h1 ⊢; exact kq _ O1 S1 ρ1 _ H1 x1 wd1 (.d (.bl false)) h1
    | true => rw [if_pos rfl] at h1 ⊢; exact ⟨Γ, O1, S1, ρ1, Q', E', st.ext x1 wd1, h1, kq.ext x1, kx.ext x1⟩, kx⟩
theorem d_orV {ta tb : DE} (ha : PDE X Wx a ta) (hb : PDE X Wx (.BoolOp .Or (b :: rest) pos) tb) : PDE X Wx (.BoolOp .Or (a :: b :: rest) pos) (dOrV ta tb) :=
  (pe_or ha hb).imp fun σ H Q ⟨Γ, O, S, ρ, Q', E', st, h, kq, kx⟩ => ⟨Γ, O, S, ρ, _, E', st, h, fun w1 O1 S1 ρ1 v1 H1 x1 wd1 r1 h1 => by
    obtain ⟨b, rfl, rfl, h1⟩ := onB_inv h1 r1
    refine ⟨b, rfl, ?_⟩
    cases b with
    | true => rw [if_pos rfl] at h1 ⊢; exact kq _ O1 S1 ρ1 _ H1 x1 wd1 (.d (.bl true)) h1
    | false => rw [if_neg (by decide)] at h1 ⊢; exact ⟨Γ, O1, S1, ρ1, Q', E', st.ext x1 wd1, h1, kq.ext x1, kx.ext x1⟩, kx⟩
theorem d_notV {ta : DE} (ha : PDE X Wx a ta) : PDE X Wx (.UnaryOp .Not a pos) (dNotV ta) :=
  (pe_not ha).imp fun σ H Q ⟨Γ, O, S, ρ, Q', E', st, h, kq, kx⟩ => ⟨Γ, O, S, ρ, _, E', st, h, fun w1 O1 S1 ρ1 v1 H1 x1 wd1 r1 h1 => by
    obtain ⟨b, rfl, rfl, h1⟩ := onB_inv h1 r1
    exact ⟨b, rfl, kq _ O1 S1 ρ1 _ H1 x1 wd1 (.d (.bl _)) h1⟩, kx⟩
def dIfE (t : DT) (ta tb : DE) : DE := fun Γ O Q E => t Γ O (fun b O1 => if b = true then ta Γ O1 Q E else tb Γ O1 Q E) E
theorem d_ifE {c : Expr} {t : DT} {ta tb : DE} (hc : PDT X Wx c t) (ha : PDE X Wx a ta) (hb : PDE X Wx b tb) : PDE X Wx (.IfExp c a b pos) (dIfE t ta tb) :=
  (pe_ifExp hc ha hb).imp fun σ H Q ⟨Γ, O, S, ρ, Q', E', st, h, kq, kx⟩ => ⟨Γ, O, S, ρ, _, E', st, h, fun b O1 S1 ρ1 H1 x1 wd1 h1 => by
    cases b with
    | true => rw [if_pos rfl] at h1 ⊢; exact ⟨Γ, O1, S1, ρ1, Q', E', st.ext x1 wd1, h1, kq.ext x1, kx.ext x1⟩
    | false => rw [if_neg (by decide)] at h1 ⊢; exact ⟨Γ, O1, S1, ρ1, Q', E', st.ext x1 wd1, h1, kq.ext x1, kx.ext x1⟩, kx⟩
/-- a < b < c -/
def dChain (f g : F2) (ta tb tc : DE) : DE := fun Γ O Q E => ta Γ O (fun x O1 => tb Γ O1 (fun y O2 => f x y O2 (onB fun b O3 => if b = true then tc Γ O3 (fun u O4 => g y u O4 Q) E else Q (.d (.bool false)) O3)) E) E
theorem chain_read {f g : F2} {ta tb tc : DE} {σ : L2.St} {H : Hp} {Q : VK} (q : iE X.K Wx (dChain f g ta tb tc) σ H Q) : tChain (rD X.K f) (rD X.K g) (iE X.K Wx ta) (iE X.K Wx tb) (iE X.K Wx tc) σ H Q := by
    obtain ⟨Γ, O, S, ρ, Q', E', st, h, kq, kx⟩ := q
    refine ⟨Γ, O, S, ρ, _, E', st, h, fun w1 O1 S1 ρ1 v1 H1 x1 wd1 r1 h1 => ?_, kx⟩
    refine ⟨Γ, O1, S1, ρ1, _, E', st.ext x1 wd1, h1, fun w2 O2 S2 ρ2 v2 H2 x2 wd2 r2 h2 => ?_, kx.ext x1⟩
    refine ⟨w1, w2, O2, S2, ρ2, _, wd2, r1.ext x2, r2, h2, fun w3 O3 S3 ρ3 v3 H3 x3 wd3 r3 h3 => ?_⟩
    have x23 := x2.trans x3
    have x13 := x1.trans x23
    obtain ⟨b, rfl, rfl, h3⟩ := onB_inv h3 r3
    refine ⟨b, rfl, ?_⟩
    cases b with
    | true =>
      rw [if_pos rfl] at h3 ⊢
      refine ⟨Γ, O3, S3, ρ3, _, E', st.ext x13 wd3, h3, fun w4 O4 S4 ρ4 v4 H4 x4 wd4 r4 h4 => ?_, kx.ext x13⟩
      exact ⟨w2, w4, O4, S4, ρ4, Q', wd4, (r2.ext x3).ext x4, r4, h4, kq.ext (x13.trans x4)⟩
    | false =>
      rw [if_neg (by decide)] at h3 ⊢
      exact kq _ O3 S3 ρ3 _ H3 x13 wd3 (.d (.bl false)) h3
theorem d_chain {op op' : CmpOp} {f g : F2} {c : Expr} {ta tb tc : DE} (ho : OpD X (compareOp op) f) (ho' : OpD X (compareOp op') g) (ha : PDE X Wx a ta) (hb : PDE X Wx b tb) (hc : PDE X Wx c tc)
    (hm : lastMarks [op, op'] [b, c] = false := by with_unfolding_all rfl) : PDE X Wx (.Compare a [op, op'] [b, c] pos) (dChain f g ta tb tc) := (pe_chain ho ho' ha hb hc hm).imp fun _ _ _ q => chain_read q
theorem d_tchain {op op' : CmpOp} {f g : F2} {c : Expr} {ta tb tc : DE} (ho : OpD X (compareOp op) f) (ho' : OpD X (compareOp op') g) (ha : PDE X Wx a ta) (hb : PDE X Wx b tb) (hc : PDE X Wx c tc)
    (hm : lastMarks [op, op'] [b, c] = false := by with_unfolding_all rfl) : PDT X Wx (.Compare a [op, op'] [b, c] pos) (dTst (dChain f g ta tb tc)) := (pt_chain ho ho' ha hb hc hm).imp fun σ H Q ⟨Γ, O, S, ρ, Q', E', st, h, kq, kx⟩ =>
  chain_read (Wx := Wx) ⟨Γ, O, S, ρ, _, E', st, h, fun w1 O1 S1 ρ1 v1 H1 x1 wd1 r1 h1 => by
    obtain ⟨b, rfl, rfl, h1⟩ := onB_inv h1 r1
    exact ⟨b, rfl, kq b O1 S1 ρ1 H1 x1 wd1 h1⟩, kx⟩
end
end UZ
/-! UZ, part C: operators, displays, indices, slices, calls. -/
namespace UZ
open PySem PySem.Spec PyProof.Rows L2

/-! ### views -/
def allD : List W → Option (List PyData)
  | [] => some []
  | .d x :: r => match allD r with
    | some xs => some (x :: xs)
    | none => none
  | _ :: _ => none
theorem allD_map : ∀ xs : List PyData, allD (xs.map .d) = some xs
  | [] => rfl
  | x :: xs => by show (match allD (xs.map .d) with | some xs => some (x :: xs) | none => none) = _; rw [allD_map xs]
theorem allD_eq : ∀ {ws : List W} {xs : List PyData}, allD ws = some xs → ws = xs.map .d
  | [], xs, h => by cases h; rfl
  | .d x :: r, xs, h => by
    unfold allD at h
    split at h
    · rename_i ys e
      cases h
      rw [allD_eq e]; rfl
    · cases h
  | .o _ :: _, _, h => by cases h
  | .tp _ :: _, _, h => by cases h
  | .rl _ :: _, _, h => by cases h
  | .v _ :: _, _, h => by cases h
  | .exc _ _ _ :: _, _, h => by cases h
  | .gl _ :: _, _, h => by cases h
/-- a new tuple -/
def mkT (ws : List W) : W := match allD ws with
  | some xs => .d (.tuple xs)
  | none => .tp ws
theorem mkT_map (xs : List PyData) : mkT (xs.map .d) = .d (.tuple xs) := by unfold mkT; rw [allD_map]
def tv : W → Option (List W)
  | .d (.tuple xs) => some (xs.map .d)
  | .tp ws => some ws
  | _ => none
/-- the items of a list: any one | one that stands tracked -/
def lv (O : List Ob) : W → Option (List W)
  | .d (.list xs) => some (xs.map .d)
  | .rl xs => some (xs.map .d)
  | .o k => match O[k]? with
    | some (.lst ws) => some ws
    | _ => none
  | _ => none
def lvS (O : List Ob) : W → Option (List W)
  | .d (.list xs) => some (xs.map .d)
  | .o k => match O[k]? with
    | some (.lst ws) => some ws
    | _ => none
  | _ => none
mutual
inductive Rs (O : List Ob) : W → PyData → Prop
  | d {x : PyData} : Rs O (.d x) x
  | o {k : Nat} {ws : List W} {xs : List PyData} : O[k]? = some (.lst ws) → RsL O ws xs → Rs O (.o k) (.list xs)
  | tp {ws : List W} {xs : List PyData} : RsL O ws xs → Rs O (.tp ws) (.tuple xs)
inductive RsL (O : List Ob) : List W → List PyData → Prop
  | nil : RsL O [] []
  | cons {w : W} {ws : List W} {x : PyData} {xs : List PyData} : Rs O w x → RsL O ws xs → RsL O (w :: ws) (x :: xs)
end
theorem RsL.map {O : List Ob} : ∀ xs : List PyData, RsL O (xs.map .d) xs
  | [] => .nil
  | _ :: xs => .cons .d (RsL.map xs)
section
variable {K : PySem.W.Frag} {S : Hp} {ρ : Nat → Addr} {H : Hp} {O : List Ob} {v : V} {w : W} {ws : List W} {n : Nat}
theorem tv_inv (h : tv w = some ws) (r : RelW K S ρ n v w) : ∃ a vs, v = .ref a ∧ SqT K S a vs ∧ RelWs K S ρ n vs ws := by
  unfold tv at h
  split at h
  · cases h
    cases r with
    | d r =>
      cases r with
      | tup h r => exact ⟨_, _, rfl, h, r.relWs⟩
  · cases h
    cases r with
    | tp h r => exact ⟨_, _, rfl, .of h, r⟩
  · cases h
theorem lvS_inv (wd : Wd K S ρ O H) (h : lvS O w = some ws) (r : RelW K S ρ O.length v w) : ∃ a vs, v = .ref a ∧ H a = some (.lst vs) ∧ RelWs K S ρ O.length vs ws := by
  unfold lvS at h
  split at h
  · cases h
    cases r with
    | d r =>
      cases r with
      | lst h r => exact ⟨_, _, rfl, wd.sub _ _ h, r.relWs⟩
  · rename_i k
    split at h
    · rename_i ws' e
      cases h
      cases r with
      | o _ q =>
        subst q
        cases wd.own k _ e with
        | lst h r => exact ⟨_, _, rfl, h, r⟩
    · cases h
  · cases h
theorem lv_inv (wd : Wd K S ρ O H) (h : lv O w = some ws) (r : RelW K S ρ O.length v w) : ∃ a vs, v = .ref a ∧ SqL K H a vs ∧ RelWs K S ρ O.length vs ws := by
  by_cases e : lvS O w = some ws
  · obtain ⟨a, vs, h1, h2, h3⟩ := lvS_inv wd e r
    exact ⟨a, vs, h1, .of h2, h3⟩
  · cases w with
    | rl xs =>
      cases h
      cases r with
      | rl h r => exact ⟨_, _, rfl, SubH.sqL wd.sub h, r.relWs⟩
    | d x => cases x <;> first | exact absurd h e | cases h
    | o k => exact absurd h e
    | tp _ => cases h
    | v _ => cases h
    | exc _ _ _ => cases h
    | gl _ => cases h
mutual
theorem Rs.rep (wd : Wd K S ρ O H) : ∀ {v : V} {w : W} {x : PyData}, Rs O w x → RelW K S ρ O.length v w → Rep K H v x
  | _, _, _, .d, r => by cases r with | d r => exact r.sub wd.sub
  | _, _, _, .o e q, r => by
    cases r with
    | o _ z =>
      subst z
      cases wd.own _ _ e with
      | lst h r => exact .lst h (RsL.rep wd q r)
  | _, _, _, .tp q, r => by cases r with | tp h r => exact .tup (.of (wd.sub _ _ h)) (RsL.rep wd q r)
theorem RsL.rep (wd : Wd K S ρ O H) : ∀ {v : List V} {w : List W} {x : List PyData}, RsL O w x → RelWs K S ρ O.length v w → RepL K H v x
  | _, _, _, .nil, r => by cases r; exact .nil
  | _, _, _, .cons h q, r => by cases r with | cons r t => exact .cons (Rs.rep wd h r) (RsL.rep wd q t)
end
theorem mkT_rel {a : Addr} {vs : List V} (h : S a = some (.tup vs)) (r : RelWs K S ρ n vs ws) : RelW K S ρ n (.ref a) (mkT ws) := by
  unfold mkT
  split
  · rename_i xs e
    rw [allD_eq e] at r
    exact .d (.tup (.of h) r.repL)
  · exact .tp h r
theorem mkT_tv (ws : List W) : tv (mkT ws) = some ws := by
  unfold mkT
  split
  · rename_i xs e
    rw [allD_eq e]; rfl
  · rfl
theorem KE.newT {Q' : DQ} {Q : VK} {p : Addr} {vs : List V} (kq : KE K S ρ O.length H Q' Q) (wd : Wd K S ρ O H) (np : H p = none) (r : RelWs K S ρ O.length vs ws) (h : Q' (mkT ws) O) : Q (.ref p) (upd H p (.tup vs)) := by
  obtain ⟨w1, x1⟩ := wd.lay (u := .tup vs) np
  exact kq _ O _ ρ _ _ x1 w1 (mkT_rel upd_same (r.ext x1)) h
theorem KE.newL {Q' : DQ} {Q : VK} {p : Addr} {vs : List V} {xs : List PyData} (kq : KE K S ρ O.length H Q' Q) (wd : Wd K S ρ O H) (np : H p = none) (r : RelWs K S ρ O.length vs ws) (e : allD ws = some xs) (h : Q' (.d (.list xs)) O) : Q (.ref p) (upd H p (.lst vs)) := by
  obtain ⟨w1, x1⟩ := wd.lay (u := .lst vs) np
  rw [allD_eq e] at r
  exact kq _ O _ ρ _ _ x1 w1 (.d (.lst upd_same (r.ext x1).repL)) h
theorem KE.newO {Q' : DQ} {Q : VK} {p : Addr} {vs : List V} (kq : KE K S ρ O.length H Q' Q) (wd : Wd K S ρ O H) (np : H p = none) (r : RelWs K S ρ O.length vs ws) (h : Q' (.o O.length) (O ++ [.lst ws])) : Q (.ref p) (upd H p (.lst vs)) := by
  obtain ⟨w1, x1⟩ := wd.push (u := .lst vs) np (.lst upd_same r)
  exact kq _ _ _ _ _ _ x1 w1 (.o (by simp) (by rw [rhoP_eq])) h
theorem KE.back {Q' : DQ} {Q : VK} (kq : KE K S ρ O.length H Q' Q) (wd : Wd K S ρ O H) (r : RelW K S ρ O.length v w) (h : Q' w O) : Q v H := kq w O S ρ v H .refl wd r h
/-- a changed list -/
theorem KE.put {Q' : DQ} {Q : VK} {k : Nat} {ob : Ob} {vs : List V} {y : V} {wy : W} (kq : KE K S ρ O.length H Q' Q) (wd : Wd K S ρ O H) (hk : O[k]? = some ob) (hd : ob ≠ .dead) (r : RelWs K S ρ O.length vs ws) (ry : RelW K S ρ O.length y wy) (h : Q' wy (O.set k (.lst ws))) : Q y (upd H (ρ k) (.lst vs)) := by
  obtain ⟨w1, x1⟩ := wd.write (u := .lst vs) (ob' := .lst ws) hk hd (.lst upd_same r)
  exact kq _ _ _ _ _ _ x1 w1 (ry.ext x1) h
end

/-! ### operators on ints, bools, texts -/
section
variable {X : Cx}
def fI (C : Int → Int → Prop) (g : Int → Int → PyData) : F2 := fun x y O Q => match x, y with
  | .d (.int i), .d (.int j) => C i j ∧ Q (.d (g i j)) O
  | _, _ => False
theorem fI_ok {f : Value → Value → Sem Value} {C : Int → Int → Prop} {g : Int → Int → PyData} {gV : Int → Int → V} (h : OpR X f (rI C gV)) (hr : ∀ i j S, Rep X.K S (gV i j) (g i j)) : OpD X f (fI C g) :=
  h.imp fun x y H Q ⟨wx, wy, O, S, ρ, Q', wd, r1, r2, q, kq⟩ => by
    unfold fI at q
    split at q
    · cases r1 with
      | d r1 =>
        cases r1
        cases r2 with
        | d r2 =>
          cases r2
          exact ⟨_, _, rfl, rfl, q.1, kq.back wd (.d (hr _ _ _)) q.2⟩
    · exact q.elim
def fI0 (g : Int → Int → PyData) : F2 := fun x y O Q => match x, y with
  | .d (.int i), .d (.int j) => Q (.d (g i j)) O
  | _, _ => False
theorem fI0_ok {f : Value → Value → Sem Value} {g : Int → Int → PyData} {gV : Int → Int → V} (h : OpR X f (rI0 gV)) (hr : ∀ i j S, Rep X.K S (gV i j) (g i j)) : OpD X f (fI0 g) :=
  h.imp fun x y H Q ⟨wx, wy, O, S, ρ, Q', wd, r1, r2, q, kq⟩ => by
    unfold fI0 at q
    split at q
    · cases r1 with
      | d r1 =>
        cases r1
        cases r2 with
        | d r2 =>
          cases r2
          exact ⟨_, _, rfl, rfl, kq.back wd (.d (hr _ _ _)) q⟩
    · exact q.elim
abbrev fAdd : F2 := fI0 fun i j => .int (i + j)
abbrev fSub : F2 := fI0 fun i j => .int (i - j)
abbrev fMul : F2 := fI (fun i j => CMul i j ∨ CMulW i j) fun i j => .int (i * j)
abbrev fDiv : F2 := fI CDivW fun i j => .int (i / j)
abbrev fMod : F2 := fI (fun _ j => 0 < j) fun i j => .int (i % j)
abbrev fPow : F2 := fI CPow fun i j => .int (i ^ j.toNat)
abbrev fLt : F2 := fI0 fun i j => .bool (decide (i < j))
abbrev fLe : F2 := fI0 fun i j => .bool (decide (i ≤ j))
abbrev fGt : F2 := fI0 fun i j => .bool (decide (j < i))
abbrev fGe : F2 := fI0 fun i j => .bool (decide (j ≤ i))
theorem o_add : OpD X (binaryOp .Add) fAdd := fI0_ok op_add fun _ _ _ => .int _
theorem o_sub : OpD X (binaryOp .Sub) fSub := fI0_ok op_sub fun _ _ _ => .int _
theorem o_mul : OpD X (binaryOp .Mult) fMul := fI_ok (opI fun _ _ _ _ _ _ _ hc q => mul_int q (hc.elim (·.ok) (·.ok))) fun _ _ _ => .int _
theorem o_div : OpD X (binaryOp .FloorDiv) fDiv := fI_ok op_fdivW fun _ _ _ => .int _
theorem o_mod : OpD X (binaryOp .Mod) fMod := fI_ok op_mod fun _ _ _ => .int _
theorem o_pow : OpD X (binaryOp .Pow) fPow := fI_ok op_pow fun _ _ _ => .int _
theorem o_lt : OpD X (compareOp .Lt) fLt := fI0_ok op_lt fun _ _ _ => .bl _
theorem o_le : OpD X (compareOp .LtE) fLe := fI0_ok op_le fun _ _ _ => .bl _
theorem o_gt : OpD X (compareOp .Gt) fGt := fI0_ok op_gt fun _ _ _ => .bl _
theorem o_ge : OpD X (compareOp .GtE) fGe := fI0_ok op_ge fun _ _ _ => .bl _
theorem o_iadd : OpD X (inplaceOp .Add) fAdd := fI0_ok iop_add fun _ _ _ => .int _
theorem o_isub : OpD X (inplaceOp .Sub) fSub := fI0_ok iop_sub fun _ _ _ => .int _
def fAddS : F2 := fun x y O Q => match x, y with
  | .d (.str i), .d (.str j) => i.length + j.length ≤ sizeLine ∧ Q (.d (.str (i ++ j))) O
  | _, _ => False
theorem o_addS : OpD X (binaryOp .Add) fAddS := (op_add_str (X := X)).imp fun x y H Q ⟨wx, wy, O, S, ρ, Q', wd, r1, r2, q, kq⟩ => by
  unfold fAddS at q
  split at q
  · cases r1 with
    | d r1 =>
      cases r1
      cases r2 with
      | d r2 =>
        cases r2
        exact ⟨_, _, rfl, rfl, q.1, kq.back wd (.d (.str _)) q.2⟩
  · exact q.elim
/-- == of scalars: ints with ints, texts with texts, None, a bool with a bool; texts or None beside ints -/
def eqS : PyData → PyData → Option Bool
  | .int i, .int j => some (decide (i = j))
  | .str i, .str j => some (decide (i = j))
  | .bool i, .bool j => some (decide (i = j))
  | .none, .none => some true
  | .none, .int _ => some false | .int _, .none => some false | .none, .str _ => some false | .str _, .none => some false | .none, .bool _ => some false | .bool _, .none => some false
  | .int _, .str _ => some false | .str _, .int _ => some false | .bool _, .str _ => some false | .str _, .bool _ => some false
  | _, _ => none
theorem eqS_scal {K : PySem.W.Frag} {S : Hp} {x y : V} {a b : PyData} {r : Bool} (e : eqS a b = some r) (h1 : Rep K S x a) (h2 : Rep K S y b) : scal x y = true ∧ decide (x = y) = r := by
  cases h1 <;> cases h2 <;> simp_all [eqS, scal]
def fEq : F2 := fun x y O Q => match x, y with
  | .d a, .d b => match eqS a b with
    | some r => Q (.d (.bool r)) O
    | none => False
  | _, _ => False
def fNe : F2 := fun x y O Q => match x, y with
  | .d a, .d b => match eqS a b with
    | some r => Q (.d (.bool !r)) O
    | none => False
  | _, _ => False
theorem o_eq : OpD X (compareOp .Eq) fEq := (op_eq (X := X)).imp fun x y H Q ⟨wx, wy, O, S, ρ, Q', wd, r1, r2, q, kq⟩ => by
  unfold fEq at q
  split at q
  · split at q
    · rename_i r e
      cases r1 with
      | d r1 =>
        cases r2 with
        | d r2 =>
          obtain ⟨h1, h2⟩ := eqS_scal e r1 r2
          exact ⟨h1, by rw [h2]; exact kq.back wd (.d (.bl _)) q⟩
    · exact q.elim
  · exact q.elim
theorem o_ne : OpD X (compareOp .NotEq) fNe := (op_ne (X := X)).imp fun x y H Q ⟨wx, wy, O, S, ρ, Q', wd, r1, r2, q, kq⟩ => by
  unfold fNe at q
  split at q
  · split at q
    · rename_i r e
      cases r1 with
      | d r1 =>
        cases r2 with
        | d r2 =>
          obtain ⟨h1, h2⟩ := eqS_scal e r1 r2
          exact ⟨h1, by rw [h2]; exact kq.back wd (.d (.bl _)) q⟩
    · exact q.elim
  · exact q.elim
/-- == of data of any depth, read through the objects -/
def okD (x : PyData) : Prop := x.plain = true ∧ x.depth ≤ 50
def fEqD : F2 := fun x y O Q => ∃ a b, Rs O x a ∧ Rs O y b ∧ okD a ∧ okD b ∧ Q (.d (.bool (PyData.eqv a b))) O
def fNeD : F2 := fun x y O Q => ∃ a b, Rs O x a ∧ Rs O y b ∧ okD a ∧ okD b ∧ Q (.d (.bool !(PyData.eqv a b))) O
theorem o_eqD (hu : X.A.units + 64 < cLine) : OpD X (compareOp .Eq) fEqD := by
  intro pins s σ H x y v u Q I rx ry ⟨wx, wy, O, S, ρ, Q', wd, r1, r2, ⟨a, b, s1, s2, o1, o2, q⟩, kq⟩
  obtain ⟨as, q1⟩ := Dp.reads I a x v ((s1.rep wd r1).dp o1.1) rx
  obtain ⟨bs, q2⟩ := Dp.reads I b y u ((s2.rep wd r2).dp o2.1) ry
  exact SeqAt.eq_plain q1 q2 o1.1 o2.1 (by have := o1.2; omega) ⟨.bl _, H, I, rfl, kq.back wd (.d (.bl _)) q⟩
theorem o_neD (hu : X.A.units + 64 < cLine) : OpD X (compareOp .NotEq) fNeD := by
  intro pins s σ H x y v u Q I rx ry ⟨wx, wy, O, S, ρ, Q', wd, r1, r2, ⟨a, b, s1, s2, o1, o2, q⟩, kq⟩
  obtain ⟨as, q1⟩ := Dp.reads I a x v ((s1.rep wd r1).dp o1.1) rx
  obtain ⟨bs, q2⟩ := Dp.reads I b y u ((s2.rep wd r2).dp o2.1) ry
  exact SeqAt.ne_plain q1 q2 o1.1 o2.1 (by have := o1.2; omega) ⟨.bl _, H, I, rfl, kq.back wd (.d (.bl _)) q⟩
/-- x in a list of data of any depth -/
def fInD : F2 := fun x y O Q => ∃ a bs, Rs O x a ∧ Rs O y (.list bs) ∧ okD a ∧ okD (.list bs) ∧ Q (.d (.bool (bs.any fun z => PyData.eqv z a))) O
def fNotInD : F2 := fun x y O Q => ∃ a bs, Rs O x a ∧ Rs O y (.list bs) ∧ okD a ∧ okD (.list bs) ∧ Q (.d (.bool !(bs.any fun z => PyData.eqv z a))) O
theorem o_inD (hu : X.A.units + 65 < cLine) : OpD X (compareOp .In) fInD := by
  intro pins s σ H x y v u Q I rx ry ⟨wx, wy, O, S, ρ, Q', wd, r1, r2, ⟨a, b, s1, s2, o1, o2, q⟩, kq⟩
  obtain ⟨as, q1⟩ := Dp.reads I a x v ((s1.rep wd r1).dp o1.1) rx
  obtain ⟨bs, q2⟩ := Dp.reads I (.list b) y u ((s2.rep wd r2).dp o2.1) ry
  exact SeqAt.in_list_data q2 q1 (by simpa [PyData.plain] using o2.1) o1.1 (by have := o1.2; omega) ⟨.bl _, H, I, rfl, kq.back wd (.d (.bl _)) q⟩
theorem o_notInD (hu : X.A.units + 65 < cLine) : OpD X (compareOp .NotIn) fNotInD := by
  intro pins s σ H x y v u Q I rx ry ⟨wx, wy, O, S, ρ, Q', wd, r1, r2, ⟨a, b, s1, s2, o1, o2, q⟩, kq⟩
  obtain ⟨as, q1⟩ := Dp.reads I a x v ((s1.rep wd r1).dp o1.1) rx
  obtain ⟨bs, q2⟩ := Dp.reads I (.list b) y u ((s2.rep wd r2).dp o2.1) ry
  exact SeqAt.notIn_list_data q2 q1 (by simpa [PyData.plain] using o2.1) o1.1 (by have := o1.2; omega) ⟨.bl _, H, I, rfl, kq.back wd (.d (.bl _)) q⟩
/-- one sign in a text -/
def fInS (neg : Bool) : F2 := fun x y O Q => match x, y with
  | .d (.str i), .d (.str z) => ∃ c, i = ⟨#[c]⟩ ∧ Q (.d (.bool (if neg then !decide (c ∈ z.cps.toList) else decide (c ∈ z.cps.toList)))) O
  | _, _ => False
/-- is None, is not None; is True .. -/
def isNone : W → Bool
  | .d .none => true
  | .v .non => true
  | _ => false
theorem isNone_rel {K : PySem.W.Frag} {S : Hp} {ρ : Nat → Addr} {n : Nat} {x : V} {w : W} (r : RelW K S ρ n x w) : decide (x = .non) = isNone w := by
  cases r with
  | d r => cases r <;> rfl
  | o => rfl
  | tp => rfl
  | rl => rfl
  | exc => rfl
  | gl => rfl
  | v => cases x <;> rfl
def fIsN : F2 := fun x y O Q => match y with
  | .d .none => Q (.d (.bool (isNone x))) O
  | _ => False
def fNotN : F2 := fun x y O Q => match y with
  | .d .none => Q (.d (.bool (!isNone x))) O
  | _ => False
theorem o_isN : OpD X (compareOp .Is) fIsN := (op_isN (X := X)).imp fun x y H Q ⟨wx, wy, O, S, ρ, Q', wd, r1, r2, q, kq⟩ => by
  unfold fIsN at q
  split at q
  · cases r2 with
    | d r2 =>
      cases r2
      exact ⟨rfl, by rw [isNone_rel r1]; exact kq.back wd (.d (.bl _)) q⟩
  · exact q.elim
theorem o_notN : OpD X (compareOp .IsNot) fNotN := (op_notN (X := X)).imp fun x y H Q ⟨wx, wy, O, S, ρ, Q', wd, r1, r2, q, kq⟩ => by
  unfold fNotN at q
  split at q
  · cases r2 with
    | d r2 =>
      cases r2
      exact ⟨rfl, by rw [isNone_rel r1]; exact kq.back wd (.d (.bl _)) q⟩
  · exact q.elim
def fIsB (neg : Bool) : F2 := fun x y O Q => match x, y with
  | .d (.bool a), .d (.bool b) => Q (.d (.bool (if neg then !decide (a = b) else decide (a = b)))) O
  | _, _ => False
theorem o_isB : OpD X (compareOp .Is) (fIsB false) := (op_isBl (X := X)).imp fun x y H Q ⟨wx, wy, O, S, ρ, Q', wd, r1, r2, q, kq⟩ => by
  unfold fIsB at q
  split at q
  · cases r1 with
    | d r1 =>
      cases r1
      cases r2 with
      | d r2 =>
        cases r2
        exact ⟨_, _, rfl, rfl, kq.back wd (.d (.bl _)) q⟩
  · exact q.elim
theorem o_notB : OpD X (compareOp .IsNot) (fIsB true) := (op_notBl (X := X)).imp fun x y H Q ⟨wx, wy, O, S, ρ, Q', wd, r1, r2, q, kq⟩ => by
  unfold fIsB at q
  split at q
  · cases r1 with
    | d r1 =>
      cases r1
      cases r2 with
      | d r2 =>
        cases r2
        exact ⟨_, _, rfl, rfl, kq.back wd (.d (.bl _)) q⟩
  · exact q.elim
def fNeg : F1 := fun x O Q => match x with
  | .d (.int i) => Q (.d (.int (-i))) O
  | _ => False
theorem o_neg : UnD X (unaryOp .USub) fNeg := (un_neg (X := X)).imp fun x H Q ⟨wx, O, S, ρ, Q', wd, r1, q, kq⟩ => by
  unfold fNeg at q
  split at q
  · cases r1 with
    | d r1 =>
      cases r1
      exact ⟨_, rfl, kq.back wd (.d (.int _)) q⟩
  · exact q.elim

/-! ### tuples and lists joined -/
def fAddT : F2 := fun x y O Q => ∃ xs ys, tv x = some xs ∧ tv y = some ys ∧ xs.length + ys.length ≤ sizeLine ∧ Q (mkT (xs ++ ys)) O
theorem RelW.asT {K : PySem.W.Frag} {S : Hp} {ρ : Nat → Addr} {n : Nat} {v : V} {w : W} {ws : List W} (h : tv w = some ws) (r : RelW K S ρ n v w) : RelW K S ρ n v (mkT ws) := by
  cases r with
  | d r =>
    unfold tv at h
    split at h
    · rename_i xs e
      cases h
      cases e
      rw [mkT_map]; exact .d r
    · rename_i e; cases e
    · cases h
  | tp h1 r =>
    cases h
    exact mkT_rel h1 r
  | o => cases h
  | rl => cases h
  | exc => cases h
  | gl => cases h
  | v => cases h
theorem o_addT : OpD X (binaryOp .Add) fAddT := (op_catA (X := X)).imp fun x y H Q ⟨wx, wy, O, S, ρ, Q', wd, r1, r2, ⟨xs, ys, e1, e2, hl, q⟩, kq⟩ => by
  have q1 := r1.asT e1
  have q2 := r2.asT e2
  obtain ⟨a, vs, rfl, h1, g1⟩ := tv_inv e1 r1
  obtain ⟨b, us, rfl, h2, g2⟩ := tv_inv e2 r2
  refine ⟨a, b, vs, us, rfl, rfl, SubH.sqT wd.sub h1, SubH.sqT wd.sub h2, by rw [g1.length, g2.length]; exact hl, fun z => ?_, fun _ z => ?_, fun _ _ p np => ?_⟩
  · subst z
    cases g1
    exact kq.back wd q2 q
  · subst z
    cases g2
    rw [List.append_nil] at q
    exact kq.back wd q1 q
  · exact kq.newT wd np (g1.append g2) q
/-- list + list: a new list, never changed again | to be changed -/
def fAddL : F2 := fun x y O Q => ∃ xs ys zs, lvS O x = some xs ∧ lvS O y = some ys ∧ xs.length + ys.length ≤ sizeLine ∧ allD (xs ++ ys) = some zs ∧ Q (.d (.list zs)) O
def fAddO : F2 := fun x y O Q => ∃ xs ys, lvS O x = some xs ∧ lvS O y = some ys ∧ xs.length + ys.length ≤ sizeLine ∧ Q (.o O.length) (O ++ [.lst (xs ++ ys)])
theorem o_addL : OpD X (binaryOp .Add) fAddL := (op_cat (X := X)).imp fun x y H Q ⟨wx, wy, O, S, ρ, Q', wd, r1, r2, ⟨xs, ys, zs, e1, e2, hl, ez, q⟩, kq⟩ => by
  obtain ⟨a, vs, rfl, h1, g1⟩ := lvS_inv wd e1 r1
  obtain ⟨b, us, rfl, h2, g2⟩ := lvS_inv wd e2 r2
  exact ⟨a, b, vs, us, rfl, rfl, h1, h2, by rw [g1.length, g2.length]; exact hl, fun p np => kq.newL wd np (g1.append g2) ez q⟩
theorem o_addO : OpD X (binaryOp .Add) fAddO := (op_cat (X := X)).imp fun x y H Q ⟨wx, wy, O, S, ρ, Q', wd, r1, r2, ⟨xs, ys, e1, e2, hl, q⟩, kq⟩ => by
  obtain ⟨a, vs, rfl, h1, g1⟩ := lvS_inv wd e1 r1
  obtain ⟨b, us, rfl, h2, g2⟩ := lvS_inv wd e2 r2
  exact ⟨a, b, vs, us, rfl, rfl, h1, h2, by rw [g1.length, g2.length]; exact hl, fun p np => kq.newO wd np (g1.append g2) q⟩
/-- [x] * n -/
def fRepL : F2 := fun x y O Q => ∃ xs n zs, lvS O x = some xs ∧ y = .d (.int n) ∧ -(2 ^ 63) ≤ n ∧ n < 2 ^ 63 ∧ xs.length * n.toNat ≤ sizeLine ∧ allD (List.replicate n.toNat xs).flatten = some zs ∧ Q (.d (.list zs)) O
def fRepO : F2 := fun x y O Q => ∃ xs n, lvS O x = some xs ∧ y = .d (.int n) ∧ -(2 ^ 63) ≤ n ∧ n < 2 ^ 63 ∧ xs.length * n.toNat ≤ sizeLine ∧ Q (.o O.length) (O ++ [.lst (List.replicate n.toNat xs).flatten])
theorem o_repL : OpD X (binaryOp .Mult) fRepL := (op_rep (X := X)).imp fun x y H Q ⟨wx, wy, O, S, ρ, Q', wd, r1, r2, ⟨xs, n, zs, e1, e2, h1, h2, hl, ez, q⟩, kq⟩ => by
  obtain ⟨a, vs, rfl, g, g1⟩ := lvS_inv wd e1 r1
  subst e2
  cases r2 with
  | d r2 =>
    cases r2
    exact ⟨a, n, vs, rfl, rfl, g, h1, h2, by rw [g1.length]; exact hl, fun p np => kq.newL wd np (g1.rep _) ez q⟩
theorem o_repO : OpD X (binaryOp .Mult) fRepO := (op_rep (X := X)).imp fun x y H Q ⟨wx, wy, O, S, ρ, Q', wd, r1, r2, ⟨xs, n, e1, e2, h1, h2, hl, q⟩, kq⟩ => by
  obtain ⟨a, vs, rfl, g, g1⟩ := lvS_inv wd e1 r1
  subst e2
  cases r2 with
  | d r2 =>
    cases r2
    exact ⟨a, n, vs, rfl, rfl, g, h1, h2, by rw [g1.length]; exact hl, fun p np => kq.newO wd np (g1.rep _) q⟩
end

/-! ### argument lists, displays -/
def dNil : DA := fun _ O Q _ => Q [] O
def dCons (t : DE) (u : DA) : DA := fun Γ O Q E => t Γ O (fun w O1 => u Γ O1 (fun ws O2 => Q (w :: ws) O2) E) E
section
variable {X : Cx} {Wx : WX} {e a b : Expr} {es : List Expr} {pos : Pos} {t : DE} {u : DA}
theorem d_nil : PDA X Wx [] dNil := L2.PA.imp pa_nil fun σ H Q ⟨Γ, O, S, ρ, Q', E', st, h, kq, _⟩ => kq [] O S ρ [] H .refl st.wd .nil h
theorem d_cons (h : PDE X Wx e t) (hr : PDA X Wx es u) (hs : starEach (e :: es) X.env = (false, eval e X.env) :: starEach es X.env := by rfl) : PDA X Wx (e :: es) (dCons t u) :=
  L2.PA.imp (pa_cons h hr hs) fun σ H Q ⟨Γ, O, S, ρ, Q', E', st, h, kq, kx⟩ => ⟨Γ, O, S, ρ, _, E', st, h, fun w1 O1 S1 ρ1 v1 H1 x1 wd1 r1 h1 =>
    ⟨Γ, O1, S1, ρ1, _, E', st.ext x1 wd1, h1, fun w2 O2 S2 ρ2 v2 H2 x2 wd2 r2 h2 => kq _ O2 S2 ρ2 _ H2 (x1.trans x2) wd2 (.cons (r1.ext x2) r2) h2, kx.ext x1⟩, kx⟩
def dTup (u : DA) : DE := fun Γ O Q E => u Γ O (fun ws O1 => ws.length ≤ sizeLine ∧ Q (mkT ws) O1) E
theorem d_tup {x1} (h : PDA X Wx es u) : PDE X Wx (.Tuple es x1 pos) (dTup u) :=
  (pe_tup h).imp fun σ H Q ⟨Γ, O, S, ρ, Q', E', st, h, kq, kx⟩ => ⟨Γ, O, S, ρ, _, E', st, h, fun ws O1 S1 ρ1 vs H1 x1 wd1 r1 h1 => ⟨by rw [r1.length]; exact h1.1, fun p np => (kq.ext x1).newT wd1 np r1 h1.2⟩, kx⟩
/-- a list that is never changed again | to be changed -/
def dLst (u : DA) : DE := fun Γ O Q E => u Γ O (fun ws O1 => ws.length ≤ sizeLine ∧ match allD ws with
  | some xs => Q (.d (.list xs)) O1
  | none => False) E
def dLstO (u : DA) : DE := fun Γ O Q E => u Γ O (fun ws O1 => ws.length ≤ sizeLine ∧ Q (.o O1.length) (O1 ++ [.lst ws])) E
theorem d_lst (h : PDA X Wx es u) : PDE X Wx (.List es pos) (dLst u) :=
  (pe_lst h).imp fun σ H Q ⟨Γ, O, S, ρ, Q', E', st, h, kq, kx⟩ => ⟨Γ, O, S, ρ, _, E', st, h, fun ws O1 S1 ρ1 vs H1 x1 wd1 r1 h1 => ⟨by rw [r1.length]; exact h1.1, fun p np => by
    obtain ⟨_, h1⟩ := h1
    split at h1
    · rename_i xs ex
      exact (kq.ext x1).newL wd1 np r1 ex h1
    · exact h1.elim⟩, kx⟩
theorem d_lstO (h : PDA X Wx es u) : PDE X Wx (.List es pos) (dLstO u) :=
  (pe_lst h).imp fun σ H Q ⟨Γ, O, S, ρ, Q', E', st, h, kq, kx⟩ => ⟨Γ, O, S, ρ, _, E', st, h, fun ws O1 S1 ρ1 vs H1 x1 wd1 r1 h1 => ⟨by rw [r1.length]; exact h1.1, fun p np => (kq.ext x1).newO wd1 np r1 h1.2⟩, kx⟩

/-! ### indices, slices -/
def IxD (X : Cx) (f : F2) : Prop := IxR X (rD X.K f)
theorem _root_.L2.IxR.imp {r r' : R2} (h : IxR X r) (i : ∀ x y H Q, r' x y H Q → r x y H Q) : IxR X r' := fun va sl pins s σ H x y v u Q I r1 r2 q => h va sl pins s σ H x y v u Q I r1 r2 (i x y H Q q)
theorem d_ix {f : F2} {ta tb : DE} (hf : IxD X f) (ha : PDE X Wx a ta) (hb : PDE X Wx b tb) (hs : PlainIx b := by exact fun _ _ => rfl) : PDE X Wx (.Subscript a b pos) (dOp f ta tb) := (pe_ix hf ha hb hs).imp fun _ _ _ q => op_read q
def fIxT : F2 := fun x y O Q => ∃ xs i w, tv x = some xs ∧ y = .d (.int i) ∧ atI xs i = some w ∧ Q w O
def fIxL : F2 := fun x y O Q => ∃ xs i w, lv O x = some xs ∧ y = .d (.int i) ∧ atI xs i = some w ∧ Q w O
def fIxS : F2 := fun x y O Q => match x, y with
  | .d (.str z), .d (.int i) => z.length ≤ sizeLine ∧ ∃ c, atI z.cps.toList i = some c ∧ Q (.d (.str ⟨#[c]⟩)) O
  | _, _ => False
theorem atI_rel {K : PySem.W.Frag} {S : Hp} {ρ : Nat → Addr} {n : Nat} {vs : List V} {ws : List W} {i : Int} {w : W} (r : RelWs K S ρ n vs ws) (h : atI ws i = some w) : ∃ v, atI vs i = some v ∧ RelW K S ρ n v w := by
  unfold atI at h ⊢
  rw [r.length]
  cases e : ixN ws.length i with
  | none => rw [e] at h; cases h
  | some j =>
    rw [e] at h
    obtain ⟨v, h1, h2⟩ := r.get (i := j) h
    exact ⟨v, h1, h2⟩
theorem i_t : IxD X fIxT := ix_tup.imp fun x y H Q ⟨wx, wy, O, S, ρ, Q', wd, r1, r2, ⟨xs, i, w, e1, e2, e3, q⟩, kq⟩ => by
  obtain ⟨a, vs, rfl, h1, g1⟩ := tv_inv e1 r1
  subst e2
  cases r2 with
  | d r2 =>
    cases r2
    obtain ⟨v, h3, h4⟩ := atI_rel g1 e3
    exact ⟨a, vs, i, v, rfl, rfl, SubH.sqT wd.sub h1, h3, kq.back wd h4 q⟩
theorem i_l : IxD X fIxL := ix_list.imp fun x y H Q ⟨wx, wy, O, S, ρ, Q', wd, r1, r2, ⟨xs, i, w, e1, e2, e3, q⟩, kq⟩ => by
  obtain ⟨a, vs, rfl, h1, g1⟩ := lv_inv wd e1 r1
  subst e2
  cases r2 with
  | d r2 =>
    cases r2
    obtain ⟨v, h3, h4⟩ := atI_rel g1 e3
    exact ⟨a, vs, i, v, rfl, rfl, h1, h3, kq.back wd h4 q⟩
theorem i_s : IxD X fIxS := ix_str.imp fun x y H Q ⟨wx, wy, O, S, ρ, Q', wd, r1, r2, q, kq⟩ => by
  unfold fIxS at q
  split at q
  · cases r1 with
    | d r1 =>
      cases r1
      cases r2 with
      | d r2 =>
        cases r2
        obtain ⟨hz, c, hc, q⟩ := q
        exact ⟨_, _, c, rfl, rfl, hz, hc, kq.back wd (.d (.str _)) q⟩
  · exact q.elim
abbrev DO := Gm → List Ob → (Option Int → List Ob → Prop) → DX → Prop
def KO (K : PySem.W.Frag) (S : Hp) (ρ : Nat → Addr) (n : Nat) (H : Hp) (Q' : Option Int → List Ob → Prop) (Q : Option Int → Hp → Prop) : Prop := ∀ b O' S' ρ' H', Ext S ρ n H S' ρ' O'.length H' → Wd K S' ρ' O' H' → Q' b O' → Q b H'
def iO (K : PySem.W.Frag) (Wx : WX) (t : DO) : TO := fun σ H Q => ∃ Γ O S ρ Q' E', At K S ρ H O σ Γ ∧ t Γ O Q' E' ∧ KO K S ρ O.length H Q' Q ∧ KX K S ρ O.length H σ E' Wx
abbrev PDO (X : Cx) (Wx : WX) (e : Option Expr) (t : DO) : Prop := PO X e (iO X.K Wx t)
def dNoP : DO := fun _ O Q _ => Q none O
def dPart (t : DE) : DO := fun Γ O Q E => t Γ O (fun w O1 => match w with
  | .d (.int i) => Q (some i) O1
  | _ => False) E
theorem _root_.L2.PO.imp {e : Option Expr} {t t' : TO} (h : PO X e t) (i : ∀ σ H Q, t' σ H Q → t σ H Q) : PO X e t' := ⟨fun pins s σ H Q I q => h.run pins s σ H Q I (i σ H Q q)⟩
theorem d_noP : PDO X Wx none dNoP := (po_none (X := X)).imp fun σ H Q ⟨Γ, O, S, ρ, Q', E', st, h, kq, _⟩ => kq none O S ρ H .refl st.wd h
theorem d_part (h : PDE X Wx e t) : PDO X Wx (some e) (dPart t) := (po_some h).imp fun σ H Q ⟨Γ, O, S, ρ, Q', E', st, h, kq, kx⟩ => ⟨Γ, O, S, ρ, _, E', st, h, fun w1 O1 S1 ρ1 v1 H1 x1 wd1 r1 h1 => by
  dsimp only at h1
  split at h1
  · cases r1 with
    | d r1 =>
      cases r1
      exact ⟨_, rfl, kq _ O1 S1 ρ1 H1 x1 wd1 h1⟩
  · exact h1.elim, kx⟩
abbrev FS := W → Option Int → Option Int → List Ob → DQ → Prop
def rS (K : PySem.W.Frag) (f : FS) : V → Option Int → Option Int → Hp → VK → Prop := fun x lo hi H Q => ∃ wx O S ρ Q', Wd K S ρ O H ∧ RelW K S ρ O.length x wx ∧ f wx lo hi O Q' ∧ KE K S ρ O.length H Q' Q
def dSl (f : FS) (t : DE) (tl th : DO) : DE := fun Γ O Q E => t Γ O (fun x O1 => tl Γ O1 (fun lo O2 => th Γ O2 (fun hi O3 => f x lo hi O3 Q) E) E) E
theorem _root_.L2.SlR.imp {r r' : V → Option Int → Option Int → Hp → VK → Prop} (h : SlR X r) (i : ∀ x lo hi H Q, r' x lo hi H Q → r x lo hi H Q) : SlR X r' := fun pins s σ H x v vl vu lo hi sl Q I rx hs pl pu q => h pins s σ H x v vl vu lo hi sl Q I rx hs pl pu (i _ _ _ _ _ q)
theorem d_sl {f : FS} {lo hi : Option Expr} {p2 : Pos} {tl th : DO} (hf : SlR X (rS X.K f)) (he : PDE X Wx e t) (hl : PDO X Wx lo tl) (hh : PDO X Wx hi th) : PDE X Wx (.Subscript e (.Slice lo hi none p2) pos) (dSl f t tl th) :=
  (pe_slice hf he hl hh).imp fun σ H Q ⟨Γ, O, S, ρ, Q', E', st, h, kq, kx⟩ => by
    refine ⟨Γ, O, S, ρ, _, E', st, h, fun w1 O1 S1 ρ1 v1 H1 x1 wd1 r1 h1 => ?_, kx⟩
    refine ⟨Γ, O1, S1, ρ1, _, E', st.ext x1 wd1, h1, fun i O2 S2 ρ2 H2 x2 wd2 h2 => ?_, kx.ext x1⟩
    have x12 := x1.trans x2
    refine ⟨Γ, O2, S2, ρ2, _, E', st.ext x12 wd2, h2, fun j O3 S3 ρ3 H3 x3 wd3 h3 => ?_, kx.ext x12⟩
    exact ⟨w1, O3, S3, ρ3, Q', wd3, (r1.ext x2).ext x3, h3, kq.ext (x12.trans x3)⟩
def cutW {α : Type} (xs : List α) (lo hi : Option Int) : List α := (xs.drop (HT.sIx xs.length 0 lo)).take (HT.sIx xs.length xs.length hi - HT.sIx xs.length 0 lo)
theorem cut_rel {K : PySem.W.Frag} {S : Hp} {ρ : Nat → Addr} {n : Nat} {vs : List V} {ws : List W} (r : RelWs K S ρ n vs ws) (lo hi : Option Int) : RelWs K S ρ n (cutV vs lo hi) (cutW ws lo hi) := by
  unfold cutV cutW
  rw [r.length]
  exact (r.drop _).take _
def fSlT : FS := fun x lo hi O Q => ∃ xs, tv x = some xs ∧ Q (mkT (cutW xs lo hi)) O
theorem cut_whole {α : Type} {xs : List α} {lo hi : Option Int} (h : HT.sIx xs.length 0 lo = 0 ∧ HT.sIx xs.length xs.length hi = xs.length) : cutW xs lo hi = xs := by
  unfold cutW
  rw [h.1, h.2]; simp
theorem s_t : SlR X (rS X.K fSlT) := sl_tupA.imp fun x lo hi H Q ⟨wx, O, S, ρ, Q', wd, r1, ⟨xs, e1, q⟩, kq⟩ => by
  have q1 := r1.asT e1
  obtain ⟨a, vs, rfl, h1, g1⟩ := tv_inv e1 r1
  refine ⟨a, vs, rfl, SubH.sqT wd.sub h1, fun hw => ?_, fun _ p np => kq.newT wd np (cut_rel g1 lo hi) q⟩
  rw [g1.length] at hw
  rw [cut_whole hw] at q
  exact kq.back wd q1 q
def fSlL : FS := fun x lo hi O Q => ∃ xs zs, lv O x = some xs ∧ allD (cutW xs lo hi) = some zs ∧ Q (.d (.list zs)) O
def fSlO : FS := fun x lo hi O Q => ∃ xs, lv O x = some xs ∧ Q (.o O.length) (O ++ [.lst (cutW xs lo hi)])
theorem s_l : SlR X (rS X.K fSlL) := sl_list.imp fun x lo hi H Q ⟨wx, O, S, ρ, Q', wd, r1, ⟨xs, zs, e1, ez, q⟩, kq⟩ => by
  obtain ⟨a, vs, rfl, h1, g1⟩ := lv_inv wd e1 r1
  exact ⟨a, vs, rfl, h1, fun p np => kq.newL wd np (cut_rel g1 lo hi) ez q⟩
theorem s_o : SlR X (rS X.K fSlO) := sl_list.imp fun x lo hi H Q ⟨wx, O, S, ρ, Q', wd, r1, ⟨xs, e1, q⟩, kq⟩ => by
  obtain ⟨a, vs, rfl, h1, g1⟩ := lv_inv wd e1 r1
  exact ⟨a, vs, rfl, h1, fun p np => kq.newO wd np (cut_rel g1 lo hi) q⟩

/-! ### built-in functions -/
abbrev FC := List W → List Ob → DQ → Prop
def rC (K : PySem.W.Frag) (f : FC) : List V → Hp → VK → Prop := fun xs H Q => ∃ ws O S ρ Q', Wd K S ρ O H ∧ RelWs K S ρ O.length xs ws ∧ f ws O Q' ∧ KE K S ρ O.length H Q' Q
def CallD (X : Cx) (g : Value) (f : FC) : Prop := CallR X g (rC X.K f)
theorem _root_.L2.CallR.imp {g : Value} {r r' : List V → Hp → VK → Prop} (h : CallR X g r) (i : ∀ x H Q, r' x H Q → r x H Q) : CallR X g r' := fun pins s σ H x v Q I r1 q => h pins s σ H x v Q I r1 (i x H Q q)
def dCB (f : FC) (u : DA) : DE := fun Γ O Q E => u Γ O (fun ws O1 => f ws O1 Q) E
theorem cb_read {f : FC} {u : DA} {σ : L2.St} {H : Hp} {Q : VK} (q : iE X.K Wx (dCB f u) σ H Q) : tCB (rC X.K f) (iA X.K Wx u) σ H Q := by
  obtain ⟨Γ, O, S, ρ, Q', E', st, h, kq, kx⟩ := q
  exact ⟨Γ, O, S, ρ, _, E', st, h, fun ws O1 S1 ρ1 vs H1 x1 wd1 r1 h1 => ⟨ws, O1, S1, ρ1, Q', wd1, r1, h1, kq.ext x1⟩, kx⟩
variable {x : Str} {p : Pos} {id T : String}
theorem d_cb {f : FC} (hc : CallD X (.builtin id) f) (hm : X.mg x = none) (hv : bootBuiltins x = some (.builtin id)) (ha : PDA X Wx (e :: es) u) (hg : Gl X x := by rfl) (hn : x ≠ "__name__" := by decide) (hdb : (x == ("__debug__" : Str)) = false := by decide)
    (he : starEach (e :: es) X.env = (false, eval e X.env) :: starEach es X.env := by rfl) (hpl : (backTo pos (starEach es X.env)).any (·.1) = false := by rfl) : PDE X Wx (.Call (.Name x p) (e :: es) [] pos) (dCB f u) := (pe_callB hc hg hm hv ha hn hdb he hpl).imp fun _ _ _ q => cb_read q
theorem d_ct {f : FC} (hc : CallD X (.type T) f) (hm : X.mg x = none) (hv : bootBuiltins x = some (.type T)) (ha : PDA X Wx (e :: es) u) (hg : Gl X x := by rfl) (hn : x ≠ "__name__" := by decide) (hdb : (x == ("__debug__" : Str)) = false := by decide)
    (he : starEach (e :: es) X.env = (false, eval e X.env) :: starEach es X.env := by rfl) (hpl : (backTo pos (starEach es X.env)).any (·.1) = false := by rfl) : PDE X Wx (.Call (.Name x p) (e :: es) [] pos) (dCB f u) := (pe_callTy hc hg hm hv ha hn hdb he hpl).imp fun _ _ _ q => cb_read q
def fLen : FC := fun ws O Q => match ws with
  | [.d (.str z)] => z.length ≤ sizeLine ∧ Q (.d (.int z.length)) O
  | [x] => ∃ xs, (tv x = some xs ∨ lv O x = some xs) ∧ Q (.d (.int xs.length)) O
  | _ => False
theorem c_len : CallD X (.builtin "len") fLen := ((call_len_seq (X := X)).or call_len_str).imp fun xs H Q ⟨ws, O, S, ρ, Q', wd, r, q, kq⟩ => by
  unfold fLen at q
  split at q
  · cases r with
    | cons r rr =>
      cases rr
      cases r with
      | d r =>
        cases r
        exact .inr ⟨_, rfl, q.1, kq.back wd (.d (.int _)) q.2⟩
  · cases r with
    | cons r rr =>
      cases rr
      obtain ⟨xs, h, q⟩ := q
      rcases h with h | h
      · obtain ⟨a, vs, rfl, h1, g1⟩ := tv_inv h r
        exact .inl ⟨a, vs, rfl, .inr (SubH.sqT wd.sub h1), by rw [g1.length]; exact kq.back wd (.d (.int _)) q⟩
      · obtain ⟨a, vs, rfl, h1, g1⟩ := lv_inv wd h r
        exact .inl ⟨a, vs, rfl, .inl h1, by rw [g1.length]; exact kq.back wd (.d (.int _)) q⟩
  · exact q.elim
def fInt : FC := fun ws O Q => match ws with
  | [.d (.int i)] => Q (.d (.int i)) O
  | [.d (.bool k)] => Q (.d (.int (if k then 1 else 0))) O
  | _ => False
theorem c_int : CallD X (.type "int") fInt := (call_int1 (X := X)).imp fun xs H Q ⟨ws, O, S, ρ, Q', wd, r, q, kq⟩ => by
  unfold fInt at q
  split at q
  · cases r with
    | cons r rr =>
      cases rr
      cases r with
      | d r =>
        cases r
        exact .inl ⟨_, rfl, kq.back wd (.d (.int _)) q⟩
  · cases r with
    | cons r rr =>
      cases rr
      cases r with
      | d r =>
        cases r
        exact .inr ⟨_, rfl, kq.back wd (.d (.int _)) q⟩
  · exact q.elim
def fAbs : FC := fun ws O Q => match ws with
  | [.d (.int i)] => Q (.d (.int (if i < 0 then -i else i))) O
  | _ => False
theorem c_abs : CallD X (.builtin "abs") fAbs := (call_abs (X := X)).imp fun xs H Q ⟨ws, O, S, ρ, Q', wd, r, q, kq⟩ => by
  unfold fAbs at q
  split at q
  · cases r with
    | cons r rr =>
      cases rr
      cases r with
      | d r =>
        cases r
        exact ⟨_, rfl, kq.back wd (.d (.int _)) q⟩
  · exact q.elim
def fMax : FC := fun ws O Q => match ws with
  | [.d (.int i), .d (.int j)] => Q (.d (.int (if j > i then j else i))) O
  | _ => False
theorem c_max (hc : X.calm = true) : CallD X (.builtin "max") fMax := (call_max2 hc).imp fun xs H Q ⟨ws, O, S, ρ, Q', wd, r, q, kq⟩ => by
  unfold fMax at q
  split at q
  · cases r with
    | cons r rr =>
      cases rr with
      | cons r2 rr =>
        cases rr
        cases r with
        | d r =>
          cases r
          cases r2 with
          | d r2 =>
            cases r2
            exact ⟨_, _, rfl, kq.back wd (.d (.int _)) q⟩
  · exact q.elim
/-- list(x), tuple(x) of a list or a tuple -/
def fListO : FC := fun ws O Q => ∃ x xs, ws = [x] ∧ (tv x = some xs ∨ lv O x = some xs) ∧ Q (.o O.length) (O ++ [.lst xs])
def fListL : FC := fun ws O Q => ∃ x xs zs, ws = [x] ∧ (tv x = some xs ∨ lv O x = some xs) ∧ allD xs = some zs ∧ Q (.d (.list zs)) O
def fTuple : FC := fun ws O Q => ∃ x xs, ws = [x] ∧ (tv x = some xs ∨ lv O x = some xs) ∧ Q (mkT xs) O
theorem sq_inv {K : PySem.W.Frag} {S : Hp} {ρ : Nat → Addr} {H : Hp} {O : List Ob} {v : V} {w : W} {ws : List W} (wd : Wd K S ρ O H) (h : tv w = some ws ∨ lv O w = some ws) (r : RelW K S ρ O.length v w) : ∃ a vs, v = .ref a ∧ (SqL K H a vs ∨ SqT K H a vs) ∧ RelWs K S ρ O.length vs ws := by
  rcases h with h | h
  · obtain ⟨a, vs, rfl, h1, g1⟩ := tv_inv h r
    exact ⟨a, vs, rfl, .inr (SubH.sqT wd.sub h1), g1⟩
  · obtain ⟨a, vs, rfl, h1, g1⟩ := lv_inv wd h r
    exact ⟨a, vs, rfl, .inl h1, g1⟩
theorem c_listO : CallD X (.type "list") fListO := (call_list_of (X := X)).imp fun xs H Q ⟨ws, O, S, ρ, Q', wd, r, ⟨x, xs', e, h, q⟩, kq⟩ => by
  subst e
  cases r with
  | cons r rr =>
    cases rr
    obtain ⟨a, vs, rfl, h1, g1⟩ := sq_inv wd h r
    exact ⟨a, vs, rfl, h1, fun l nl => kq.newO wd nl g1 q⟩
theorem c_listL : CallD X (.type "list") fListL := (call_list_of (X := X)).imp fun xs H Q ⟨ws, O, S, ρ, Q', wd, r, ⟨x, xs', zs, e, h, ez, q⟩, kq⟩ => by
  subst e
  cases r with
  | cons r rr =>
    cases rr
    obtain ⟨a, vs, rfl, h1, g1⟩ := sq_inv wd h r
    exact ⟨a, vs, rfl, h1, fun l nl => kq.newL wd nl g1 ez q⟩
theorem c_tuple : CallD X (.type "tuple") fTuple := (call_tuple_of (X := X)).imp fun xs H Q ⟨ws, O, S, ρ, Q', wd, r, ⟨x, xs', e, h, q⟩, kq⟩ => by
  subst e
  cases r with
  | cons r rr =>
    cases rr
    rcases h with h | h
    · have q1 := r.asT h
      obtain ⟨a, vs, rfl, h1, g1⟩ := tv_inv h r
      exact ⟨a, vs, rfl, .inr ⟨SubH.sqT wd.sub h1, kq.back wd q1 q⟩⟩
    · obtain ⟨a, vs, rfl, h1, g1⟩ := lv_inv wd h r
      exact ⟨a, vs, rfl, .inl ⟨h1, fun l nl => kq.newT wd nl g1 q⟩⟩
end
end UZ
/-! UZ, part D: statements, targets, loops, calls of own defs. -/
namespace UZ
open PySem PySem.Spec PyProof.Rows L2

structure DEnds where
  nx : Gm → List Ob → Prop
  rt : DQ
  bk : Gm → List Ob → Prop := fun _ _ => False
  ct : Gm → List Ob → Prop := fun _ _ => False
  ex : Xc → Gm → List Ob → Prop := fun _ _ _ => False
abbrev DS := DEnds → Gm → List Ob → Prop
/-- what the data's ends give the heap's ends -/
structure KS (K : PySem.W.Frag) (S : Hp) (ρ : Nat → Addr) (n : Nat) (H : Hp) (D' : DEnds) (D : Ends) (Wx : WX) : Prop where
  nx : ∀ Γ' O' S' ρ' σ' H', Ext S ρ n H S' ρ' O'.length H' → At K S' ρ' H' O' σ' Γ' → D'.nx Γ' O' → D.nx σ' H'
  rt : ∀ w O' S' ρ' v H', Ext S ρ n H S' ρ' O'.length H' → Wd K S' ρ' O' H' → RelW K S' ρ' O'.length v w → D'.rt w O' → D.rt v H'
  bk : ∀ Γ' O' S' ρ' σ' H', Ext S ρ n H S' ρ' O'.length H' → At K S' ρ' H' O' σ' Γ' → D'.bk Γ' O' → D.bk σ' H'
  ct : ∀ Γ' O' S' ρ' σ' H', Ext S ρ n H S' ρ' O'.length H' → At K S' ρ' H' O' σ' Γ' → D'.ct Γ' O' → D.ct σ' H'
  ex : ∀ x Γ' O' S' ρ' σ' cls dd H', Ext S ρ n H S' ρ' O'.length H' → At K S' ρ' H' O' σ' Γ' → RelX K S' ρ' O'.length H' cls dd x → D'.ex x Γ' O' → Wx cls dd σ' H'
section
variable {K : PySem.W.Frag} {S S1 : Hp} {ρ ρ1 : Nat → Addr} {n n1 : Nat} {H H1 : Hp} {D' : DEnds} {D : Ends} {Wx : WX} {O : List Ob} {σ : L2.St} {Γ : Gm}
theorem KS.ext (k : KS K S ρ n H D' D Wx) (x : Ext S ρ n H S1 ρ1 n1 H1) : KS K S1 ρ1 n1 H1 D' D Wx :=
  ⟨fun a b c d e f y => k.nx a b c d e f (x.trans y), fun a b c d e f y => k.rt a b c d e f (x.trans y), fun a b c d e f y => k.bk a b c d e f (x.trans y), fun a b c d e f y => k.ct a b c d e f (x.trans y), fun a b c d e f g h i y => k.ex a b c d e f g h i (x.trans y)⟩
theorem KS.kx (k : KS K S ρ O.length H D' D Wx) (st : At K S ρ H O σ Γ) : KX K S ρ O.length H σ (fun x O' => D'.ex x Γ O') Wx :=
  fun x O' S' ρ' cls dd H' y wd r q => k.ex x Γ O' S' ρ' σ cls dd H' y (st.ext y wd) r q
end
def iS (K : PySem.W.Frag) (Wx : WX) (t : DS) : TS := fun D σ H => ∃ Γ O S ρ D', At K S ρ H O σ Γ ∧ t D' Γ O ∧ KS K S ρ O.length H D' D Wx
abbrev PDS (X : Cx) (Wx : WX) (e : Stmt) (t : DS) : Prop := PS X e (iS X.K Wx t)
abbrev PDSs (X : Cx) (Wx : WX) (e : List Stmt) (t : DS) : Prop := PSs X e (iS X.K Wx t)
theorem _root_.L2.PS.imp {X : Cx} {e : Stmt} {t t' : TS} (h : PS X e t) (i : ∀ D σ H, t' D σ H → t D σ H) : PS X e t' := ⟨fun pins s σ H D I q => h.run pins s σ H D I (i D σ H q)⟩
theorem _root_.L2.PSs.imp {X : Cx} {e : List Stmt} {t t' : TS} (h : PSs X e t) (i : ∀ D σ H, t' D σ H → t D σ H) : PSs X e t' := ⟨fun pins s σ H D I q => h.run pins s σ H D I (i D σ H q)⟩
/-- what a body's context gives -/
structure Bx (X : Cx) (Wx : WX) : Prop where
  tk : Takes X Wx
  calm : X.calm = true
  hp : PassesOwn (model X.prog X.w) X.A X.env X.xe
  nd : X.N.Nodup

section
variable {X : Cx} {Wx : WX} {s : Stmt} {r : List Stmt} {e : Expr} {pos : Pos} {t : DE} {u v : DS} {c : DT}
def dNext : DS := fun D Γ O => D.nx Γ O
def dSeq (u v : DS) : DS := fun D Γ O => u { D with nx := v D } Γ O
theorem s_nil : PDSs X Wx [] dNext := (pss_nil (X := X)).imp fun D σ H ⟨Γ, O, S, ρ, D', st, h, ks⟩ => ks.nx Γ O S ρ σ H .refl st h
theorem s_one (h : PDS X Wx s u) : PDSs X Wx [s] u := pss_one h
theorem s_cons (h : PDS X Wx s u) (hr : PDSs X Wx r v) : PDSs X Wx (s :: r) (dSeq u v) := (pss_cons h hr).imp fun D σ H ⟨Γ, O, S, ρ, D', st, h, ks⟩ =>
  ⟨Γ, O, S, ρ, _, st, h, ⟨fun Γ1 O1 S1 ρ1 σ1 H1 x1 st1 h1 => ⟨Γ1, O1, S1, ρ1, D', st1, h1, ks.ext x1⟩, ks.rt, ks.bk, ks.ct, ks.ex⟩⟩
theorem s_pass : PDS X Wx (.Pass pos) dNext := (ps_pass (X := X)).imp fun D σ H ⟨Γ, O, S, ρ, D', st, h, ks⟩ => ks.nx Γ O S ρ σ H .refl st h
def dBreak : DS := fun D Γ O => D.bk Γ O
def dCont : DS := fun D Γ O => D.ct Γ O
theorem s_break : PDS X Wx (.Break pos) dBreak := (ps_break (X := X)).imp fun D σ H ⟨Γ, O, S, ρ, D', st, h, ks⟩ => ks.bk Γ O S ρ σ H .refl st h
theorem s_continue : PDS X Wx (.Continue pos) dCont := (ps_continue (X := X)).imp fun D σ H ⟨Γ, O, S, ρ, D', st, h, ks⟩ => ks.ct Γ O S ρ σ H .refl st h
def dNever : DS := fun _ _ _ => False
theorem s_never : PDS X Wx s dNever := (ps_never (X := X)).imp fun D σ H ⟨Γ, O, S, ρ, D', st, h, ks⟩ => h.elim
theorem ss_never : PDSs X Wx r dNever := (pss_never (X := X)).imp fun D σ H ⟨Γ, O, S, ρ, D', st, h, ks⟩ => h.elim
def dNeverE : DE := fun _ _ _ _ => False
def dRet (t : DE) : DS := fun D Γ O => t Γ O D.rt fun x O' => D.ex x Γ O'
theorem s_ret (h : PDE X Wx e t) : PDS X Wx (.Return (some e) pos) (dRet t) := (ps_ret h).imp fun D σ H ⟨Γ, O, S, ρ, D', st, h, ks⟩ => ⟨Γ, O, S, ρ, _, _, st, h, ks.rt, ks.kx st⟩
def dDrop (t : DE) : DS := fun D Γ O => t Γ O (fun _ O1 => D.nx Γ O1) fun x O' => D.ex x Γ O'
theorem s_expr (h : PDE X Wx e t) (hs : swapsWith e none pos.line X.env = pure false := by rfl) : PDS X Wx (.Expr e pos) (dDrop t) := (ps_expr h hs).imp fun D σ H ⟨Γ, O, S, ρ, D', st, h, ks⟩ =>
  ⟨Γ, O, S, ρ, _, _, st, h, fun w1 O1 S1 ρ1 v1 H1 x1 wd1 r1 h1 => ks.nx Γ O1 S1 ρ1 σ H1 x1 (st.ext x1 wd1) h1, ks.kx st⟩
def dIf (c : DT) (u v : DS) : DS := fun D Γ O => c Γ O (fun b O1 => if b = true then u D Γ O1 else v D Γ O1) fun x O' => D.ex x Γ O'
theorem s_if {ce : Expr} {a b : List Stmt} (hc : PDT X Wx ce c) (ha : PDSs X Wx a u) (hb : PDSs X Wx b v) : PDS X Wx (.If ce a b pos) (dIf c u v) := (ps_if hc ha hb).imp fun D σ H ⟨Γ, O, S, ρ, D', st, h, ks⟩ =>
  ⟨Γ, O, S, ρ, _, _, st, h, fun b O1 S1 ρ1 H1 x1 wd1 h1 => by
    cases b with
    | true => rw [if_pos rfl] at h1 ⊢; exact ⟨Γ, O1, S1, ρ1, D', st.ext x1 wd1, h1, ks.ext x1⟩
    | false => rw [if_neg (by decide)] at h1 ⊢; exact ⟨Γ, O1, S1, ρ1, D', st.ext x1 wd1, h1, ks.ext x1⟩, ks.kx st⟩

/-! ### targets -/
theorem RelS.set {K : PySem.W.Frag} {S : Hp} {ρ : Nat → Addr} {n : Nat} {σ : L2.St} {Γ : Gm} (h : RelS K S ρ n σ Γ) (i : Nat) {v : V} {w : W} (r : RelW K S ρ n v w) : RelS K S ρ n (σ.set i (some v)) (Γ.set i (some w)) := by
  refine ⟨by simp [h.1], fun j w' e => ?_⟩
  by_cases hj : j = i
  · subst hj
    have hl : j < Γ.length := by
      have := (List.getElem?_eq_some_iff.mp e).1
      simpa using this
    rw [List.getElem?_set_self hl] at e
    cases e
    exact ⟨v, by rw [List.getElem?_set_self (by rw [h.1]; exact hl)], r⟩
  · rw [List.getElem?_set_ne (Ne.symm hj)] at e ⊢
    exact h.2 j w' e
theorem At.set {K : PySem.W.Frag} {S : Hp} {ρ : Nat → Addr} {H : Hp} {O : List Ob} {σ : L2.St} {Γ : Gm} (h : At K S ρ H O σ Γ) (i : Nat) {v : V} {w : W} (r : RelW K S ρ O.length v w) : At K S ρ H O (σ.set i (some v)) (Γ.set i (some w)) := ⟨h.wd, h.rs.set i r⟩
abbrev DG := W → Gm → List Ob → (Gm → List Ob → Prop) → Prop
def KG (K : PySem.W.Frag) (S : Hp) (ρ : Nat → Addr) (n : Nat) (H : Hp) (Q' : Gm → List Ob → Prop) (Q : L2.St → Hp → Prop) : Prop := ∀ Γ' O' S' ρ' σ' H', Ext S ρ n H S' ρ' O'.length H' → At K S' ρ' H' O' σ' Γ' → Q' Γ' O' → Q σ' H'
def iG (K : PySem.W.Frag) (g : DG) : TG := fun v σ H Q => ∃ w Γ O S ρ Q', At K S ρ H O σ Γ ∧ RelW K S ρ O.length v w ∧ g w Γ O Q' ∧ KG K S ρ O.length H Q' Q
abbrev PDG (X : Cx) (tg : Expr) (g : DG) : Prop := PG X tg (iG X.K g)
theorem _root_.L2.PG.imp {tg : Expr} {t t' : TG} (h : PG X tg t) (i : ∀ v σ H Q, t' v σ H Q → t v σ H Q) : PG X tg t' := ⟨fun pins s σ H v u Q I r q => h.run pins s σ H v u Q I r (i v σ H Q q)⟩
def gNm (i : Nat) : DG := fun w Γ O Q => Q (Γ.set i (some w)) O
theorem g_nm {i : Nat} {x : Str} (hN : X.N.Nodup) (hi : X.N[i]? = some x := by rfl) (hx : Loc X.env.scope x := by first | exact Or.inl rfl | exact Or.inr rfl) (hf : X.fn x = true ∨ X.env.scope.names.lookup x = some .local := by first | exact .inl rfl | exact .inr rfl | assumption) : PDG X (.Name x pos) (gNm i) :=
  (pg_name hN hi hx hf).imp fun v σ H Q ⟨w, Γ, O, S, ρ, Q', st, r, h, kg⟩ => kg _ O S ρ _ H .refl (st.set i r) h
/-- the parts of a tuple | list -/
def gTp (n : Nat) (gs : List W → Gm → List Ob → (Gm → List Ob → Prop) → Prop) : DG := fun w Γ O Q => ∃ ws, tv w = some ws ∧ ws.length = n ∧ gs ws Γ O Q
def gEnd : List W → Gm → List Ob → (Gm → List Ob → Prop) → Prop := fun ws Γ O Q => ws = [] ∧ Q Γ O
def gCs (g : DG) (gs : List W → Gm → List Ob → (Gm → List Ob → Prop) → Prop) : List W → Gm → List Ob → (Gm → List Ob → Prop) → Prop := fun ws Γ O Q => match ws with
  | w :: r => g w Γ O fun Γ1 O1 => gs r Γ1 O1 Q
  | [] => False
def iGs (K : PySem.W.Frag) (g : List W → Gm → List Ob → (Gm → List Ob → Prop) → Prop) : TGs := fun vs σ H Q => ∃ ws Γ O S ρ Q', At K S ρ H O σ Γ ∧ RelWs K S ρ O.length vs ws ∧ g ws Γ O Q' ∧ KG K S ρ O.length H Q' Q
theorem _root_.L2.PGs.imp {tg : List Expr} {t t' : TGs} (h : PGs X tg t) (i : ∀ v σ H Q, t' v σ H Q → t v σ H Q) : PGs X tg t' := ⟨fun pins s σ H v u Q I r q => h.run pins s σ H v u Q I r (i v σ H Q q)⟩
theorem g_end : PGs X [] (iGs X.K gEnd) := L2.PGs.imp pgs_nil fun v σ H Q ⟨ws, Γ, O, S, ρ, Q', st, r, ⟨e, h⟩, kg⟩ => by
  subst e
  cases r
  exact ⟨rfl, kg Γ O S ρ σ H .refl st h⟩
theorem KG.ext {K : PySem.W.Frag} {S S1 : Hp} {ρ ρ1 : Nat → Addr} {n n1 : Nat} {H H1 : Hp} {Q' : Gm → List Ob → Prop} {Q : L2.St → Hp → Prop} (k : KG K S ρ n H Q' Q) (x : Ext S ρ n H S1 ρ1 n1 H1) : KG K S1 ρ1 n1 H1 Q' Q := fun a b c d e f y => k a b c d e f (x.trans y)
theorem g_cs {tg : Expr} {tgs : List Expr} {g : DG} {gs : List W → Gm → List Ob → (Gm → List Ob → Prop) → Prop} (h1 : PDG X tg g) (h2 : PGs X tgs (iGs X.K gs))
    (hs : (assignEach (tg :: tgs) X.env).map (·.2) = assign tg X.env :: (assignEach tgs X.env).map (·.2) := by rfl) : PGs X (tg :: tgs) (iGs X.K (gCs g gs)) := L2.PGs.imp (pgs_cons h1 h2 hs) fun v σ H Q ⟨ws, Γ, O, S, ρ, Q', st, r, h, kg⟩ => by
  unfold gCs at h
  split at h
  · cases r with
    | cons r rr =>
      exact ⟨_, _, rfl, _, Γ, O, S, ρ, _, st, r, h, fun Γ1 O1 S1 ρ1 σ1 H1 x1 st1 h1 => ⟨_, Γ1, O1, S1, ρ1, Q', st1, rr.ext x1, h1, kg.ext x1⟩⟩
  · exact h.elim
theorem g_tp {es : List Expr} {k n : Nat} {gs : List W → Gm → List Ob → (Gm → List Ob → Prop) → Prop} (hc : X.calm = true) (h : PGs X es (iGs X.K gs)) (hn : (assignEach es X.env).length = n := by rfl) (hst : (assignEach es X.env).findIdx? (·.1) = none := by rfl) : PDG X (.Tuple es k pos) (gTp n gs) :=
  (pg_tup hc h hn hst).imp fun v σ H Q ⟨w, Γ, O, S, ρ, Q', st, r, ⟨ws, e, hl, h⟩, kg⟩ => by
    obtain ⟨a, vs, rfl, h1, g1⟩ := tv_inv e r
    exact ⟨a, vs, rfl, SubH.sqT st.wd.sub h1, by rw [g1.length]; exact hl, ws, Γ, O, S, ρ, Q', st, g1, h, kg⟩
/-- o[i] = v of a list that may be changed -/
abbrev F3 := W → W → W → List Ob → (List Ob → Prop) → Prop
def fSetL : F3 := fun o i v O Q => match o, i with
  | .o k, .d (.int j) => ∃ ws m, O[k]? = some (.lst ws) ∧ ixN ws.length j = some m ∧ Q (O.set k (.lst (ws.set m v)))
  | _, _ => False
def rSet (K : PySem.W.Frag) (f : F3) : TSet := fun o i v H Q => ∃ wo wi wv O S ρ Q', Wd K S ρ O H ∧ RelW K S ρ O.length o wo ∧ RelW K S ρ O.length i wi ∧ RelW K S ρ O.length v wv ∧ f wo wi wv O Q' ∧ ∀ O' S' ρ' H', Ext S ρ O.length H S' ρ' O'.length H' → Wd K S' ρ' O' H' → Q' O' → Q H'
theorem _root_.L2.PSet.imp {t t' : TSet} (h : PSet X t) (i : ∀ o i v H Q, t' o i v H Q → t o i v H Q) : PSet X t' := fun pins s σ H o j v ov iv u Q I r1 r2 r3 q => h pins s σ H o j v ov iv u Q I r1 r2 r3 (i _ _ _ _ _ q)
theorem set_l : PSet X (rSet X.K fSetL) := L2.PSet.imp set_list fun o i v H Q ⟨wo, wi, wv, O, S, ρ, Q', wd, r1, r2, r3, q, kq⟩ => by
  unfold fSetL at q
  split at q
  · obtain ⟨ws, m, e, em, q⟩ := q
    cases r1 with
    | o hk z =>
      subst z
      cases r2 with
      | d r2 =>
        cases r2
        cases wd.own _ _ e with
        | lst h r =>
          obtain ⟨w1, x1⟩ := wd.write (u := .lst _) (ob' := .lst _) e (by intro z; cases z) (.lst upd_same (RelWs.set r3 m r))
          exact ⟨_, _, _, m, rfl, rfl, h, by rw [r.length]; exact em, kq _ _ _ _ x1 w1 q⟩
  · exact q.elim
def noX : DX := fun _ _ => False
def gSubD (to ti : DE) (f : F3) : DG := fun w Γ O Q => to Γ O (fun o O1 => ti Γ O1 (fun i O2 => f o i w O2 fun O3 => Q Γ O3) noX) noX
theorem KX.no {K : PySem.W.Frag} {S : Hp} {ρ : Nat → Addr} {n : Nat} {H : Hp} {σ : L2.St} : KX K S ρ n H σ noX Wx := fun _ _ _ _ _ _ _ _ _ _ q => q.elim
theorem g_sub {o i : Expr} {to ti : DE} {f : F3} (hs : PSet X (rSet X.K f)) (ho : PDE X Wx o to) (hi : PDE X Wx i ti)
    (ha : ∀ v, assign (.Subscript o i pos) X.env v = (do
      let ov ← holding [v] (eval o X.env)
      let iv ← holding [v, ov] (eval i X.env)
      standAt pos
      holding [v, ov, iv] (setItem ov iv v)
      release [v, ov, iv] []) := by intro _; rfl) : PDG X (.Subscript o i pos) (gSubD to ti f) :=
  (pg_sub ho hi hs ha).imp fun v σ H Q ⟨w, Γ, O, S, ρ, Q', st, r, h, kg⟩ => by
    refine ⟨Γ, O, S, ρ, _, _, st, h, fun w1 O1 S1 ρ1 v1 H1 x1 wd1 r1 h1 => ?_, .no⟩
    refine ⟨Γ, O1, S1, ρ1, _, _, st.ext x1 wd1, h1, fun w2 O2 S2 ρ2 v2 H2 x2 wd2 r2 h2 => ?_, .no⟩
    refine ⟨w1, w2, w, O2, S2, ρ2, _, wd2, r1.ext x2, r2, (r.ext x1).ext x2, h2, fun O3 S3 ρ3 H3 x3 wd3 h3 => ?_⟩
    have xx := x1.trans (x2.trans x3)
    exact kg Γ O3 S3 ρ3 σ H3 xx (st.ext xx wd3) h3
/-- target = e -/
def dAsg (t : DE) (g : DG) : DS := fun D Γ O => t Γ O (fun w O1 => g w Γ O1 D.nx) fun x O' => D.ex x Γ O'
theorem asg_read {g : DG} {D : Ends} {σ : L2.St} {H : Hp} (q : iS X.K Wx (dAsg t g) D σ H) : tAsg (iE X.K Wx t) (iG X.K g) D σ H := by
  obtain ⟨Γ, O, S, ρ, D', st, h, ks⟩ := q
  exact ⟨Γ, O, S, ρ, _, _, st, h, fun w1 O1 S1 ρ1 v1 H1 x1 wd1 r1 h1 => ⟨w1, Γ, O1, S1, ρ1, _, st.ext x1 wd1, r1, h1, fun Γ2 O2 S2 ρ2 σ2 H2 x2 st2 h2 => ks.nx Γ2 O2 S2 ρ2 σ2 H2 (x1.trans x2) st2 h2⟩, ks.kx st⟩
theorem s_asg {tg : Expr} {g : DG} (he : PDE X Wx e t) (hg : PDG X tg g) (hs : swapsWithSole [tg] e pos.line X.env = pure false := by rfl) (hw : swappedStores [tg] e X.env = pure none := by rfl)
    (h1 : (assignEach [tg] X.env).map (·.2) = [assign tg X.env] := by rfl) : PDS X Wx (.Assign [tg] e pos) (dAsg t g) := (ps_asg he hg hs hw h1).imp fun _ _ _ q => asg_read q
/-- name = e -/
def dSet (i : Nat) (t : DE) : DS := fun D Γ O => t Γ O (fun w O1 => D.nx (Γ.set i (some w)) O1) fun x O' => D.ex x Γ O'
theorem set_read {i : Nat} {D : Ends} {σ : L2.St} {H : Hp} (q : iS X.K Wx (dSet i t) D σ H) : tAsg (iE X.K Wx t) (gName i) D σ H := by
  obtain ⟨Γ, O, S, ρ, D', st, h, ks⟩ := q
  exact ⟨Γ, O, S, ρ, _, _, st, h, fun w1 O1 S1 ρ1 v1 H1 x1 wd1 r1 h1 => ks.nx _ O1 S1 ρ1 _ H1 x1 ((st.ext x1 wd1).set i r1) h1, ks.kx st⟩
theorem s_set {i : Nat} {x : Str} {pos' : Pos} (c : Bx X Wx) (he : PDE X Wx e t) (hi : X.N[i]? = some x := by rfl) (hx : Loc X.env.scope x := by first | exact Or.inl rfl | exact Or.inr rfl) (hs : swapsWith e (some (.Name x pos')) pos.line X.env = pure false := by rfl) (hf : X.fn x = true ∨ X.env.scope.names.lookup x = some .local := by first | exact .inl rfl | exact .inr rfl | assumption) :
    PDS X Wx (.Assign [.Name x pos'] e pos) (dSet i t) := (ps_set c.nd hi hx he hs hf).imp fun _ _ _ q => set_read q
/-- a, b = x, y (locals) -/
def dPar (i j : Nat) (u : DA) : DS := fun D Γ O => u Γ O (fun ws O1 => match ws with
  | [v, w] => D.nx ((Γ.set i (some v)).set j (some w)) O1
  | _ => False) fun x O' => D.ex x Γ O'
theorem s_par {i j : Nat} {x y : Str} {a b : Expr} {ta : DA} {px py pt : Pos} {kt k2 pt2} (c : Bx X Wx) (ha : PDA X Wx [a, b] ta) (hi : X.N[i]? = some x := by rfl) (hj : X.N[j]? = some y := by rfl) (hij : i ≠ j := by decide)
    (hx : X.env.scope.names.lookup x = some .local := by rfl) (hy : X.env.scope.names.lookup y = some .local := by rfl)
    (hw : swappedStores [.Tuple [.Name x px, .Name y py] kt pt] (.Tuple [a, b] k2 pt2) X.env = pure (some [x, y]) := by rfl)
    (hs : swapsWithSole [.Tuple [.Name x px, .Name y py] kt pt] (.Tuple [a, b] k2 pt2) pos.line X.env = pure false := by rfl) :
    PDS X Wx (.Assign [.Tuple [.Name x px, .Name y py] kt pt] (.Tuple [a, b] k2 pt2) pos) (dPar i j ta) := (ps_par c.calm c.nd hi hj hij hx hy ha hw hs).imp fun D σ H ⟨Γ, O, S, ρ, D', st, h, ks⟩ =>
  ⟨Γ, O, S, ρ, _, _, st, h, fun ws O1 S1 ρ1 vs H1 x1 wd1 r1 h1 => by
    dsimp only at h1
    split at h1
    · cases r1 with
      | cons r rr =>
        cases rr with
        | cons r2 rr =>
          cases rr
          exact ⟨_, _, rfl, ks.nx _ O1 S1 ρ1 _ H1 x1 (((st.ext x1 wd1).set i r).set j r2) h1⟩
    · exact h1.elim, ks.kx st⟩
/-- name op= e -/
def rIp (K : PySem.W.Frag) (f : F2) : TIp := rD K f
def dAug (i : Nat) (t : DE) (f : F2) : DS := fun D Γ O => match Γ[i]? with
  | some (some x) => t Γ O (fun y O1 => f x y O1 fun z O2 => D.nx (Γ.set i (some z)) O2) fun x O' => D.ex x Γ O'
  | _ => False
theorem s_aug {i : Nat} {x : Str} {op : Operator} {f : F2} {pos' : Pos} (c : Bx X Wx) (ho : OpD X (inplaceOp op) f) (he : PDE X Wx e t) (hi : X.N[i]? = some x := by rfl) (hx : Loc X.env.scope x := by first | exact Or.inl rfl | exact Or.inr rfl) (hf : X.fn x = true ∨ X.env.scope.names.lookup x = some .local := by first | exact .inl rfl | exact .inr rfl | assumption) :
    PDS X Wx (.AugAssign (.Name x pos') op e pos) (dAug i t f) := (ps_aug (ti := rD X.K f) c.nd hi hx he ho hf).imp fun D σ H ⟨Γ, O, S, ρ, D', st, h, ks⟩ => by
  unfold dAug at h
  split at h
  · rename_i w e1
    obtain ⟨v, e2, r⟩ := st.rs.2 i w e1
    refine ⟨v, e2, Γ, O, S, ρ, _, _, st, h, fun w1 O1 S1 ρ1 v1 H1 x1 wd1 r1 h1 => ?_, ks.kx st⟩
    exact ⟨w, w1, O1, S1, ρ1, _, wd1, r.ext x1, r1, h1, fun w2 O2 S2 ρ2 v2 H2 x2 wd2 r2 h2 => ks.nx _ O2 S2 ρ2 _ H2 (x1.trans x2) ((st.ext (x1.trans x2) wd2).set i r2) h2⟩
  · exact h.elim
end

/-! ### while -/
section
variable {X : Cx} {Wx : WX} {pos : Pos}
def dWh (c : DT) (b : DS) : Nat → DS
  | 0 => fun _ _ _ => False
  | n + 1 => fun D Γ O => ∃ N : Gm → List Ob → Prop, (∀ Γ' O', N Γ' O' → dWh c b n D Γ' O') ∧ c Γ O (fun k O1 => if k = true then b { D with nx := N, ct := N, bk := D.nx } Γ O1 else D.nx Γ O1) fun x O' => D.ex x Γ O'
def dWhile (c : DT) (b : DS) : DS := fun D Γ O => ∃ n, dWh c b n D Γ O
theorem s_while {ce : Expr} {body : List Stmt} {c : DT} {b : DS} (bx : Bx X Wx) (hc : PDT X Wx ce c) (hb : PDSs X Wx body b) : PDS X Wx (.While ce body [] pos) (dWhile c b) := (ps_while bx.hp hc hb).imp fun D σ H ⟨Γ, O, S, ρ, D', st, ⟨n, h⟩, ks⟩ => by
  refine ⟨fun m σ1 H1 => ∃ Γ1 O1 S1 ρ1, Ext S ρ O.length H S1 ρ1 O1.length H1 ∧ At X.K S1 ρ1 H1 O1 σ1 Γ1 ∧ dWh c b m D' Γ1 O1, ⟨n, Γ, O, S, ρ, .refl, st, h⟩, ?_⟩
  rintro m σ1 H1 ⟨Γ1, O1, S1, ρ1, x1, st1, h1⟩
  cases m with
  | zero => exact h1.elim
  | succ m =>
    obtain ⟨N, hN, h1⟩ := h1
    refine ⟨Γ1, O1, S1, ρ1, _, _, st1, h1, fun k O2 S2 ρ2 H2 x2 wd2 h2 => ?_, (ks.ext x1).kx st1⟩
    have x12 := x1.trans x2
    cases k with
    | false =>
      dsimp only at h2 ⊢
      rw [if_neg (by decide)] at h2 ⊢
      exact ks.nx Γ1 O2 S2 ρ2 σ1 H2 x12 (st1.ext x2 wd2) h2
    | true =>
      dsimp only at h2 ⊢
      rw [if_pos rfl] at h2 ⊢
      refine ⟨fun σ3 H3 => ∃ Γ3 O3 S3 ρ3, Ext S ρ O.length H S3 ρ3 O3.length H3 ∧ At X.K S3 ρ3 H3 O3 σ3 Γ3 ∧ dWh c b m D' Γ3 O3, fun σ' H' q => ⟨m, Nat.lt_succ_self _, q⟩, Γ1, O2, S2, ρ2, _, st1.ext x2 wd2, h2, ?_⟩
      exact ⟨fun Γ3 O3 S3 ρ3 σ3 H3 x3 st3 h3 => ⟨Γ3, O3, S3, ρ3, x12.trans x3, st3, hN _ _ h3⟩, (ks.ext x12).rt, fun Γ3 O3 S3 ρ3 σ3 H3 x3 st3 h3 => ks.nx Γ3 O3 S3 ρ3 σ3 H3 (x12.trans x3) st3 h3,
        fun Γ3 O3 S3 ρ3 σ3 H3 x3 st3 h3 => ⟨Γ3, O3, S3, ρ3, x12.trans x3, st3, hN _ _ h3⟩, (ks.ext x12).ex⟩
end

/-! ### what is walked -/
/-- the iterator J goes through items, as long as chk holds of the objects -/
structure ItR (K : PySem.W.Frag) (S : Hp) (ρ : Nat → Addr) (n : Nat) (H : Hp) (J : It) (items : List W) (chk : List Ob → Prop) : Prop where
  go : ∀ i O' S' ρ' H', Ext S ρ n H S' ρ' O'.length H' → Wd K S' ρ' O' H' → chk O' → i < items.length → J.go i H'
  yld : ∀ i w O' S' ρ' H' x H'', Ext S ρ n H S' ρ' O'.length H' → Wd K S' ρ' O' H' → chk O' → items[i]? = some w → J.yld i H' x H'' → ∃ S'', Ext S' ρ' O'.length H' S'' ρ' O'.length H'' ∧ Wd K S'' ρ' O' H'' ∧ RelW K S'' ρ' O'.length x w
  stop : ∀ O' S' ρ' H', Ext S ρ n H S' ρ' O'.length H' → Wd K S' ρ' O' H' → chk O' → J.stop items.length H'
abbrev DI := Gm → List Ob → (List W → (List Ob → Prop) → List Ob → Prop) → DX → Prop
def iI (K : PySem.W.Frag) (Wx : WX) (t : DI) : TI := fun σ H R => ∃ Γ O S ρ Q' E', At K S ρ H O σ Γ ∧ t Γ O Q' E' ∧
  (∀ items chk O' S' ρ' J H', Ext S ρ O.length H S' ρ' O'.length H' → Wd K S' ρ' O' H' → ItR K S' ρ' O'.length H' J items chk → Q' items chk O' → R J H') ∧ KX K S ρ O.length H σ E' Wx
abbrev PDI (X : Cx) (Wx : WX) (tg e : Expr) (t : DI) : Prop := PI X tg e (iI X.K Wx t)
theorem _root_.L2.PI.imp {X : Cx} {tg e : Expr} {t t' : TI} (h : PI X tg e t) (i : ∀ σ H R, t' σ H R → t σ H R) : PI X tg e t' := ⟨fun pins s σ H R I q => h.run pins s σ H R I (i σ H R q)⟩
theorem ItR.ext {K : PySem.W.Frag} {S S1 : Hp} {ρ ρ1 : Nat → Addr} {n n1 : Nat} {H H1 : Hp} {J : It} {items : List W} {chk : List Ob → Prop} (h : ItR K S ρ n H J items chk) (x : Ext S ρ n H S1 ρ1 n1 H1) : ItR K S1 ρ1 n1 H1 J items chk :=
  ⟨fun i O' S' ρ' H' y => h.go i O' S' ρ' H' (x.trans y), fun i w O' S' ρ' H' z H'' y => h.yld i w O' S' ρ' H' z H'' (x.trans y), fun O' S' ρ' H' y => h.stop O' S' ρ' H' (x.trans y)⟩
def dForL (g : DG) (b : DS) (chk : List Ob → Prop) : List W → DS
  | [] => fun D Γ O => chk O ∧ D.nx Γ O
  | w :: ws => fun D Γ O => chk O ∧ ∃ N : Gm → List Ob → Prop, (∀ Γ' O', N Γ' O' → dForL g b chk ws D Γ' O') ∧ g w Γ O fun Γ1 O1 => b { D with nx := N, ct := N, bk := D.nx } Γ1 O1
def dFor (it : DI) (g : DG) (b : DS) : DS := fun D Γ O => it Γ O (fun items chk O1 => dForL g b chk items D Γ O1) fun x O' => D.ex x Γ O'
theorem dForL_chk {g : DG} {b : DS} {chk : List Ob → Prop} {ws : List W} {D : DEnds} {Γ : Gm} {O : List Ob} (h : dForL g b chk ws D Γ O) : chk O := by
  cases ws with
  | nil => exact h.1
  | cons _ _ => exact h.1
section
variable {X : Cx} {Wx : WX} {pos : Pos}
theorem s_for {tg iter : Expr} {body : List Stmt} {it : DI} {g : DG} {b : DS} (bx : Bx X Wx) (hi : PDI X Wx tg iter it) (hg : PDG X tg g) (hb : PDSs X Wx body b)
    (hs : ∀ x, foldedSetIterable iter X.env x = pure x := by intro _; rfl) : PDS X Wx (.For tg iter body [] pos) (dFor it g b) := (ps_for bx.hp bx.calm hi hg hb hs).imp fun D σ H ⟨Γ, O, S, ρ, D', st, h, ks⟩ => by
  refine ⟨Γ, O, S, ρ, _, _, st, h, fun items chk O1 S1 ρ1 J H1 x1 wd1 ir h1 => ?_, ks.kx st⟩
  refine ⟨fun i m σ2 H2 => ∃ Γ2 O2 S2 ρ2, Ext S1 ρ1 O1.length H1 S2 ρ2 O2.length H2 ∧ At X.K S2 ρ2 H2 O2 σ2 Γ2 ∧ i ≤ items.length ∧ m = items.length - i ∧ dForL g b chk (items.drop i) D' Γ2 O2,
    ⟨items.length, Γ, O1, S1, ρ1, .refl, st.ext x1 wd1, Nat.zero_le _, by simp, h1⟩, ?_⟩
  rintro i m σ2 H2 ⟨Γ2, O2, S2, ρ2, x2, st2, hi2, rfl, h2⟩
  by_cases hlt : i < items.length
  · have ew : items[i]? = some items[i] := List.getElem?_eq_getElem hlt
    rw [List.drop_eq_getElem_cons hlt] at h2
    refine .inr ⟨ir.go i O2 S2 ρ2 H2 x2 st2.wd h2.1 hlt, fun σ3 H3 => ∃ Γ3 O3 S3 ρ3, Ext S1 ρ1 O1.length H1 S3 ρ3 O3.length H3 ∧ At X.K S3 ρ3 H3 O3 σ3 Γ3 ∧ dForL g b chk (items.drop (i + 1)) D' Γ3 O3,
      fun σ3 H3 ⟨Γ3, O3, S3, ρ3, x3, st3, h3⟩ => ⟨items.length - (i + 1), by omega, Γ3, O3, S3, ρ3, x3, st3, hlt, rfl, h3⟩, fun x H' y => ?_⟩
    obtain ⟨S3, x3, wd3, r3⟩ := ir.yld i _ O2 S2 ρ2 H2 x H' x2 st2.wd h2.1 ew y
    obtain ⟨_, N, hN, h2⟩ := h2
    have x23 := x2.trans x3
    have x123 := x1.trans x23
    refine ⟨_, Γ2, O2, S3, ρ2, _, st2.ext x3 wd3, r3, h2, fun Γ4 O4 S4 ρ4 σ4 H4 x4 st4 h4 => ⟨Γ4, O4, S4, ρ4, _, st4, h4, ?_⟩⟩
    have x234 := x23.trans x4
    have kk := ks.ext (x123.trans x4)
    exact ⟨fun Γ5 O5 S5 ρ5 σ5 H5 x5 st5 h5 => ⟨Γ5, O5, S5, ρ5, x234.trans x5, st5, hN _ _ h5⟩, kk.rt, fun Γ5 O5 S5 ρ5 σ5 H5 x5 st5 h5 => kk.nx Γ5 O5 S5 ρ5 σ5 H5 x5 st5 h5, fun Γ5 O5 S5 ρ5 σ5 H5 x5 st5 h5 => ⟨Γ5, O5, S5, ρ5, x234.trans x5, st5, hN _ _ h5⟩, kk.ex⟩
  · have e : i = items.length := by omega
    subst e
    rw [List.drop_length] at h2
    exact .inl ⟨ir.stop O2 S2 ρ2 H2 x2 st2.wd h2.1, ks.nx Γ2 O2 S2 ρ2 σ2 H2 (x1.trans x2) st2 h2.2⟩

/-! ### iterators -/
def tt0 : List Ob → Prop := fun _ => True
/-- a list: its items; one that may be changed must stand as it is through the loop -/
def dItL (t : DE) : DI := fun Γ O Q E => t Γ O (fun w O1 => match w with
  | .d (.list xs) => Q (xs.map .d) tt0 O1
  | .rl xs => Q (xs.map .d) tt0 O1
  | .o k => ∃ ws, O1[k]? = some (.lst ws) ∧ Q ws (fun O2 => O2[k]? = some (.lst ws)) O1
  | _ => False) E
theorem itr_list {K : PySem.W.Frag} {S : Hp} {ρ : Nat → Addr} {n : Nat} {H : Hp} {a : Addr} {ws : List W} {chk : List Ob → Prop}
    (h : ∀ O' S' ρ' H', Ext S ρ n H S' ρ' O'.length H' → Wd K S' ρ' O' H' → chk O' → ∃ vs, SqL K H' a vs ∧ RelWs K S' ρ' O'.length vs ws) : ItR K S ρ n H (Itl K a) ws chk where
  go := fun i O' S' ρ' H' x wd c hi => by
    obtain ⟨vs, h1, h2⟩ := h O' S' ρ' H' x wd c
    obtain ⟨v, h3, _⟩ := h2.get (List.getElem?_eq_getElem hi)
    exact ⟨vs, v, h1, h3⟩
  yld := fun i w O' S' ρ' H' x H'' ex wd c hi y => by
    obtain ⟨vs, h1, h2⟩ := h O' S' ρ' H' ex wd c
    obtain ⟨v, h3, h4⟩ := h2.get hi
    obtain ⟨rfl, y⟩ := y
    have e : some v = some x := h3.symm.trans (y vs h1)
    cases e
    exact ⟨S', .refl, wd, h4⟩
  stop := fun O' S' ρ' H' x wd c => by
    obtain ⟨vs, h1, h2⟩ := h O' S' ρ' H' x wd c
    exact ⟨vs, h1, by rw [h2.length]; exact Nat.le_refl _⟩
theorem wd_list {K : PySem.W.Frag} {S : Hp} {ρ : Nat → Addr} {H : Hp} {O : List Ob} {v : V} {w : W} {xs : List PyData} (wd : Wd K S ρ O H) (h : w = .d (.list xs) ∨ w = .rl xs) (r : RelW K S ρ O.length v w) :
    ∃ a, v = .ref a ∧ ∀ O' S' ρ' H', Ext S ρ O.length H S' ρ' O'.length H' → Wd K S' ρ' O' H' → tt0 O' → ∃ vs, SqL K H' a vs ∧ RelWs K S' ρ' O'.length vs (xs.map .d) := by
  rcases h with rfl | rfl
  · cases r with
    | d r =>
      cases r with
      | lst h r => exact ⟨_, rfl, fun O' S' ρ' H' x wd' _ => ⟨_, .of (wd'.sub _ _ (x.sub _ _ h)), (r.sub x.sub).relWs⟩⟩
  · cases r with
    | rl h r => exact ⟨_, rfl, fun O' S' ρ' H' x wd' _ => ⟨_, SubH.sqL wd'.sub (SubH.sqL x.sub h), (r.sub x.sub).relWs⟩⟩
theorem wd_own {K : PySem.W.Frag} {S : Hp} {ρ : Nat → Addr} {H : Hp} {O : List Ob} {v : V} {k : Nat} {ws : List W} (r : RelW K S ρ O.length v (.o k)) :
    ∃ a, v = .ref a ∧ ∀ O' S' ρ' H', Ext S ρ O.length H S' ρ' O'.length H' → Wd K S' ρ' O' H' → O'[k]? = some (.lst ws) → ∃ vs, SqL K H' a vs ∧ RelWs K S' ρ' O'.length vs ws := by
  cases r with
  | o hk z =>
    subst z
    refine ⟨_, rfl, fun O' S' ρ' H' x wd' e => ?_⟩
    have q := wd'.own k _ e
    rw [x.rho k hk] at q
    cases q with
    | lst h r => exact ⟨_, .of h, r⟩
variable {tg e : Expr} {t : DE}
theorem it_l (h : PDE X Wx e t) : PDI X Wx tg e (dItL t) := (pi_list h).imp fun σ H R ⟨Γ, O, S, ρ, Q', E', st, h, kq, kx⟩ => ⟨Γ, O, S, ρ, _, E', st, h, fun w1 O1 S1 ρ1 v1 H1 x1 wd1 r1 h1 => by
  dsimp only at h1
  split at h1
  · obtain ⟨a, rfl, hl⟩ := wd_list wd1 (.inl rfl) r1
    obtain ⟨vs, h2, _⟩ := hl O1 S1 ρ1 H1 .refl wd1 trivial
    exact ⟨a, rfl, ⟨vs, h2⟩, kq _ _ O1 S1 ρ1 _ H1 x1 wd1 (itr_list hl) h1⟩
  · obtain ⟨a, rfl, hl⟩ := wd_list wd1 (.inr rfl) r1
    obtain ⟨vs, h2, _⟩ := hl O1 S1 ρ1 H1 .refl wd1 trivial
    exact ⟨a, rfl, ⟨vs, h2⟩, kq _ _ O1 S1 ρ1 _ H1 x1 wd1 (itr_list hl) h1⟩
  · obtain ⟨ws, ek, h1⟩ := h1
    obtain ⟨a, rfl, hl⟩ := wd_own (ws := ws) r1
    obtain ⟨vs, h2, _⟩ := hl O1 S1 ρ1 H1 .refl wd1 ek
    exact ⟨a, rfl, ⟨vs, h2⟩, kq _ _ O1 S1 ρ1 _ H1 x1 wd1 (itr_list hl) h1⟩
  · exact h1.elim, kx⟩
def dItT (t : DE) : DI := fun Γ O Q E => t Γ O (fun w O1 => ∃ ws, tv w = some ws ∧ Q ws tt0 O1) E
theorem it_t (h : PDE X Wx e t) : PDI X Wx tg e (dItT t) := (pi_tup h).imp fun σ H R ⟨Γ, O, S, ρ, Q', E', st, h, kq, kx⟩ => ⟨Γ, O, S, ρ, _, E', st, h, fun w1 O1 S1 ρ1 v1 H1 x1 wd1 r1 h1 => by
  obtain ⟨ws, ew, h1⟩ := h1
  obtain ⟨a, vs, rfl, hT, g⟩ := tv_inv ew r1
  refine ⟨a, rfl, ⟨vs, SubH.sqT wd1.sub hT⟩, kq _ _ O1 S1 ρ1 _ H1 x1 wd1 ⟨fun i O' S' ρ' H' x wd _ hi => ?_, fun i w O' S' ρ' H' x H'' ex wd _ hi y => ?_, fun O' S' ρ' H' x wd _ => ?_⟩ h1⟩
  · obtain ⟨v, h3, _⟩ := g.get (List.getElem?_eq_getElem hi)
    exact ⟨vs, v, SubH.sqT wd.sub (SubH.sqT x.sub hT), h3⟩
  · obtain ⟨v, h3, h4⟩ := g.get hi
    obtain ⟨rfl, y⟩ := y
    have e : some v = some x := h3.symm.trans (y vs (SubH.sqT wd.sub (SubH.sqT ex.sub hT)))
    cases e
    exact ⟨S', .refl, wd, h4.ext ex⟩
  · exact ⟨vs, SubH.sqT wd.sub (SubH.sqT x.sub hT), by rw [g.length]; exact Nat.le_refl _⟩, kx⟩
/-- reversed(list or tuple) -/
def dItRv (t : DE) : DI := fun Γ O Q E => t Γ O (fun w O1 => ∃ ws, tv w = some ws ∧ Q ws.reverse tt0 O1) E
theorem it_rv {p pos : Pos} (hm : X.mg "reversed" = none) (h : PDE X Wx e t) (hg : Gl X "reversed" := by rfl) (hs : starEach [e] X.env = (false, eval e X.env) :: starEach [] X.env := by rfl) : PDI X Wx tg (.Call (.Name "reversed" p) [e] [] pos) (dItRv t) :=
  (RT.pi_revA hg hm h hs).imp fun σ H R ⟨Γ, O, S, ρ, Q', E', st, h, kq, kx⟩ => ⟨Γ, O, S, ρ, _, E', st, h, fun w1 O1 S1 ρ1 v1 H1 x1 wd1 r1 h1 => by
  obtain ⟨ws, ew, h1⟩ := h1
  obtain ⟨a, vs, rfl, hT, g⟩ := tv_inv ew r1
  have gl := g.length
  have rg : ∀ i : Nat, i < ws.length → ws.reverse[i]? = ws[ws.length - 1 - i]? := fun i hi => List.getElem?_reverse hi
  refine ⟨a, vs, rfl, .inr ⟨SubH.sqT wd1.sub hT, kq _ _ O1 S1 ρ1 _ H1 x1 wd1 ⟨fun i O' S' ρ' H' x wd _ hi => ?_, fun i w O' S' ρ' H' x H'' ex wd _ hi y => ?_, fun O' S' ρ' H' x wd _ => ?_⟩ h1⟩⟩
  · rw [List.length_reverse] at hi
    have hlt : ws.length - 1 - i < ws.length := by omega
    obtain ⟨v, h3, _⟩ := g.get (List.getElem?_eq_getElem hlt)
    exact ⟨by omega, vs, v, SubH.sqT wd.sub (SubH.sqT x.sub hT), by rw [gl]; exact h3⟩
  · have hi' : i < ws.length := by
      have := (List.getElem?_eq_some_iff.mp hi).1
      simpa using this
    rw [rg i hi'] at hi
    obtain ⟨v, h3, h4⟩ := g.get hi
    obtain ⟨rfl, y⟩ := y
    have q := y vs (SubH.sqT wd.sub (SubH.sqT ex.sub hT))
    rw [gl] at q
    have e : some v = some x := h3.symm.trans q
    cases e
    exact ⟨S', .refl, wd, h4.ext ex⟩
  · show vs.length ≤ ws.reverse.length
    rw [List.length_reverse, gl]; exact Nat.le_refl _, kx⟩
/-- range(n), range(a, b) -/
def rng (lo : Int) (n : Nat) : List W := (List.range n).map fun (i : Nat) => .d (.int (lo + (i : Int)))
theorem itr_rng {K : PySem.W.Frag} {S : Hp} {ρ : Nat → Addr} {n : Nat} {H : Hp} (lo : Int) (m : Nat) : ItR K S ρ n H (Itr lo m) (rng lo m) tt0 where
  go := fun i O' S' ρ' H' x wd c hi => by
    show i < m
    simpa [rng] using hi
  yld := fun i w O' S' ρ' H' x H'' ex wd c hi y => by
    obtain ⟨rfl, rfl⟩ := y
    have hlt : i < m := by
      have := (List.getElem?_eq_some_iff.mp hi).1
      simpa [rng] using this
    have e : w = .d (.int (lo + (i : Int))) := by
      simp [rng, List.getElem?_range hlt] at hi
      exact hi.symm
    subst e
    exact ⟨S', .refl, wd, .d (.int _)⟩
  stop := fun O' S' ρ' H' x wd c => by
    show m ≤ (rng lo m).length
    simp [rng]
def dItR1 (u : DA) : DI := fun Γ O Q E => u Γ O (fun ws O1 => match ws with
  | [.d (.int j)] => -(2 ^ 62) ≤ j ∧ j < 2 ^ 62 ∧ Q (rng 0 j.toNat) tt0 O1
  | _ => False) E
def dItR2 (u : DA) : DI := fun Γ O Q E => u Γ O (fun ws O1 => match ws with
  | [.d (.int i), .d (.int j)] => (-(2 ^ 62) ≤ i ∧ i < 2 ^ 62 ∧ -(2 ^ 62) ≤ j ∧ j < 2 ^ 62) ∧ Q (rng i (j - i).toNat) tt0 O1
  | _ => False) E
theorem it_r1 {a : Expr} {u : DA} {p pos : Pos} (hm : X.mg "range" = none) (ha : PDA X Wx [a] u) (hg : Gl X "range" := by rfl) (hs : starEach [a] X.env = [(false, eval a X.env)] := by rfl) : PDI X Wx tg (.Call (.Name "range" p) [a] [] pos) (dItR1 u) :=
  (pi_range1 hg hm ha hs).imp fun σ H R ⟨Γ, O, S, ρ, Q', E', st, h, kq, kx⟩ => ⟨Γ, O, S, ρ, _, E', st, h, fun ws O1 S1 ρ1 vs H1 x1 wd1 r1 h1 => by
    dsimp only at h1
    split at h1
    · cases r1 with
      | cons r rr =>
        cases rr
        cases r with
        | d r =>
          cases r
          exact ⟨_, rfl, h1.1, h1.2.1, kq _ _ O1 S1 ρ1 _ H1 x1 wd1 (itr_rng _ _) h1.2.2⟩
    · exact h1.elim, kx⟩
theorem it_r2 {a b : Expr} {u : DA} {p pos : Pos} (hm : X.mg "range" = none) (ha : PDA X Wx [a, b] u) (hg : Gl X "range" := by rfl) (hs : starEach [a, b] X.env = [(false, eval a X.env), (false, eval b X.env)] := by rfl) (hs2 : starEach [b] X.env = [(false, eval b X.env)] := by rfl) : PDI X Wx tg (.Call (.Name "range" p) [a, b] [] pos) (dItR2 u) :=
  (pi_range2 hg hm ha hs hs2).imp fun σ H R ⟨Γ, O, S, ρ, Q', E', st, h, kq, kx⟩ => ⟨Γ, O, S, ρ, _, E', st, h, fun ws O1 S1 ρ1 vs H1 x1 wd1 r1 h1 => by
    dsimp only at h1
    split at h1
    · cases r1 with
      | cons r rr =>
        cases rr with
        | cons r2 rr =>
          cases rr
          cases r with
          | d r =>
            cases r
            cases r2 with
            | d r2 =>
              cases r2
              exact ⟨_, _, rfl, h1.1, kq _ _ O1 S1 ρ1 _ H1 x1 wd1 (itr_rng _ _) h1.2⟩
    · exact h1.elim, kx⟩
end
end UZ
/-! UZ, part E: promises of defs over data; calls; comprehensions; methods of lists; isinstance. -/
namespace UZ
open PySem PySem.Spec PyProof.Rows L2

/-! ### what leans on the first n objects alone -/
mutual
inductive Sc (n : Nat) : W → Prop
  | d {x : PyData} : Sc n (.d x)
  | o {k : Nat} : k < n → Sc n (.o k)
  | tp {ws : List W} : ScL n ws → Sc n (.tp ws)
  | rl {xs : List PyData} : Sc n (.rl xs)
  | v {y : V} : Sc n (.v y)
  | exc {a d : Addr} {fs : List (Str × PyData)} : Sc n (.exc a d fs)
  | gl {x : Str} : Sc n (.gl x)
inductive ScL (n : Nat) : List W → Prop
  | nil : ScL n []
  | cons {w : W} {ws : List W} : Sc n w → ScL n ws → ScL n (w :: ws)
end
theorem ScL.map {n : Nat} : ∀ xs : List PyData, ScL n (xs.map .d)
  | [] => .nil
  | _ :: xs => .cons .d (ScL.map xs)
inductive ScF {κ : Type} (n : Nat) : List (κ × W) → Prop
  | nil : ScF n []
  | cons {k : κ} {w : W} {ws : List (κ × W)} : Sc n w → ScF n ws → ScF n ((k, w) :: ws)
def ScO (n : Nat) : Ob → Prop
  | .lst ws => ScL n ws
  | .dK ws => ScF n ws
  | .dT ws => ScF n ws
  | .ins _ ws => ScF n ws
  | .dead => True
section
variable {K : PySem.W.Frag} {S S' : Hp} {ρ : Nat → Addr} {n m : Nat}
mutual
theorem RelW.sc : ∀ {v : V} {w : W}, RelW K S ρ n v w → Sc n w
  | _, _, .d _ => .d
  | _, _, .o h _ => .o h
  | _, _, .tp _ r => .tp (RelWs.sc r)
  | _, _, .rl _ _ => .rl
  | _, _, .v => .v
  | _, _, .exc _ _ => .exc
  | _, _, .gl _ => .gl
theorem RelWs.sc : ∀ {v : List V} {w : List W}, RelWs K S ρ n v w → ScL n w
  | _, _, .nil => .nil
  | _, _, .cons h r => .cons (RelW.sc h) (RelWs.sc r)
end
theorem RelF.sc {κ : Type} : ∀ {v : List (κ × V)} {w : List (κ × W)}, RelF K S ρ n v w → ScF n w
  | _, _, .nil => .nil
  | _, _, .cons h r => .cons h.sc (RelF.sc r)
theorem ObR.sc {H : Hp} {a : Addr} {ob : Ob} (h : ObR K S ρ n H a ob) : ScO n ob := by
  cases h with
  | lst _ r => exact r.sc
  | dK _ r => exact r.sc
  | dT _ r => exact r.sc
  | ins _ r => exact r.sc
  | dead => trivial
mutual
theorem RelW.low : ∀ {v : V} {w : W}, RelW K S ρ n v w → Sc m w → RelW K S ρ m v w
  | _, _, .d h, _ => .d h
  | _, _, .o _ h, .o q => .o q h
  | _, _, .tp h r, .tp q => .tp h (RelWs.low r q)
  | _, _, .rl h r, _ => .rl h r
  | _, _, .v, _ => .v
  | _, _, .exc h r, _ => .exc h r
  | _, _, .gl h, _ => .gl h
theorem RelWs.low : ∀ {v : List V} {w : List W}, RelWs K S ρ n v w → ScL m w → RelWs K S ρ m v w
  | _, _, .nil, _ => .nil
  | _, _, .cons h r, .cons q q2 => .cons (RelW.low h q) (RelWs.low r q2)
end
theorem RelF.low {κ : Type} : ∀ {v : List (κ × V)} {w : List (κ × W)}, RelF K S ρ n v w → ScF m w → RelF K S ρ m v w
  | _, _, .nil, _ => .nil
  | _, _, .cons h r, .cons q q2 => .cons (h.low q) (RelF.low r q2)
theorem ObR.low {H : Hp} {a : Addr} {ob : Ob} (h : ObR K S ρ n H a ob) (q : ScO m ob) : ObR K S ρ m H a ob := by
  cases h with
  | lst h r => exact .lst h (r.low q)
  | dK h r => exact .dK h (r.low q)
  | dT h r => exact .dT h (r.low q)
  | ins h r => exact .ins h (r.low q)
  | dead => exact .dead
end
mutual
/-- resolved without the first n objects -/
inductive RsN (n : Nat) (O : List Ob) : W → PyData → Prop
  | d {x : PyData} : RsN n O (.d x) x
  | o {k : Nat} {ws : List W} {xs : List PyData} : n ≤ k → O[k]? = some (.lst ws) → RsNL n O ws xs → RsN n O (.o k) (.list xs)
  | tp {ws : List W} {xs : List PyData} : RsNL n O ws xs → RsN n O (.tp ws) (.tuple xs)
inductive RsNL (n : Nat) (O : List Ob) : List W → List PyData → Prop
  | nil : RsNL n O [] []
  | cons {w : W} {ws : List W} {x : PyData} {xs : List PyData} : RsN n O w x → RsNL n O ws xs → RsNL n O (w :: ws) (x :: xs)
end
theorem RsNL.map {n : Nat} {O : List Ob} : ∀ xs : List PyData, RsNL n O (xs.map .d) xs
  | [] => .nil
  | _ :: xs => .cons .d (RsNL.map xs)
def OkTake (O O1 : List Ob) : Prop := ∀ (k : Nat) ob, k < O.length → O1[k]? = some ob → O[k]? = some ob ∨ ScO O.length ob
theorem OkTake.refl (O : List Ob) : OkTake O O := fun _ _ _ h => .inl h
theorem OkTake.app (O X : List Ob) : OkTake O (O ++ X) := fun k ob hk h => by rw [List.getElem?_append_left hk] at h; exact .inl h
theorem OkTake.set {O O1 : List Ob} (h : OkTake O O1) {k : Nat} {ob : Ob} (s : ScO O.length ob) : OkTake O (O1.set k ob) := fun j o hj e => by
  by_cases z : j = k
  · subst z
    have hl := (List.getElem?_eq_some_iff.mp e).1
    rw [List.getElem?_set_self (by simpa using hl)] at e
    cases e
    exact .inr s
  · rw [List.getElem?_set_ne (Ne.symm z)] at e
    exact h j o hj e
section
variable {K : PySem.W.Frag} {S S1 : Hp} {ρ ρ1 : Nat → Addr} {H H1 : Hp} {O O1 : List Ob}
/-- THE END OF A DEF: all objects made in it are data from now on -/
theorem settle (wd0 : Wd K S ρ O H) (x1 : Ext S ρ O.length H S1 ρ1 O1.length H1) (wd1 : Wd K S1 ρ1 O1 H1) (ok : OkTake O O1) :
    ∃ S2, Ext S ρ O.length H S2 ρ1 (O1.take O.length).length H1 ∧ Wd K S2 ρ1 (O1.take O.length) H1 ∧ SubH S1 S2 ∧ (∀ k ws vs, O.length ≤ k → O1[k]? = some (.lst ws) → H1 (ρ1 k) = some (.lst vs) → S2 (ρ1 k) = some (.lst vs)) := by
  have hl : (O1.take O.length).length = O.length := by rw [List.length_take]; exact Nat.min_eq_left x1.le
  have tk : ∀ k, k < O.length → (O1.take O.length)[k]? = O1[k]? := fun k hk => by rw [List.getElem?_take]; exact if_pos hk
  have tk' : ∀ k ob, (O1.take O.length)[k]? = some ob → k < O.length ∧ O1[k]? = some ob := fun k ob e => by
    have h1 := (List.getElem?_eq_some_iff.mp e).1
    rw [hl] at h1
    rw [tk k h1] at e
    exact ⟨h1, e⟩
  let P : Addr → Prop := fun a => ∃ k ob, O.length ≤ k ∧ O1[k]? = some ob ∧ ob ≠ .dead ∧ ρ1 k = a
  have dec : ∀ a, Decidable (P a) := fun a => Classical.propDecidable _
  let S2 : Hp := fun a => @ite _ (P a) (dec a) (H1 a) (S1 a)
  have s2y : ∀ a, P a → S2 a = H1 a := fun a h => if_pos h
  have s2n : ∀ a, ¬ P a → S2 a = S1 a := fun a h => if_neg h
  have s12 : SubH S1 S2 := fun a o e => by
    by_cases p : P a
    · rw [s2y a p]; exact wd1.sub a o e
    · rw [s2n a p]; exact e
  refine ⟨S2, ⟨by omega, x1.sub.trans s12, x1.rho, fun k h1 h2 => by omega, x1.dom, x1.frame, fun a o h hs hk => ?_⟩, ⟨fun a o e => ?_, fun k ob e => ?_, fun k ob e hd => ?_, fun i j a b e1 e2 => ?_, fun k hk => wd1.th k (by have := x1.le; omega)⟩, s12, fun k ws vs hk e h => ?_⟩
  · rw [s2n a]
    · exact x1.sfr a o h hs hk
    · rintro ⟨k, ob, h1, h2, _, h4⟩
      have q := x1.new k h1 (Wd.lt h2)
      rw [h4, h] at q; cases q
  · by_cases p : P a
    · rw [s2y a p] at e; exact e
    · rw [s2n a p] at e; exact wd1.sub a o e
  · obtain ⟨hk, e⟩ := tk' k ob e
    rw [hl]
    have q := (wd1.own k ob e).mono s12 (fun _ _ => rfl) (Nat.le_refl _)
    refine q.low ?_
    rcases ok k ob hk e with z | z
    · exact (wd0.own k ob z).sc
    · exact z
  · obtain ⟨hk, e⟩ := tk' k ob e
    rw [s2n]
    · exact wd1.sep k ob e hd
    · rintro ⟨j, oj, h1, h2, h3, h4⟩
      have := wd1.inj j k oj ob h2 e h3 hd h4
      omega
  · obtain ⟨_, e1⟩ := tk' _ _ e1
    obtain ⟨_, e2⟩ := tk' _ _ e2
    exact wd1.inj i j a b e1 e2
  · rw [s2y (ρ1 k) ⟨k, _, hk, e, (fun z => nomatch z), rfl⟩]; exact h
mutual
theorem RsN.rep {S2 : Hp} {n : Nat} (wd1 : Wd K S1 ρ1 O1 H1) (s : SubH S1 S2) (g : ∀ k ws vs, n ≤ k → O1[k]? = some (.lst ws) → H1 (ρ1 k) = some (.lst vs) → S2 (ρ1 k) = some (.lst vs)) :
    ∀ {v : V} {w : W} {x : PyData}, RsN n O1 w x → RelW K S1 ρ1 O1.length v w → Rep K S2 v x
  | _, _, _, .d, r => by cases r with | d r => exact r.sub s
  | _, _, _, .o hk e q, r => by
    cases r with
    | o _ z =>
      subst z
      cases wd1.own _ _ e with
      | lst h r => exact .lst (g _ _ _ hk e h) (RsNL.rep wd1 s g q r)
  | _, _, _, .tp q, r => by cases r with | tp h r => exact .tup (.of (s _ _ h)) (RsNL.rep wd1 s g q r)
theorem RsNL.rep {S2 : Hp} {n : Nat} (wd1 : Wd K S1 ρ1 O1 H1) (s : SubH S1 S2) (g : ∀ k ws vs, n ≤ k → O1[k]? = some (.lst ws) → H1 (ρ1 k) = some (.lst vs) → S2 (ρ1 k) = some (.lst vs)) :
    ∀ {v : List V} {w : List W} {x : List PyData}, RsNL n O1 w x → RelWs K S1 ρ1 O1.length v w → RepL K S2 v x
  | _, _, _, .nil, r => by cases r; exact .nil
  | _, _, _, .cons h q, r => by cases r with | cons r t => exact .cons (RsN.rep wd1 s g h r) (RsNL.rep wd1 s g q t)
end
end

/-! ### promises of defs -/
abbrev DSp := List W → List Ob → DQ → DX → Prop
def KY (K : PySem.W.Frag) (S : Hp) (ρ : Nat → Addr) (n : Nat) (H : Hp) (E' : DX) (E : XK) : Prop := ∀ x O' S' ρ' cls dd H', Ext S ρ n H S' ρ' O'.length H' → Wd K S' ρ' O' H' → RelX K S' ρ' O'.length H' cls dd x → E' x O' → E cls dd H'
def spH (K : PySem.W.Frag) (sp : DSp) : Sp := fun vs H Q E => ∃ ws O S ρ Q' E', Wd K S ρ O H ∧ RelWs K S ρ O.length vs ws ∧ sp ws O Q' E' ∧ KE K S ρ O.length H Q' Q ∧ KY K S ρ O.length H E' E
/-- the def x of the module keeps the promise sp -/
structure FnD (P : Program) (w : World) (K : PySem.W.Frag) (mg : Str → Option Value) (base : Heap) (x : Str) (k : Nat) (ps : List Str) (sp : DSp) : Prop where
  ex : ∃ f fd, FnOk P w K mg base (L2.CX P w) k f fd ps (spH K sp) ∧ mg x = some (.ref f) ∧ PySem.W.keepIn K (.ref f) = true ∧ Binds K fd ps []
theorem FnD.imp {P : Program} {w : World} {K : PySem.W.Frag} {mg : Str → Option Value} {base : Heap} {x : Str} {k : Nat} {ps : List Str} {sp sp' : DSp} (F : FnD P w K mg base x k ps sp) (h : ∀ ws O Q E, sp' ws O Q E → sp ws O Q E) : FnD P w K mg base x k ps sp' := by
  obtain ⟨f, fd, F, r⟩ := F.ex
  exact ⟨f, fd, F.imp fun vs H Q E ⟨ws, O, S, ρ, Q', E', a, b, c, d⟩ => ⟨ws, O, S, ρ, Q', E', a, b, h _ _ _ _ c, d⟩, r⟩
theorem FnD.mono {P : Program} {w : World} {K : PySem.W.Frag} {mg : Str → Option Value} {base : Heap} {x : Str} {j k : Nat} {ps : List Str} {sp : DSp} (F : FnD P w K mg base x j ps sp) (h : j ≤ k) : FnD P w K mg base x k ps sp := by
  obtain ⟨f, fd, F, r⟩ := F.ex
  exact ⟨f, fd, F.mono h, r⟩
def dCall (sp : DSp) (u : DA) : DE := fun Γ O Q E => u Γ O (fun ws O1 => sp ws O1 Q E) E
section
variable {X : Cx} {Wx : WX} {e : Expr} {es : List Expr} {u : DA} {x : Str} {p pos : Pos} {k : Nat} {ps : List Str} {sp : DSp}
theorem d_call (bx : Bx X Wx) (F : FnD X.prog X.w X.K X.mg X.base x k ps sp) (hr : Room k X.A) (ha : PDA X Wx (e :: es) u) (hg : Gl X x := by rfl) (hdb : (x == ("__debug__" : Str)) = false := by decide)
    (he : starEach (e :: es) X.env = (false, eval e X.env) :: starEach es X.env := by rfl) (hpl : (backTo pos (starEach es X.env)).any (·.1) = false := by rfl) : PDE X Wx (.Call (.Name x p) (e :: es) [] pos) (dCall sp u) := by
  obtain ⟨f, fd, F, gm, kp, b⟩ := F.ex
  exact (pe_callS F hr hg gm kp b (fun σ => passAt bx.tk σ) ha hdb he hpl).imp fun σ H Q ⟨Γ, O, S, ρ, Q', E', st, h, kq, kx⟩ =>
    ⟨Γ, O, S, ρ, _, E', st, h, fun ws O1 S1 ρ1 vs H1 x1 wd1 r1 h1 => ⟨ws, O1, S1, ρ1, Q', E', wd1, r1, h1, kq.ext x1, fun y O2 S2 ρ2 c d H2 x2 wd2 r2 q2 => kx y O2 S2 ρ2 c d H2 (x1.trans x2) wd2 r2 q2⟩, kx⟩
/-- a call without arguments that raises nothing -/
def dCall0 (sp : DSp) : DE := fun _ O Q _ => sp [] O Q noX
theorem d_call0 (F : FnD X.prog X.w X.K X.mg X.base x k ps sp) (hr : Room k X.A) (hg : Gl X x := by rfl) (hdb : (x == ("__debug__" : Str)) = false := by decide) : PDE X Wx (.Call (.Name x p) [] [] pos) (dCall0 sp) := by
  obtain ⟨f, fd, F, gm, kp, b⟩ := F.ex
  exact (pe_call0 F hr hg gm kp b .nil passL hdb).imp fun σ H Q ⟨Γ, O, S, ρ, Q', E', st, h, kq, kx⟩ => ⟨[], O, S, ρ, Q', noX, st.wd, .nil, h, kq, fun _ _ _ _ _ _ _ _ _ _ q => q.elim⟩
end
def startD (N : List Str) (ws : List W) : Gm := ws.map some ++ List.replicate (N.length - ws.length) none
theorem start_rel {K : PySem.W.Frag} {S : Hp} {ρ : Nat → Addr} {n : Nat} {N : List Str} {vs : List V} {ws : List W} (r : RelWs K S ρ n vs ws) : RelS K S ρ n (L2.start N vs) (startD N ws) := by
  unfold L2.start startD
  refine ⟨by simp [r.length], fun i w e => ?_⟩
  by_cases hi : i < ws.length
  · rw [List.getElem?_append_left (by simpa using hi)] at e
    simp only [List.getElem?_map, Option.map_eq_some_iff] at e
    obtain ⟨w', e1, e2⟩ := e
    cases e2
    obtain ⟨v, h1, h2⟩ := r.get e1
    exact ⟨v, by rw [List.getElem?_append_left (by rw [List.length_map, r.length]; exact hi), List.getElem?_map, h1]; rfl, h2⟩
  · rw [List.getElem?_append_right (by simpa using Nat.le_of_not_lt hi)] at e
    have := List.mem_of_getElem? e
    rw [List.mem_replicate] at this
    cases this.2
/-- the ends of a def's body: what it gives, as it stands or settled -/
def Fin (O : List Ob) (Q : DQ) : DQ := fun w O1 => Q w O1 ∨ ∃ x, RsN O.length O1 w x ∧ OkTake O O1 ∧ Q (.d x) (O1.take O.length)
def endsD (O : List Ob) (Q : DQ) (E : DX) : DEnds := { nx := fun _ O1 => Fin O Q (.d .none) O1, rt := Fin O Q, ex := fun x _ O1 => E x O1 ∨ (OkTake O O1 ∧ E x (O1.take O.length)) }
/-- the context of a def's body -/
abbrev wE (E : XK) : WX := fun cls d _ H => E cls d H
section
variable {P : Program} {w : World} {K : PySem.W.Frag} {mg : Str → Option Value} {base : Heap}
theorem fn_O {x qual : Str} {st : Stmt} {f : Addr} {fd : FuncData} {N ps : List Str} {k : Nat} {sp : DSp} (t : DS) (F : Fun K x qual st f fd) (S : FnScope N ps (defScope st))
    (len : ∀ ws O Q E, sp ws O Q E → ws.length = ps.length)
    (body : ∀ (cdv : Value) (A : Around) (outer : List Env) (s : Shared) (H : Hp) (E : XK), Room k (A.deeper (envOfC qual (defScope st) s.heap.objs.size f cdv)) → Bx (cxOf (L2.CX P w) P w K mg base N qual (defScope st) f cdv A outer s H E) (wE E) →
      PDSs (cxOf (L2.CX P w) P w K mg base N qual (defScope st) f cdv A outer s H E) (wE E) (defBody st) t)
    (run : ∀ ws O Q E, sp ws O Q E → t (endsD O Q E) (startD N ws) O) : FnOk P w K mg base (L2.CX P w) (k + 1) f fd ps (spH K sp) := by
  refine F.okX S (fun vs H Q E ⟨ws, O, S, ρ, Q', E', _, r, h, _⟩ => r.length.trans (len ws O Q' E' h)) (fun cdv A outer s H vs Q E hr hsp => ?_)
  obtain ⟨ws, O, S0, ρ, Q', E', wd, r, h, kq, ky⟩ := hsp
  refine ⟨_, body cdv A outer s H E hr ⟨takes_of rfl rfl rfl rfl, rfl, passes_of rfl, S.nd⟩, startD N ws, O, S0, ρ, _, ⟨wd, start_rel r⟩, run ws O Q' E' h, ?_⟩
  have fin : ∀ w1 O1 S1 ρ1 v1 H1, Ext S0 ρ O.length H S1 ρ1 O1.length H1 → Wd K S1 ρ1 O1 H1 → RelW K S1 ρ1 O1.length v1 w1 → Fin O Q' w1 O1 → Q v1 H1 := fun w1 O1 S1 ρ1 v1 H1 x1 wd1 r1 h1 => by
    rcases h1 with h1 | ⟨y, ry, ok, h1⟩
    · exact kq w1 O1 S1 ρ1 v1 H1 x1 wd1 r1 h1
    · obtain ⟨S2, x2, wd2, s12, g⟩ := settle wd x1 wd1 ok
      exact kq (.d y) _ S2 ρ1 v1 H1 x2 wd2 (.d (RsN.rep wd1 s12 g ry r1)) h1
  refine ⟨fun Γ1 O1 S1 ρ1 σ1 H1 x1 st1 h1 => fin _ O1 S1 ρ1 .non H1 x1 st1.wd (.d .non) h1, fin, fun _ _ _ _ _ _ _ _ q => q.elim, fun _ _ _ _ _ _ _ _ q => q.elim, fun y Γ1 O1 S1 ρ1 σ1 cls dd H1 x1 st1 rx h1 => ?_⟩
  rcases h1 with h1 | ⟨ok, h1⟩
  · exact ky y O1 S1 ρ1 cls dd H1 x1 st1.wd rx h1
  · obtain ⟨S2, x2, wd2, s12, g⟩ := settle wd x1 st1.wd ok
    refine ky y _ S2 ρ1 _ _ H1 x2 wd2 ?_ h1
    cases rx with
    | plain c => exact .plain c
    | fld c e r => exact .fld c (s12 _ _ e) (r.sub s12)
theorem fn_D {x qual : Str} {st : Stmt} {f : Addr} {fd : FuncData} {N ps : List Str} {k : Nat} {sp : DSp} (t : DS) (F : Fun K x qual st f fd) (gm : mg x = some (.ref f)) (b : Binds K fd ps []) (S : FnScope N ps (defScope st))
    (len : ∀ ws O Q E, sp ws O Q E → ws.length = ps.length)
    (body : ∀ (cdv : Value) (A : Around) (outer : List Env) (s : Shared) (H : Hp) (E : XK), Room k (A.deeper (envOfC qual (defScope st) s.heap.objs.size f cdv)) → Bx (cxOf (L2.CX P w) P w K mg base N qual (defScope st) f cdv A outer s H E) (wE E) →
      PDSs (cxOf (L2.CX P w) P w K mg base N qual (defScope st) f cdv A outer s H E) (wE E) (defBody st) t)
    (run : ∀ ws O Q E, sp ws O Q E → t (endsD O Q E) (startD N ws) O) : FnD P w K mg base x (k + 1) ps sp := ⟨f, fd, fn_O t F S len body run, gm, F.kp, b⟩
/-- the law's own promise, from what it says of a script -/
theorem law_sp {H : Hp} {a : Addr} {ns : List Int} (hS : SqL K H a (ns.map V.int)) {sp : DSp} (h : ∀ Q : DQ, Q (.d (.bool true)) [] → sp [.rl (ns.map .int)] [] Q noX) : spH K sp [.ref a] H (fun v _ => v = .bl true) fun _ _ _ => False := by
  have ri : ∀ ns : List Int, RepL K H (ns.map V.int) (ns.map .int) := fun ns => by
    induction ns with
    | nil => exact .nil
    | cons i ns ih => exact .cons (.int i) ih
  refine ⟨[.rl (ns.map .int)], [], H, fun _ => 0, fun w _ => w = .d (.bool true), noX, ⟨fun _ _ e => e, fun k ob e => ?_, fun k ob e => ?_, fun j k a b e => ?_, fun k hk => absurd hk (Nat.not_lt_zero _)⟩, .cons (.rl hS (ri ns)) .nil, h _ rfl, fun w O' S' ρ' v H' _ _ r q => ?_, fun _ _ _ _ _ _ _ _ _ _ q => q.elim⟩
  · cases e
  · cases e
  · cases e
  · subst q
    cases r with
    | d r => cases r; rfl
end

/-! ### comprehensions -/
/-- the targets of a comprehension: a name, or a tuple of names -/
inductive Tg where
  | one (i : Nat) | many (is : List Nat)
def tgNs : List Nat → TGs
  | [] => gNil
  | i :: is => gCons (gName i) (tgNs is)
def tgH (K : PySem.W.Frag) : Tg → TG
  | .one i => gName i
  | .many is => gTup K is.length (tgNs is)
def Tg.ix : Tg → List Nat
  | .one i => [i]
  | .many is => is
def setAll : List Nat → List W → Gm → Gm
  | i :: is, w :: ws, Γ => setAll is ws (Γ.set i (some w))
  | _, _, Γ => Γ
def tgD (g : Tg) (w : W) (Γ : Gm) (Q : Gm → Prop) : Prop := match g with
  | .one i => Q (Γ.set i (some w))
  | .many is => ∃ ws, tv w = some ws ∧ ws.length = is.length ∧ Q (setAll is ws Γ)
def wipeD (Γ : Gm) : List Nat → Gm
  | [] => Γ
  | i :: is => (wipeD Γ is).set i none
theorem wipe_set {σ : L2.St} {i : Nat} {o : Option V} : ∀ {vs : List Nat}, i ∈ vs → wipe (σ.set i o) vs = wipe σ vs
  | [], h => by cases h
  | j :: vs, h => by
    by_cases e : j = i
    · subst e
      have q : ∀ (us : List Nat) (τ : L2.St), (wipe (τ.set j o) us).set j none = (wipe τ us).set j none := by
        intro us
        induction us with
        | nil => intro τ; show (τ.set j o).set j none = τ.set j none; rw [List.set_set]
        | cons a us ih =>
          intro τ
          show ((wipe (τ.set j o) us).set a none).set j none = ((wipe τ us).set a none).set j none
          by_cases ea : a = j
          · subst ea; rw [List.set_set, List.set_set]; exact ih τ
          · rw [List.set_comm _ _ ea, List.set_comm _ _ ea, ih τ]
      exact q vs σ
    · have hm : i ∈ vs := by
        rcases List.mem_cons.mp h with z | z
        · exact absurd z.symm e
        · exact z
      show (wipe (σ.set i o) vs).set j none = (wipe σ vs).set j none
      rw [wipe_set hm]
theorem wipe_idem (σ : L2.St) (vs : List Nat) : wipe (wipe σ vs) vs = wipe σ vs := by
  have q : ∀ (us : List Nat) (τ : L2.St) (i : Nat), (wipe (τ.set i none) us) = (wipe τ us).set i none := by
    intro us
    induction us with
    | nil => intro τ i; rfl
    | cons a us ih =>
      intro τ i
      show (wipe (τ.set i none) us).set a none = ((wipe τ us).set a none).set i none
      rw [ih τ i]
      by_cases ea : a = i
      · subst ea; rfl
      · exact List.set_comm _ _ (Ne.symm ea)
  induction vs with
  | nil => rfl
  | cons a vs ih =>
    show (wipe ((wipe σ vs).set a none) vs).set a none = (wipe σ vs).set a none
    rw [q, ih, List.set_set]
theorem RelS.wipe {K : PySem.W.Frag} {S : Hp} {ρ : Nat → Addr} {n : Nat} {σ : L2.St} {Γ : Gm} (h : RelS K S ρ n σ Γ) : ∀ vs : List Nat, RelS K S ρ n (L2.wipe σ vs) (wipeD Γ vs)
  | [] => h
  | i :: vs => by
    have q := RelS.wipe h vs
    show RelS K S ρ n ((L2.wipe σ vs).set i none) ((wipeD Γ vs).set i none)
    refine ⟨by simp [q.1], fun j w e => ?_⟩
    by_cases hj : j = i
    · subst hj
      have hl : j < (wipeD Γ vs).length := by
        have := (List.getElem?_eq_some_iff.mp e).1
        simpa using this
      rw [List.getElem?_set_self hl] at e
      cases e
    · rw [List.getElem?_set_ne (Ne.symm hj)] at e ⊢
      exact q.2 j w e
section
variable {K : PySem.W.Frag} {S : Hp} {ρ : Nat → Addr} {H : Hp} {O : List Ob}
theorem tgNs_run : ∀ {is : List Nat} {vs : List V} {ws : List W} {σ : L2.St} {Γ : Gm} {us : List Nat} {Q : L2.St → Hp → Prop}, RelWs K S ρ O.length vs ws → ws.length = is.length → At K S ρ H O σ Γ → (∀ i ∈ is, i ∈ us) →
    (∀ σ', At K S ρ H O σ' (setAll is ws Γ) → L2.wipe σ' us = L2.wipe σ us → Q σ' H) → tgNs is vs σ H Q
  | [], vs, ws, σ, Γ, us, Q, r, hl, st, _, k => by
    cases ws with
    | nil => cases r; exact ⟨rfl, k σ st rfl⟩
    | cons _ _ => cases hl
  | i :: is, vs, ws, σ, Γ, us, Q, r, hl, st, hu, k => by
    cases r with
    | nil => cases hl
    | cons r rr =>
      refine ⟨_, _, rfl, ?_⟩
      show tgNs is _ (σ.set i (some _)) H Q
      refine tgNs_run rr (by simpa using hl) (st.set i r) (fun j hj => hu j (List.mem_cons_of_mem _ hj)) fun σ' st' e => ?_
      exact k σ' st' (e.trans (wipe_set (hu i List.mem_cons_self)))
theorem tg_run {g : Tg} {v : V} {w : W} {σ : L2.St} {Γ : Gm} {us : List Nat} {Q : L2.St → Hp → Prop} {Q' : Gm → Prop} (r : RelW K S ρ O.length v w) (st : At K S ρ H O σ Γ) (hu : ∀ i ∈ g.ix, i ∈ us) (h : tgD g w Γ Q')
    (k : ∀ σ' Γ', At K S ρ H O σ' Γ' → L2.wipe σ' us = L2.wipe σ us → Q' Γ' → Q σ' H) : tgH K g v σ H Q := by
  cases g with
  | one i => exact k _ _ (st.set i r) (wipe_set (hu i List.mem_cons_self)) h
  | many is =>
    obtain ⟨ws, e, hl, h⟩ := h
    obtain ⟨a, vs, rfl, h1, g1⟩ := tv_inv e r
    exact ⟨a, vs, rfl, SubH.sqT st.wd.sub h1, by rw [g1.length]; exact hl, tgNs_run g1 hl st hu fun σ' st' e => k σ' _ st' e h⟩
/-- a list that stands in H, in neither part of the world, is taken in -/
theorem Wd.adoptL {D : Addr} {vs : List V} (wd : Wd K S ρ O H) (hD : H D = some (.lst vs)) (nS : S D = none) (nO : ∀ k, k < O.length → ρ k ≠ D) : Wd K (upd S D (.lst vs)) ρ O H := by
  refine ⟨fun a o e => ?_, fun k ob e => ?_, fun k ob e hd => ?_, wd.inj, wd.th⟩
  · by_cases z : a = D
    · subst z; rw [upd_same] at e; cases e; exact hD
    · rw [upd_ne z] at e; exact wd.sub a o e
  · exact (wd.own k ob e).mono (fun a o h => by rw [upd_ne (fun z => by rw [z, nS] at h; cases h)]; exact h) (fun _ _ => rfl) (Nat.le_refl _)
  · rw [upd_ne (nO k (Wd.lt e))]; exact wd.sep k ob e hd
theorem Wd.adoptO {D : Addr} {vs : List V} {ws : List W} (wd : Wd K S ρ O H) (hD : H D = some (.lst vs)) (nS : S D = none) (nO : ∀ k, k < O.length → ρ k ≠ D) (r : RelWs K S ρ O.length vs ws) : Wd K S (rhoP ρ O.length D) (O ++ [.lst ws]) H := by
  have rr : ∀ k, k < O.length → rhoP ρ O.length D k = ρ k := fun k h => rhoP_lt h
  have len : (O ++ [Ob.lst ws]).length = O.length + 1 := by simp
  have cs : ∀ k o, (O ++ [Ob.lst ws])[k]? = some o → (k < O.length ∧ O[k]? = some o) ∨ (k = O.length ∧ o = .lst ws) := fun k o h => by
    by_cases hk : k < O.length
    · rw [List.getElem?_append_left hk] at h; exact .inl ⟨hk, h⟩
    · rw [List.getElem?_append_right (Nat.le_of_not_lt hk)] at h
      by_cases e : k = O.length
      · subst e; simp at h; exact .inr ⟨rfl, h.symm⟩
      · obtain ⟨m, hm⟩ := Nat.exists_eq_succ_of_ne_zero (show k - O.length ≠ 0 by omega)
        rw [hm] at h; simp at h
  refine ⟨wd.sub, fun k o h => ?_, fun k o h hd => ?_, fun j k a b h1 h2 d1 d2 e => ?_, fun k hk => ?_⟩
  · rcases cs k o h with ⟨hk, h⟩ | ⟨rfl, rfl⟩
    · rw [rr k hk]; exact (wd.own k o h).mono (.refl _) rr (by omega)
    · rw [rhoP_eq]; exact .lst hD (r.mono (.refl _) rr (by omega))
  · rcases cs k o h with ⟨hk, h⟩ | ⟨rfl, rfl⟩
    · rw [rr k hk]; exact wd.sep k o h hd
    · rw [rhoP_eq]; exact nS
  · rcases cs j a h1 with ⟨hj, g1⟩ | ⟨ej, ea⟩ <;> rcases cs k b h2 with ⟨hk, g2⟩ | ⟨ek, eb⟩
    · rw [rr j hj, rr k hk] at e; exact wd.inj j k a b g1 g2 d1 d2 e
    · rw [rr j hj, ek, rhoP_eq] at e; exact absurd e (nO j hj)
    · rw [rr k hk, ej, rhoP_eq] at e; exact absurd e.symm (nO k hk)
    · rw [ej, ek]
  · by_cases hk' : k < O.length
    · rw [rr k hk']; exact wd.th k hk'
    · have e : k = O.length := by omega
      subst e
      exact ⟨_, by rw [rhoP_eq]; exact hD⟩
end
/-- the turns: what is made so far, the items left -/
def dLcL (g : Tg) (tt : DT) (te : DE) (chk : List Ob → Prop) (Γ : Gm) : List W → List W → List Ob → (List W → List Ob → Prop) → Prop
  | [], acc, O, R => chk O ∧ R acc O
  | w :: ws, acc, O, R => chk O ∧ ∃ N : List W → List Ob → Prop, (∀ acc' O', N acc' O' → dLcL g tt te chk Γ ws acc' O' R) ∧ tgD g w Γ fun Γ1 => tt Γ1 O (fun b O1 => if b = true then te Γ1 O1 (fun y O2 => acc.length < sizeLine ∧ N (acc ++ [y]) O2) noX else N acc O1) noX
def dYes : DT := fun _ O Q _ => Q true O
/-- never changed again | to be changed -/
def dLc (it : DI) (g : Tg) (tt : DT) (te : DE) (us : List Nat) : DE := fun Γ O Q E => it Γ O (fun items chk O1 => dLcL g tt te chk (wipeD Γ us) items [] O1 fun acc O2 => match allD acc with
  | some xs => Q (.d (.list xs)) O2
  | none => False) E
def dLcO (it : DI) (g : Tg) (tt : DT) (te : DE) (us : List Nat) : DE := fun Γ O Q E => it Γ O (fun items chk O1 => dLcL g tt te chk (wipeD Γ us) items [] O1 fun acc O2 => Q (.o O2.length) (O2 ++ [.lst acc])) E
abbrev Wx0 : WX := fun _ _ _ _ => False
section
variable {X : Cx} {Wx : WX}
theorem lc_read {it : DI} {g : Tg} {tt : DT} {te : DE} {us : List Nat} {R : List W → List Ob → Prop} {Γ : Gm} {O : List Ob} {S : Hp} {ρ : Nat → Addr} {E' : DX} {σ : L2.St} {H : Hp} {Q : VK} (hu : ∀ i ∈ g.ix, i ∈ us)
    (st : At X.K S ρ H O σ Γ) (h : it Γ O (fun items chk O1 => dLcL g tt te chk (wipeD Γ us) items [] O1 R) E') (kx : KX X.K S ρ O.length H σ E' Wx)
    (fin : ∀ acc O1 S1 ρ1 H1 D vs, Ext S ρ O.length H S1 ρ1 O1.length H1 → Wd X.K S1 ρ1 O1 H1 → H D = none → H1 D = some (.lst vs) → S1 D = none → (∀ k, k < O1.length → ρ1 k ≠ D) → RelWs X.K S1 ρ1 O1.length vs acc → R acc O1 → Q (.ref D) H1) :
    tLc (iI X.K Wx it) (tgH X.K g) (iT X.K Wx0 tt) (iE X.K Wx0 te) us σ H Q := by
  refine ⟨Γ, O, S, ρ, _, E', st, h, fun items chk O1 S1 ρ1 J H1 x1 wd1 ir h1 => ?_, kx⟩
  intro D nD
  have nDH : H D = none := by
    cases e : H D with
    | none => rfl
    | some o =>
      obtain ⟨o', e'⟩ := x1.dom D o e
      rw [nD] at e'; cases e'
  have neD : ∀ a o, H1 a = some o → a ≠ D := fun a o h z => by rw [z, nD] at h; cases h
  have nS1 : S1 D = none := by
    cases e : S1 D with
    | none => rfl
    | some o => rw [wd1.sub D o e] at nD; cases nD
  -- the state of the loop: what is made stands at D, apart from the world
  let G : Nat → List W → Hp → Prop := fun i acc H' => ∃ O2 S2 ρ2 vs, Ext S1 ρ1 O1.length H1 S2 ρ2 O2.length H' ∧ Wd X.K S2 ρ2 O2 H' ∧ H' D = some (.lst vs) ∧ S2 D = none ∧ (∀ k, k < O2.length → ρ2 k ≠ D) ∧ RelWs X.K S2 ρ2 O2.length vs acc ∧ dLcL g tt te chk (wipeD Γ us) (items.drop i) acc O2 R
  -- a written D keeps the world
  have put : ∀ {H' : Hp} {O2 : List Ob} {S2 : Hp} {ρ2 : Nat → Addr} {vs' : List V}, Ext S1 ρ1 O1.length H1 S2 ρ2 O2.length H' → Wd X.K S2 ρ2 O2 H' → S2 D = none → (∀ k, k < O2.length → ρ2 k ≠ D) → Ext S1 ρ1 O1.length H1 S2 ρ2 O2.length (upd H' D (.lst vs')) ∧ Wd X.K S2 ρ2 O2 (upd H' D (.lst vs')) := fun {H' O2 S2 ρ2 vs'} x wd nS nO => by
    refine ⟨⟨x.le, x.sub, x.rho, x.new, fun a o h => ?_, fun a o h hk => by rw [upd_ne (neD a o h)]; exact x.frame a o h hk, x.sfr⟩, ⟨fun a o h => by rw [upd_ne (fun z => by rw [z, nS] at h; cases h)]; exact wd.sub a o h, fun k ob e => ?_, wd.sep, wd.inj, fun k hk => ?_⟩⟩
    · obtain ⟨o', e⟩ := x.dom a o h
      exact ⟨o', by rw [upd_ne (neD a o h)]; exact e⟩
    · exact (wd.own k ob e).at fun o q => by rw [upd_ne (nO k (Wd.lt e))]; exact q
    · obtain ⟨o, h⟩ := wd.th k hk
      exact ⟨o, by rw [upd_ne (nO k hk)]; exact h⟩
  have rhoD : ∀ k, k < O1.length → ρ1 k ≠ D := fun k hk z => by
    obtain ⟨o, q⟩ := wd1.th k hk
    rw [z, nD] at q; cases q
  -- a step of the world leaves D alone
  have stay : ∀ {H' H'' : Hp} {O2 O3 : List Ob} {S2 S3 : Hp} {ρ2 ρ3 : Nat → Addr} {vs : List V}, H' D = some (.lst vs) → S2 D = none → (∀ k, k < O2.length → ρ2 k ≠ D) → Ext S2 ρ2 O2.length H' S3 ρ3 O3.length H'' → H'' D = some (.lst vs) ∧ S3 D = none ∧ ∀ k, k < O3.length → ρ3 k ≠ D := fun {H' H'' O2 O3 S2 S3 ρ2 ρ3 vs} hD nS nO x => by
    refine ⟨x.frame D _ hD nO, x.sfr D _ hD nS nO, fun k hk => ?_⟩
    by_cases hk2 : k < O2.length
    · rw [x.rho k hk2]; exact nO k hk2
    · intro z
      have q := x.new k (Nat.le_of_not_lt hk2) hk
      rw [z, hD] at q; cases q
  have stW : ∀ {H' : Hp} {O2 : List Ob} {S2 : Hp} {ρ2 : Nat → Addr}, Ext S1 ρ1 O1.length H1 S2 ρ2 O2.length H' → Wd X.K S2 ρ2 O2 H' → At X.K S2 ρ2 H' O2 (L2.wipe σ us) (wipeD Γ us) := fun {H' O2 S2 ρ2} x wd => ⟨wd, (((st.ext x1 wd1).rs).ext x).wipe us⟩
  refine ⟨fun i m H' => i ≤ items.length ∧ m = items.length - i ∧ ∃ acc, G i acc H', ⟨items.length, Nat.zero_le _, by simp, [], ?_⟩, ?_⟩
  · obtain ⟨xx, ww⟩ := put (vs' := []) .refl wd1 nS1 rhoD
    exact ⟨O1, S1, ρ1, [], xx, ww, upd_same, nS1, rhoD, .nil, by rw [List.drop_zero]; exact h1⟩
  · rintro i m H2 ⟨hi, rfl, acc, O2, S2, ρ2, vs, x2, wd2, hD, nS, nO, rv, h2⟩
    by_cases hlt : i < items.length
    · have ew : items[i]? = some items[i] := List.getElem?_eq_getElem hlt
      rw [List.drop_eq_getElem_cons hlt] at h2
      refine .inr ⟨ir.go i O2 S2 ρ2 H2 x2 wd2 h2.1 hlt, fun H' => ∃ acc', G (i + 1) acc' H', fun H' ⟨acc', g⟩ => ⟨items.length - (i + 1), by omega, hlt, rfl, acc', g⟩, fun x H' y => ?_⟩
      obtain ⟨S3, x3, wd3, r3⟩ := ir.yld i _ O2 S2 ρ2 H2 x H' x2 wd2 h2.1 ew y
      obtain ⟨hD3, nS3, nO3⟩ := stay (O3 := O2) hD nS nO x3
      have x23 := x2.trans x3
      obtain ⟨_, N, hN, h2⟩ := h2
      refine tg_run r3 (stW x23 wd3) hu h2 fun σ4 Γ4 st4 ew4 h4 => ⟨ew4.trans (wipe_idem σ us) |>.trans rfl, ?_⟩
      refine ⟨Γ4, O2, S3, ρ2, _, noX, st4, h4, fun b O5 S5 ρ5 H5 x5 wd5 h5 => ?_, .no⟩
      obtain ⟨hD5, nS5, nO5⟩ := stay hD3 nS3 nO3 x5
      have x25 := x23.trans x5
      cases b with
      | false =>
        dsimp only at h5 ⊢
        rw [if_neg (by decide)] at h5 ⊢
        exact ⟨acc, O5, S5, ρ5, vs, x25, wd5, hD5, nS5, nO5, (rv.ext x3).ext x5, hN _ _ h5⟩
      | true =>
        dsimp only at h5 ⊢
        rw [if_pos rfl] at h5 ⊢
        refine ⟨Γ4, O5, S5, ρ5, _, noX, st4.ext x5 wd5, h5, fun z O6 S6 ρ6 v6 H6 x6 wd6 r6 h6 => ?_, .no⟩
        obtain ⟨hD6, nS6, nO6⟩ := stay hD5 nS5 nO5 x6
        have rv6 := ((rv.ext x3).ext x5).ext x6
        obtain ⟨xx, ww⟩ := put (vs' := vs ++ [v6]) (x25.trans x6) wd6 nS6 nO6
        exact ⟨vs, hD6, by rw [rv6.length]; exact h6.1, acc ++ [z], O6, S6, ρ6, vs ++ [v6], xx, ww, upd_same, nS6, nO6, rv6.append (.cons r6 .nil), hN _ _ h6.2⟩
    · have e : i = items.length := by omega
      subst e
      rw [List.drop_length] at h2
      exact .inl ⟨ir.stop O2 S2 ρ2 H2 x2 wd2 h2.1, fin acc O2 S2 ρ2 H2 D vs (x1.trans x2) wd2 nDH hD nS nO rv h2.2⟩
end
end UZ
/-! UZ, part F: comprehensions linked, methods of lists, isinstance, enumerate, zip, signs. -/
namespace PySem
open AutoSeq1 (wpAny_loadPart')
set_option maxHeartbeats 1000000 in
theorem uz_enumerate_new {v : Value} {o : Obj} {H : Heap → Prop} (B : Begins v o H) :
    Meets (Builtin.«enumerate.__new__» ⟨[.type "enumerate", v], []⟩) (fun _ R s => H s.heap ∧
      R (.ok (.ret (.ref (s.heap.push o).objs.size))) { s with heap := (s.heap.push o).push { cls := .type "enumerate", data := .fields #[.none, .bool false, .ref s.heap.objs.size, rawInt 0, .none, .none] } }) :=
  .of_wp fun prog w A R s h => by
    obtain ⟨hp, g, d, tk, os⟩ := s; obtain ⟨h1, h⟩ := h
    have hsub := sub_enumerate
    have q1 : ∀ {A' : Around} {E : Value → Shared → Prop} {Q : Value → Shared → Prop}, Q (.ref hp.objs.size) ⟨hp.push o, g, d, tk, os⟩ → wpAny (model prog w) A' (pyIter v) Q E ⟨hp, g, d, tk, os⟩ :=
      fun q => B.iter prog w _ _ ⟨hp, g, d, tk, os⟩ _ h1 q
    wp_walk using q1
    refine wpAny_stack_any fun st => wpAny_pure ?_
    split
    · rename_i c _ _ _ _ _
      cases (c == Value.type "enumerate")
      · wp_walk using q1
        exact ⟨_, rfl, h⟩
      · wp_walk using q1
        exact ⟨_, rfl, h⟩
    · wp_walk using q1
      exact ⟨_, rfl, h⟩
theorem uz_enum_begins {prog : Program} {w : World} {A : Around} {E : Value → Shared → Prop} {s : Shared} {v : Value} {o : Obj} {H : Heap → Prop} {Q : Value → Shared → Prop} (B : Begins v o H) (h1 : H s.heap)
    (h : ∀ h', IsEnum h' (s.heap.objs.size + 1) s.heap.objs.size 0 .none → h'.get? s.heap.objs.size = some o → h'.objs.size = s.heap.objs.size + 2 →
      (∀ b o, s.heap.get? b = some o → h'.get? b = some o) → Q (.ref (s.heap.objs.size + 1)) { s with heap := h' }) :
    wpAny (model prog w) A (call (.type "enumerate") [v]) Q E s := by
  refine callType_new F.called_enumerate (by decide) (F.typeCall_enumerate_1 _) (F.newCall_enumerate_1 _) (fun obj => F.args_object_init_2 obj _) F.entry_enumerate_new
    (uz_enumerate_new B) ⟨h1, ?_⟩
  have hz : (s.heap.push o).objs.size = s.heap.objs.size + 1 := Heap.size_push ..
  show _ ∧ _
  rw [hz]
  have he : IsEnum ((s.heap.push o).push { cls := .type "enumerate", data := .fields #[.none, .bool false, .ref s.heap.objs.size, rawInt 0, .none, .none] }) (s.heap.objs.size + 1) s.heap.objs.size 0 .none := by
    have := Heap.get?_push_size (s.heap.push o) (o := { cls := .type "enumerate", data := .fields #[.none, .bool false, .ref s.heap.objs.size, rawInt 0, .none, .none] }) rfl
    rw [hz] at this; exact this
  refine ⟨⟨_, he, rfl⟩, h _ he (Heap.get?_push_of_some _ (Heap.get?_push_size _ B.free)) (by rw [Heap.size_push, hz]) fun b o x => Heap.get?_push_of_some _ (Heap.get?_push_of_some _ x)⟩
end PySem
namespace UZ
open PySem PySem.Spec PyProof.Rows L2

/-! ### comprehensions -/
section
variable {X : Cx} {Wx : WX} {pos : Pos}
theorem Bx.blk (bx : Bx X Wx) (s : Shared) (H : Hp) (scope : Scope) (cenv : Env) (fp : List Addr) : Bx (X.blk s H scope cenv fp) Wx0 := ⟨takes0, bx.calm, PassesOwn.never, bx.nd⟩
theorem _root_.L2.PTs.imp {e : List Expr} {t t' : TT} (h : PTs X e t) (i : ∀ σ H Q, t' σ H Q → t σ H Q) : PTs X e t' := ⟨fun pins s σ H Q I q => h.run pins s σ H Q I (i σ H Q q)⟩
theorem ts_nil : PTs X [] (iT X.K Wx dYes) := L2.PTs.imp pts_nil fun σ H Q ⟨Γ, O, S, ρ, Q', E', st, h, kq, _⟩ => kq true O S ρ H .refl st.wd h
theorem ts_one {c : Expr} {t : DT} (h : PDT X Wx c t) : PTs X [c] (iT X.K Wx t) := pts_one h
variable {elt tg iter : Expr} {ifs : List Expr} {scope : Scope} {own : List (Str × Nat)} {it : DI} {g : Tg} {tt : DT} {te : DE}
theorem lcL_fin {K : PySem.W.Frag} {S : Hp} {ρ : Nat → Addr} {H : Hp} {O : List Ob} {Q' : DQ} {Q : VK} (wd : Wd K S ρ O H) (kq : KE K S ρ O.length H Q' Q) :
    ∀ (acc : List W) (O1 : List Ob) (S1 : Hp) (ρ1 : Nat → Addr) (H1 : Hp) (D : Addr) (vs : List V), Ext S ρ O.length H S1 ρ1 O1.length H1 → Wd K S1 ρ1 O1 H1 → H D = none → H1 D = some (.lst vs) → S1 D = none → (∀ k, k < O1.length → ρ1 k ≠ D) → RelWs K S1 ρ1 O1.length vs acc →
      (match allD acc with | some xs => Q' (.d (.list xs)) O1 | none => False) → Q (.ref D) H1 := fun acc O1 S1 ρ1 H1 D vs x1 wd1 nD hD nS nO r h => by
  split at h
  · rename_i xs e
    rw [allD_eq e] at r
    have w2 := wd1.adoptL hD nS nO
    have s12 : SubH S1 (upd S1 D (.lst vs)) := fun a o e => by rw [upd_ne (fun z => by rw [z, nS] at e; cases e)]; exact e
    have nne : ∀ a o, H a = some o → a ≠ D := fun a o e z => by rw [z, nD] at e; cases e
    exact kq _ O1 (upd S1 D (.lst vs)) ρ1 _ H1 ⟨x1.le, x1.sub.trans s12, x1.rho, x1.new, x1.dom, x1.frame, fun a o h hs hk => by rw [upd_ne (nne a o h)]; exact x1.sfr a o h hs hk⟩ w2 (.d (.lst upd_same (r.repL.sub s12))) h
  · exact h.elim
theorem lcO_fin {K : PySem.W.Frag} {S : Hp} {ρ : Nat → Addr} {H : Hp} {O : List Ob} {Q' : DQ} {Q : VK} (wd : Wd K S ρ O H) (kq : KE K S ρ O.length H Q' Q) :
    ∀ (acc : List W) (O1 : List Ob) (S1 : Hp) (ρ1 : Nat → Addr) (H1 : Hp) (D : Addr) (vs : List V), Ext S ρ O.length H S1 ρ1 O1.length H1 → Wd K S1 ρ1 O1 H1 → H D = none → H1 D = some (.lst vs) → S1 D = none → (∀ k, k < O1.length → ρ1 k ≠ D) → RelWs K S1 ρ1 O1.length vs acc →
      Q' (.o O1.length) (O1 ++ [.lst acc]) → Q (.ref D) H1 := fun acc O1 S1 ρ1 H1 D vs x1 wd1 nD hD nS nO r h => by
  have w2 := wd1.adoptO hD nS nO r
  have len : (O1 ++ [Ob.lst acc]).length = O1.length + 1 := by simp
  have hle := x1.le
  refine kq _ _ S1 (rhoP ρ1 O1.length D) _ H1 ⟨by omega, x1.sub, fun k hk => ?_, fun k h1 h2 => ?_, x1.dom, x1.frame, x1.sfr⟩ w2 (.o (by omega) (by rw [rhoP_eq])) h
  · rw [rhoP_lt (by omega)]; exact x1.rho k hk
  · by_cases hk : k < O1.length
    · rw [rhoP_lt hk]; exact x1.new k h1 hk
    · have e : k = O1.length := by omega
      subst e; rw [rhoP_eq]; exact nD
theorem d_lc (bx : Bx X Wx) (own : List (Str × Nat)) (g : Tg) (hi : PDI X Wx tg iter it) (ok : BlkOk X.N X.env.scope scope own) (hu : ∀ i ∈ g.ix, i ∈ own.map (·.2))
    (hg : ∀ (s : Shared) (H : Hp) (C : Addr) (cl : List (Str × Addr)) (fp : List Addr), PG (X.blk s H scope (compEnvC scope cl C X.env) fp) tg (tgH X.K g)) (ht : ∀ (s : Shared) (H : Hp) (C : Addr) (cl : List (Str × Addr)) (fp : List Addr), PTs (X.blk s H scope (compEnvC scope cl C X.env) fp) ifs (iT X.K Wx0 tt))
    (he : ∀ (s : Shared) (H : Hp) (C : Addr) (cl : List (Str × Addr)) (fp : List Addr), PE (X.blk s H scope (compEnvC scope cl C X.env) fp) elt (iE X.K Wx0 te)) (hs : ∀ x, foldedSetIterable iter X.env x = pure x := by intro _; rfl) :
    PDE X Wx (.ListComp elt [⟨tg, iter, ifs, 0⟩] scope pos) (dLc it g tt te (own.map (·.2))) :=
  (pe_lc bx.calm bx.nd hi ok hg ht he hs).imp fun σ H Q ⟨Γ, O, S, ρ, Q', E', st, h, kq, kx⟩ => lc_read hu st h kx (lcL_fin st.wd kq)
theorem d_lcO (bx : Bx X Wx) (own : List (Str × Nat)) (g : Tg) (hi : PDI X Wx tg iter it) (ok : BlkOk X.N X.env.scope scope own) (hu : ∀ i ∈ g.ix, i ∈ own.map (·.2))
    (hg : ∀ (s : Shared) (H : Hp) (C : Addr) (cl : List (Str × Addr)) (fp : List Addr), PG (X.blk s H scope (compEnvC scope cl C X.env) fp) tg (tgH X.K g)) (ht : ∀ (s : Shared) (H : Hp) (C : Addr) (cl : List (Str × Addr)) (fp : List Addr), PTs (X.blk s H scope (compEnvC scope cl C X.env) fp) ifs (iT X.K Wx0 tt))
    (he : ∀ (s : Shared) (H : Hp) (C : Addr) (cl : List (Str × Addr)) (fp : List Addr), PE (X.blk s H scope (compEnvC scope cl C X.env) fp) elt (iE X.K Wx0 te)) (hs : ∀ x, foldedSetIterable iter X.env x = pure x := by intro _; rfl) :
    PDE X Wx (.ListComp elt [⟨tg, iter, ifs, 0⟩] scope pos) (dLcO it g tt te (own.map (·.2))) :=
  (pe_lc bx.calm bx.nd hi ok hg ht he hs).imp fun σ H Q ⟨Γ, O, S, ρ, Q', E', st, h, kq, kx⟩ => lc_read hu st h kx (lcO_fin st.wd kq)
/-- y = [..] -/
theorem s_setLc {i : Nat} {y : Str} {py spos : Pos} (bx : Bx X Wx) (own : List (Str × Nat)) (g : Tg) (hi : PDI X Wx tg iter it) (ok : BlkOk X.N X.env.scope scope own) (hu : ∀ i ∈ g.ix, i ∈ own.map (·.2))
    (hg : ∀ (s : Shared) (H : Hp) (C : Addr) (cl : List (Str × Addr)) (fp : List Addr), PG (X.blk s H scope (compEnvC scope cl C X.env) fp) tg (tgH X.K g)) (ht : ∀ (s : Shared) (H : Hp) (C : Addr) (cl : List (Str × Addr)) (fp : List Addr), PTs (X.blk s H scope (compEnvC scope cl C X.env) fp) ifs (iT X.K Wx0 tt))
    (he : ∀ (s : Shared) (H : Hp) (C : Addr) (cl : List (Str × Addr)) (fp : List Addr), PE (X.blk s H scope (compEnvC scope cl C X.env) fp) elt (iE X.K Wx0 te)) (hy : X.N[i]? = some y := by rfl) (hyl : X.env.scope.names.lookup y = some .local := by rfl)
    (hsw : swapsWith (.ListComp elt [⟨tg, iter, ifs, 0⟩] scope pos) (some (.Name y py)) spos.line X.env = pure true := by exact sw_true rfl rfl rfl (by decide +kernel)) (hs : ∀ x, foldedSetIterable iter X.env x = pure x := by intro _; rfl) :
    PDS X Wx (.Assign [.Name y py] (.ListComp elt [⟨tg, iter, ifs, 0⟩] scope pos) spos) (dSet i (dLc it g tt te (own.map (·.2)))) :=
  (ps_setLc bx.calm bx.nd hy hyl hsw hi ok hg ht he hs).imp fun D σ H q => by
    obtain ⟨Γ, O, S, ρ, Q', E', st, h, kq, kx⟩ := set_read q
    exact lc_read hu st h kx (lcL_fin st.wd kq)
theorem s_setLcO {i : Nat} {y : Str} {py spos : Pos} (bx : Bx X Wx) (own : List (Str × Nat)) (g : Tg) (hi : PDI X Wx tg iter it) (ok : BlkOk X.N X.env.scope scope own) (hu : ∀ i ∈ g.ix, i ∈ own.map (·.2))
    (hg : ∀ (s : Shared) (H : Hp) (C : Addr) (cl : List (Str × Addr)) (fp : List Addr), PG (X.blk s H scope (compEnvC scope cl C X.env) fp) tg (tgH X.K g)) (ht : ∀ (s : Shared) (H : Hp) (C : Addr) (cl : List (Str × Addr)) (fp : List Addr), PTs (X.blk s H scope (compEnvC scope cl C X.env) fp) ifs (iT X.K Wx0 tt))
    (he : ∀ (s : Shared) (H : Hp) (C : Addr) (cl : List (Str × Addr)) (fp : List Addr), PE (X.blk s H scope (compEnvC scope cl C X.env) fp) elt (iE X.K Wx0 te)) (hy : X.N[i]? = some y := by rfl) (hyl : X.env.scope.names.lookup y = some .local := by rfl)
    (hsw : swapsWith (.ListComp elt [⟨tg, iter, ifs, 0⟩] scope pos) (some (.Name y py)) spos.line X.env = pure true := by exact sw_true rfl rfl rfl (by decide +kernel)) (hs : ∀ x, foldedSetIterable iter X.env x = pure x := by intro _; rfl) :
    PDS X Wx (.Assign [.Name y py] (.ListComp elt [⟨tg, iter, ifs, 0⟩] scope pos) spos) (dSet i (dLcO it g tt te (own.map (·.2)))) :=
  (ps_setLc bx.calm bx.nd hy hyl hsw hi ok hg ht he hs).imp fun D σ H q => by
    obtain ⟨Γ, O, S, ρ, Q', E', st, h, kq, kx⟩ := set_read q
    exact lc_read hu st h kx (lcO_fin st.wd kq)
end

/-! ### methods of lists that may be changed -/
abbrev FM := Nat → List W → List W → List Ob → DQ → Prop
def rM (K : PySem.W.Frag) (f : FM) : V → List V → Hp → VK → Prop := fun x vs H Q => ∃ k ws args O S ρ Q', Wd K S ρ O H ∧ x = .ref (ρ k) ∧ O[k]? = some (.lst ws) ∧ RelWs K S ρ O.length vs args ∧ f k ws args O Q' ∧ KE K S ρ O.length H Q' Q
def isLst (O : List Ob) (k : Nat) : Prop := match O[k]? with
  | some (.lst _) => True
  | _ => False
def dMt0 (f : FM) (to : DE) : DE := fun Γ O Q E => to Γ O (fun w O1 => match w with
  | .o k => match O1[k]? with
    | some (.lst ws) => f k ws [] O1 Q
    | _ => False
  | _ => False) E
def dMt (f : FM) (to : DE) (u : DA) : DE := fun Γ O Q E => to Γ O (fun w O1 => match w with
  | .o k => isLst O1 k ∧ u Γ O1 (fun args O2 => match O2[k]? with
    | some (.lst ws) => f k ws args O2 Q
    | _ => False) E
  | _ => False) E
section
variable {X : Cx} {Wx : WX} {o e : Expr} {es : List Expr} {to : DE} {u : DA} {name : Str} {apos cpos : Pos} {id : String} {f : FM}
theorem _root_.L2.MtR.imp {r r' : V → List V → Hp → VK → Prop} (h : MtR X id r) (i : ∀ x vs H Q, r' x vs H Q → r x vs H Q) : MtR X id r' := fun pins s σ H x xs v us Q I r1 r2 q => h pins s σ H x xs v us Q I r1 r2 (i _ _ _ _ q)
theorem d_mt0 (slot : Slot "list" name id) (hty : typeOf (.builtin id) = pure (.type "method_descriptor")) (hm : MtR X id (rM X.K f)) (ho : PDE X Wx o to)
    (hbase : attributeBase o name X.env (eval o X.env) = eval o X.env := by rfl) (hline : (apos.endLine == cpos.line) = true := by rfl) : PDE X Wx (.Call (.Attribute o name apos) [] [] cpos) (dMt0 f to) :=
  (pe_bm0 PySem.F.plainAttrs_list slot hty hm ho hbase hline).imp fun σ H Q ⟨Γ, O, S, ρ, Q', E', st, h, kq, kx⟩ => ⟨Γ, O, S, ρ, _, E', st, h, fun w1 O1 S1 ρ1 v1 H1 x1 wd1 r1 h1 => by
    dsimp only at h1
    split at h1
    · split at h1
      · rename_i k _ ws e
        cases r1 with
        | o hk z =>
          subst z
          have q := wd1.own k _ e
          cases q with
          | lst hH r => exact ⟨.inl ⟨rfl, _, .of hH⟩, k, ws, [], O1, S1, ρ1, Q', wd1, rfl, e, .nil, h1, kq.ext x1⟩
      · exact h1.elim
    · exact h1.elim, kx⟩
theorem d_mt (slot : Slot "list" name id) (hty : typeOf (.builtin id) = pure (.type "method_descriptor")) (hm : MtR X id (rM X.K f)) (ho : PDE X Wx o to) (ha : PDA X Wx (e :: es) u)
    (hbase : attributeBase o name X.env (eval o X.env) = eval o X.env := by rfl)
    (hfew : ((backTo cpos (starEach (e :: es) X.env)).all (fun x => !x.1) && (backToKw cpos (keywordEach [] X.env)).all (fun x => x.1.isSome)
      && decide ((e :: es).length + ([] : List Keyword).length + (if ([] : List Keyword).isEmpty then 0 else 1) < 30)) = true := by rfl)
    (hline : (apos.endLine == cpos.line) = true := by rfl) (hs : starEach (e :: es) X.env = (false, eval e X.env) :: starEach es X.env := by rfl) (hplain : (backTo cpos (starEach es X.env)).any (·.1) = false := by rfl) :
    PDE X Wx (.Call (.Attribute o name apos) (e :: es) [] cpos) (dMt f to u) :=
  (pe_bm PySem.F.plainAttrs_list slot hty hm ho ha hbase hfew hline hs hplain).imp fun σ H Q ⟨Γ, O, S, ρ, Q', E', st, h, kq, kx⟩ => ⟨Γ, O, S, ρ, _, E', st, h, fun w1 O1 S1 ρ1 v1 H1 x1 wd1 r1 h1 => by
    dsimp only at h1
    split at h1
    · rename_i k
      obtain ⟨hl, h1⟩ := h1
      cases r1 with
      | o hk z =>
        subst z
        refine ⟨?_, Γ, O1, S1, ρ1, _, E', st.ext x1 wd1, h1, fun args O2 S2 ρ2 vs H2 x2 wd2 r2 h2 => ?_, kx.ext x1⟩
        · unfold isLst at hl
          split at hl
          · rename_i ws e
            have q := wd1.own k _ e
            cases q with
            | lst hH r => exact .inl ⟨rfl, _, .of hH⟩
          · exact hl.elim
        · dsimp only at h2
          split at h2
          · rename_i ws e
            exact ⟨k, ws, args, O2, S2, ρ2, Q', wd2, by rw [x2.rho k hk], e, r2, h2, kq.ext (x1.trans x2)⟩
          · exact h2.elim
    · exact h1.elim, kx⟩
def mAppend : FM := fun k ws args O Q => match args with
  | [y] => ws.length < sizeLine ∧ Q (.d .none) (O.set k (.lst (ws ++ [y])))
  | _ => False
theorem m_append : MtR X "list.append" (rM X.K mAppend) := L2.MtR.imp mt_append fun x vs H Q ⟨k, ws, args, O, S, ρ, Q', wd, ex, e, r, h, kq⟩ => by
  subst ex
  unfold mAppend at h
  split at h
  · cases r with
    | cons r rr =>
      cases rr
      have q := wd.own k _ e
      cases q with
      | lst hH r2 => exact ⟨_, _, _, rfl, rfl, hH, by rw [r2.length]; exact h.1, kq.put wd e (fun z => nomatch z) (r2.append (.cons r .nil)) (.d .non) h.2⟩
  · exact h.elim
/-- xs.append(e) -/
theorem d_append (ho : PDE X Wx o to) (ha : PDA X Wx [e] u) (hbase : attributeBase o "append" X.env (eval o X.env) = eval o X.env := by rfl)
    (hfew : ((backTo cpos (starEach [e] X.env)).all (fun x => !x.1) && (backToKw cpos (keywordEach [] X.env)).all (fun x => x.1.isSome)
      && decide ([e].length + ([] : List Keyword).length + (if ([] : List Keyword).isEmpty then 0 else 1) < 30)) = true := by rfl)
    (hline : (apos.endLine == cpos.line) = true := by rfl) (hs : starEach [e] X.env = (false, eval e X.env) :: starEach [] X.env := by rfl) (hplain : (backTo cpos (starEach [] X.env)).any (·.1) = false := by rfl) : PDE X Wx (.Call (.Attribute o "append" apos) [e] [] cpos) (dMt mAppend to u) :=
  d_mt PySem.F.slot_list_append PySem.F.type_list_append m_append ho ha hbase hfew hline hs hplain
def mPop : FM := fun k ws args O Q => match args with
  | [] => ∃ y, ws[ws.length - 1]? = some y ∧ Q y (O.set k (.lst ws.dropLast))
  | _ => False
theorem m_pop : MtR X "list.pop" (rM X.K mPop) := L2.MtR.imp mt_pop fun x vs H Q ⟨k, ws, args, O, S, ρ, Q', wd, ex, e, r, h, kq⟩ => by
  subst ex
  unfold mPop at h
  split at h
  · cases r
    obtain ⟨y, ey, h⟩ := h
    have q := wd.own k _ e
    cases q with
    | lst hH r2 =>
      obtain ⟨v, ev, rv⟩ := r2.get ey
      exact ⟨_, _, v, rfl, rfl, hH, by rw [r2.length]; exact ev, kq.put wd e (fun z => nomatch z) r2.dropLast rv h⟩
  · exact h.elim
theorem d_pop (ho : PDE X Wx o to) (hbase : attributeBase o "pop" X.env (eval o X.env) = eval o X.env := by rfl) (hline : (apos.endLine == cpos.line) = true := by rfl) : PDE X Wx (.Call (.Attribute o "pop" apos) [] [] cpos) (dMt0 mPop to) :=
  d_mt0 PySem.F.slot_list_pop PySem.F.type_list_pop m_pop ho hbase hline
/-- xs.extend(ys), ys another list -/
def mExtend : FM := fun k ws args O Q => match args with
  | [y] => ∃ zs, lvS O y = some zs ∧ ws.length + zs.length ≤ sizeLine ∧ Q (.d .none) (O.set k (.lst (ws ++ zs)))
  | _ => False
theorem m_extend : MtR X "list.extend" (rM X.K mExtend) := L2.MtR.imp mt_extend fun x vs H Q ⟨k, ws, args, O, S, ρ, Q', wd, ex, e, r, h, kq⟩ => by
  subst ex
  unfold mExtend at h
  split at h
  · cases r with
    | cons r rr =>
      cases rr
      obtain ⟨zs, ez, hl, h⟩ := h
      obtain ⟨b, us, rfl, hb, g⟩ := lvS_inv wd ez r
      have q := wd.own k _ e
      cases q with
      | lst hH r2 => exact ⟨_, b, _, us, rfl, rfl, hH, hb, by rw [r2.length, g.length]; exact hl, kq.put wd e (fun z => nomatch z) (r2.append g) (.d .non) h⟩
  · exact h.elim
theorem d_extend (ho : PDE X Wx o to) (ha : PDA X Wx [e] u) (hbase : attributeBase o "extend" X.env (eval o X.env) = eval o X.env := by rfl)
    (hfew : ((backTo cpos (starEach [e] X.env)).all (fun x => !x.1) && (backToKw cpos (keywordEach [] X.env)).all (fun x => x.1.isSome)
      && decide ([e].length + ([] : List Keyword).length + (if ([] : List Keyword).isEmpty then 0 else 1) < 30)) = true := by rfl)
    (hline : (apos.endLine == cpos.line) = true := by rfl) (hs : starEach [e] X.env = (false, eval e X.env) :: starEach [] X.env := by rfl) (hplain : (backTo cpos (starEach [] X.env)).any (·.1) = false := by rfl) : PDE X Wx (.Call (.Attribute o "extend" apos) [e] [] cpos) (dMt mExtend to u) :=
  d_mt PySem.F.slot_list_extend PySem.F.type_list_extend m_extend ho ha hbase hfew hline hs hplain
end

/-! ### isinstance -/
def tyD : PyData → String
  | .none => "NoneType" | .bool _ => "bool" | .int _ => "int" | .str _ => "str" | .list _ => "list" | .tuple _ => "tuple" | .dict _ => "dict"
def tyW (O : List Ob) : W → Option String
  | .d x => some (tyD x)
  | .tp _ => some "tuple"
  | .rl _ => some "list"
  | .o k => match O[k]? with
    | some (.lst _) => some "list"
    | some (.dK _) => some "dict"
    | some (.dT _) => some "dict"
    | _ => none
  | .v _ => none
  | .exc _ _ _ => none
  | .gl _ => none
theorem sqT_ty {K : PySem.W.Frag} {H : Hp} {a : Addr} {vs : List V} (h : SqT K H a vs) : TyX K H (.ref a) (.type "tuple") := by
  rcases h with (h | ⟨o, h⟩) | ⟨o, its, n, hk, hc, _⟩
  · exact .base (.tup h)
  · exact .fTuple h
  · exact .kTuple hk hc
theorem sqL_ty {K : PySem.W.Frag} {H : Hp} {a : Addr} {vs : List V} (h : SqL K H a vs) : TyX K H (.ref a) (.type "list") := by
  rcases h with (h | ⟨o, h⟩) | ⟨o, its, n, hk, hc, _⟩
  · exact .base (.lst h)
  · exact .base (.frz h)
  · exact .kList hk hc
theorem tyW_ok {K : PySem.W.Frag} {S : Hp} {ρ : Nat → Addr} {H : Hp} {O : List Ob} {v : V} {w : W} {T : String} (wd : Wd K S ρ O H) (h : tyW O w = some T) (r : RelW K S ρ O.length v w) : TyX K H v (.type T) := by
  cases r with
  | d r =>
    cases h
    cases r with
    | non => exact .base .non
    | bl b => exact .base (.bl b)
    | int i => exact .base (.int i)
    | str x => exact .base (.str x)
    | lst h _ => exact .base (.lst (wd.sub _ _ h))
    | tup h _ => exact sqT_ty (SubH.sqT wd.sub h)
    | dK h _ => exact .base (.dK (wd.sub _ _ h))
    | dT h _ => exact .base (.dT (wd.sub _ _ h))
  | o hk z =>
    subst z
    dsimp only [tyW] at h
    split at h
    · rename_i e
      cases h
      cases wd.own _ _ e with
      | lst h _ => exact .base (.lst h)
    · rename_i e
      cases h
      cases wd.own _ _ e with
      | dK h _ => exact .base (.dK h)
    · rename_i e
      cases h
      cases wd.own _ _ e with
      | dT h _ => exact .base (.dT h)
    · cases h
  | tp h _ => cases h; exact .base (.tup (wd.sub _ _ h))
  | rl h _ => cases h; exact sqL_ty (SubH.sqL wd.sub h)
  | exc _ _ => cases h
  | gl _ => cases h
  | v => cases h
def kitAnyB (a : String) : List W → Option Bool
  | [] => some false
  | .v (.ty b) :: r => match kitB a b with
    | some true => if (kitAnyB a r).isSome then some true else none
    | some false => kitAnyB a r
    | none => none
  | _ => none
def fIsi : FC := fun ws O Q => match ws with
  | [x, .v (.ty b)] => match tyW O x with
    | some a => match kitB a b with
      | some r => Q (.d (.bool r)) O
      | none => False
    | none => False
  | [x, .tp ts] => match tyW O x with
    | some a => match kitAnyB a ts with
      | some r => Q (.d (.bool r)) O
      | none => False
    | none => False
  | _ => False
theorem kitAny_ok {K : PySem.W.Frag} {S : Hp} {ρ : Nat → Addr} {n : Nat} {a : String} : ∀ {ts : List W} {vs : List V} {r : Bool}, kitAnyB a ts = some r → RelWs K S ρ n vs ts → ∃ us, Paired ClsV vs us ∧ PySem.W.kitAny K (.type a) us = some r
  | [], _, _, h, r => by cases h; cases r; exact ⟨[], .nil, kitAny_nil⟩
  | .v (.ty b) :: ts, _, r0, h, r => by
    cases r with
    | cons r rr =>
      cases r
      unfold kitAnyB at h
      split at h
      · rename_i e
        split at h
        · rename_i hs
          cases h
          obtain ⟨r1, hr1⟩ := Option.isSome_iff_exists.mp hs
          obtain ⟨us, h1, h2⟩ := kitAny_ok hr1 rr
          exact ⟨.type b :: us, .cons (.ty b) h1, kitAny_cons (kit_ty e) (fun z => nomatch z) fun _ => rfl⟩
        · cases h
      · rename_i e
        obtain ⟨us, h1, h2⟩ := kitAny_ok h rr
        exact ⟨.type b :: us, .cons (.ty b) h1, kitAny_cons (kit_ty e) (fun _ => h2) fun z => nomatch z⟩
      · cases h
  | .v .non :: _, _, _, h, _ => by cases h
  | .v (.bl _) :: _, _, _, h, _ => by cases h
  | .v (.int _) :: _, _, _, h, _ => by cases h
  | .v (.str _) :: _, _, _, h, _ => by cases h
  | .v (.byt _) :: _, _, _, h, _ => by cases h
  | .v (.flt _) :: _, _, _, h, _ => by cases h
  | .v (.ref _) :: _, _, _, h, _ => by cases h
  | .d _ :: _, _, _, h, _ => by cases h
  | .o _ :: _, _, _, h, _ => by cases h
  | .tp _ :: _, _, _, h, _ => by cases h
  | .rl _ :: _, _, _, h, _ => by cases h
  | .exc _ _ _ :: _, _, _, h, _ => by cases h
  | .gl _ :: _, _, _, h, _ => by cases h
section
variable {X : Cx} {Wx : WX} {pos : Pos}
theorem c_isi : CallD X (.builtin "isinstance") fIsi := ((call_isi (X := X)).or call_isiT).imp fun xs H Q ⟨ws, O, S, ρ, Q', wd, r, q, kq⟩ => by
  unfold fIsi at q
  split at q
  · split at q
    · rename_i a ea
      split at q
      · rename_i b et
        cases r with
        | cons r rr =>
          cases rr with
          | cons r2 rr =>
            cases rr
            cases r2
            exact .inl ⟨_, _, _, _, b, rfl, .ty _, tyW_ok wd ea r, kit_ty et, kq.back wd (.d (.bl _)) q⟩
      · exact q.elim
    · exact q.elim
  · split at q
    · rename_i a ea
      split at q
      · rename_i b et
        cases r with
        | cons r rr =>
          cases rr with
          | cons r2 rr =>
            cases rr
            cases r2 with
            | tp h r2 =>
              obtain ⟨us, h1, h2⟩ := kitAny_ok et r2
              exact .inr ⟨_, _, _, _, us, b, rfl, wd.sub _ _ h, h1, tyW_ok wd ea r, h2, kq.back wd (.d (.bl _)) q⟩
      · exact q.elim
    · exact q.elim
  · exact q.elim
/-- a built-in class as a value -/
theorem d_ty {x : Str} {T : String} (hm : X.mg x = none) (hv : bootBuiltins x = some (.type T)) (hg : Gl X x := by rfl) (hn : x ≠ "__name__" := by decide) (hd : (x == ("__debug__" : Str)) = false := by decide) : PDE X Wx (.Name x pos) (dCw (.v (.ty T))) :=
  (pe_bltn hg hm hv (v := .ty T) rfl hn hd).imp fun σ H Q ⟨Γ, O, S, ρ, Q', E', st, h, kq, _⟩ => kq _ O S ρ _ H .refl st.wd .v h
theorem o_inS : OpD X (compareOp .In) (fInS false) := (op_in_sign (X := X)).imp fun x y H Q ⟨wx, wy, O, S, ρ, Q', wd, r1, r2, q, kq⟩ => by
  unfold fInS at q
  split at q
  · obtain ⟨c, rfl, q⟩ := q
    cases r1 with
    | d r1 =>
      cases r1
      cases r2 with
      | d r2 =>
        cases r2
        exact ⟨c, _, rfl, rfl, kq.back wd (.d (.bl _)) q⟩
  · exact q.elim
theorem o_notInS : OpD X (compareOp .NotIn) (fInS true) := (op_notIn_sign (X := X)).imp fun x y H Q ⟨wx, wy, O, S, ρ, Q', wd, r1, r2, q, kq⟩ => by
  unfold fInS at q
  split at q
  · obtain ⟨c, rfl, q⟩ := q
    cases r1 with
    | d r1 =>
      cases r1
      cases r2 with
      | d r2 =>
        cases r2
        exact ⟨c, _, rfl, rfl, kq.back wd (.d (.bl _)) q⟩
  · exact q.elim
/-- a text of the module -/
theorem d_gstr {x : Str} {z : Str} {t : Tok} (hm : X.mg x = some (.str z t)) (hg : Gl X x := by rfl) (hd : (x == ("__debug__" : Str)) = false := by decide) : PDE X Wx (.Name x pos) (dC (.str z)) :=
  d_c (pe_glob hg hm (v := .str z) ⟨t, rfl⟩ hd) fun _ => .str z
theorem d_gint {x : Str} {z : Int} {t : Tok} (hm : X.mg x = some (.int z t)) (hg : Gl X x := by rfl) (hd : (x == ("__debug__" : Str)) = false := by decide) : PDE X Wx (.Name x pos) (dC (.int z)) :=
  d_c (pe_glob hg hm (v := .int z) ⟨t, rfl⟩ hd) fun _ => .int z
end

/-! ### enumerate, zip -/
def enumW : Nat → List W → List W
  | _, [] => []
  | i, w :: ws => mkT [.d (.int (i : Int)), w] :: enumW (i + 1) ws
theorem enumW_get : ∀ (ws : List W) (j i : Nat), (enumW j ws)[i]? = ws[i]?.map fun w => mkT [.d (.int ((j + i : Nat) : Int)), w]
  | [], _, _ => by simp [enumW]
  | w :: ws, j, 0 => by simp [enumW]
  | w :: ws, j, i + 1 => by
    show (enumW (j + 1) ws)[i]? = ws[i]?.map _
    rw [enumW_get ws (j + 1) i]
    have e : j + 1 + i = j + (i + 1) := by omega
    rw [e]
theorem enumW_len : ∀ (ws : List W) (j : Nat), (enumW j ws).length = ws.length
  | [], _ => rfl
  | w :: ws, j => by show (enumW (j + 1) ws).length + 1 = ws.length + 1; rw [enumW_len]
def IteT (K : PySem.W.Frag) (a : Addr) : It :=
  ⟨fun i H => ∃ (xs : List V) (x : V), SqT K H a xs ∧ xs[i]? = some x, fun i H v H' => ∃ T x, v = .ref T ∧ H T = none ∧ H' = upd H T (.tup [.int (i : Nat), x]) ∧ ∀ xs, SqT K H a xs → xs[i]? = some x, fun i H => ∃ xs : List V, SqT K H a xs ∧ xs.length ≤ i⟩
theorem turn_enumT {P : Program} {w : World} {K : PySem.W.Frag} {elts : List Expr} {kk : Nat} {tpos : Pos} (a e it : Addr) :
    Turn P w K (.Tuple elts kk tpos) (IteT K a) [e, it] e (fun i h => (∃ old, IsEnum h e it ((i : Nat) : Int) old) ∧ h.IsTupleIter it a i ∧ e ≠ it) where
  mem := by simp
  obj := fun i h st b hb => by
    obtain ⟨⟨old, he⟩, ⟨o, ho, hc, hd⟩, _⟩ := st
    have e' : b = e ∨ b = it := by simpa using hb
    rcases e' with z | z
    · rw [z]; exact ⟨_, he, fun v q => nomatch q⟩
    · rw [z]; exact ⟨o, ho, fun v q => by rw [hd] at q; cases q⟩
  keep := fun i h h' st k => let ⟨⟨old, he⟩, hi, hne⟩ := st; ⟨⟨old, k e (by simp) _ he⟩, hi.at fun o q => k it (by simp) o q, hne⟩
  item := by
    intro X hP hw hK hc i pins s σ H E I hf st hg
    subst hP hw hK
    obtain ⟨⟨old, he⟩, hit, hne⟩ := st
    obtain ⟨xs, x, hq, hx⟩ := hg
    obtain ⟨its, rv, p, hz⟩ := I.tuple hq
    obtain ⟨u, hu, ru⟩ := rv.get hx
    have hel : e < s.heap.objs.size := Heap.lt_size he
    have hil : it < s.heap.objs.size := by obtain ⟨_, q, _⟩ := hit; exact Heap.lt_size q
    have ht : s.heap.IsTuple a its.toArray := p
    have nai : a ≠ it := fun z => by
      obtain ⟨o1, e1, c1, _⟩ := ht
      obtain ⟨o2, e2, c2, _⟩ := hit
      rw [z, e2] at e1; cases e1; rw [c2] at c1; injection c1 with c1; exact absurd c1 (by decide)
    have nae : e ≠ a := fun z => by
      obtain ⟨o1, e1, c1, _⟩ := ht
      have he' := he
      rw [z] at he'
      rw [show s.heap.get? a = some _ from he'] at e1; cases e1; injection c1 with c1; exact absurd c1 (by decide)
    have hlt : i < its.toArray.size := by
      have h1 := (List.getElem?_eq_some_iff.mp hu).1
      simpa using h1
    refine wpAny_pyNext_enum_itemD (Draws.tuple (A := X.A.in1) (show X.A.in1.handled = none from I.ok.hd hc) it a nai its.toArray) he ⟨hit, ht⟩ hlt hne (by simp [hne, nae]) fun y h' tk hP ho hst' hT hsz hk => ?_
    obtain ⟨hit', _⟩ := hst'
    have hy : y = u := by
      have : some y = some u := by rw [← hP]; simpa using hu
      exact Option.some.inj this
    subst hy
    refine ⟨_, rfl, wpAny_letOwnedTupleGo_enum (s := { s with heap := h', toks := tk + 1 }) ho fun h'' he' sb => ?_⟩
    have hT2 : h''.get? s.heap.objs.size = some { cls := .type "tuple", data := .seq #[.int i tk, y] } := (sb.2 _ (Nat.ne_of_gt hel)).trans hT
    have new : ObjOk X.prog X.w (upd H s.heap.objs.size (.tup [.int (i : Nat), x])) h'' s.heap.objs.size (.tup [.int (i : Nat), x]) :=
      ⟨by show 2 ≤ sizeLine; decide, [.int i tk, y], .cons ⟨_, rfl⟩ (.cons ru .nil), ⟨_, hT2, rfl, _, rfl⟩⟩
    have I1 : Inv X pins σ (upd H s.heap.objs.size (.tup [.int (i : Nat), x])) { s with heap := h'', toks := tk + 1 } :=
      I.turnedNew (ch := [e, it]) (fun b ob hb q => (sb.2 b (fun z => hb (by simp [z]))).trans (hk b ob (fun z => hb (by simp [z])) (fun z => hb (by simp [z])) q)) hf (Nat.le_refl _) new
    refine ⟨.ref s.heap.objs.size, _, I1, rfl, ⟨_, x, rfl, I.hok.fresh (Nat.le_refl _), rfl, fun ys hy => by rw [I.tuple_inj hy hq]; exact hx⟩, ⟨⟨y, ?_⟩, hit'.at fun o q => (sb.2 it (Ne.symm hne)).trans q, hne⟩, fun b hb => ?_⟩
    · have e1 : ((i + 1 : Nat) : Int) = (i : Int) + 1 := by omega
      rw [e1]; exact he'
    · have hb' : b < s.heap.objs.size := by
        have e' : b = e ∨ b = it := by simpa using hb
        rcases e' with z | z
        · rw [z]; exact hel
        · rw [z]; exact hil
      rw [upd_ne (Nat.ne_of_lt hb')]
      exact (hf b hb).1
  done := by
    intro X hP hw hK hc i pins s σ H E I hf st hg
    subst hP hw hK
    obtain ⟨⟨old, he⟩, hit, hne⟩ := st
    obtain ⟨xs, hq, hx⟩ := hg
    obtain ⟨its, rv, p, hz⟩ := I.tuple hq
    obtain ⟨f0, f1, f2, f3, f4, f5⟩ := hf it (by simp)
    have hl := rv.length
    have hT : s.TypeIs (.ref e) "enumerate" := ⟨_, he, rfl⟩
    unfold pyNext
    refine wpAny_bind (wpAny_attempt (wpAny_callSpecial?_slot (name := Str.ofString "__next__") hT F.slot_enumerate_next
      (wpAny_call_entry F.slot_enumerate_next hT F.entry_enumerate_next ?_ (F.args_enumerate_next_1 _))))
    show wpAny _ _ (field (.ref e) 2 >>= _) _ _ _
    refine wpAny_bind (wpAny_field he rfl (x := .ref it) rfl ?_)
    refine wpAny_bind (wpAny_nextOf_tuple_end (I.ok.hd hc) hit (show s.heap.IsTuple a its.toArray from p) (by simp; omega) fun h' x he' hx' => ?_)
    obtain ⟨o, ho, hc'⟩ := hx'
    refine wpAny_bind (wpAny_isInstance (T := "StopIteration") (b := true) ⟨o, ho, hc'⟩ isSubtype_stop ?_)
    exact wpAny_pure ⟨rfl, I.turned (t' := s.toks) (fun b o hb q => he' b o hb q) f0 f1 f3 f4 f5⟩
  self := fun A i s Q E st h => let ⟨⟨_, he⟩, _⟩ := st; wpAny_pyIter_enum he h
section
variable {X : Cx} {Wx : WX}
/-- enumerate(x), x a list or a tuple -/
def iEnumA (K : PySem.W.Frag) (ta : TA) : TI := fun σ H R => ta σ H fun vs H1 => ∃ a xs, vs = [.ref a] ∧ ((SqL K H1 a xs ∧ R (Ite K a) H1) ∨ (SqT K H1 a xs ∧ R (IteT K a) H1))
theorem pi_enumA {e : Expr} {ta : TA} {p pos tpos : Pos} {elts : List Expr} {kk : Nat} (hg : Gl X "enumerate") (hm : X.mg "enumerate" = none) (ha : PA X [e] ta) (hs : starEach [e] X.env = [(false, eval e X.env)] := by rfl) :
    PI X (.Tuple elts kk tpos) (.Call (.Name "enumerate" p) [e] [] pos) (iEnumA X.K ta) := by
  refine ⟨fun pins s σ H R I h => ?_⟩
  refine Call_ (ld_blt I hg hm boot_enumerate (PyProof.Rows.callWith_type1 (thn (ha.run pos pins s σ H _ I h) fun us s1 ⟨vs, H1, I1, r1, q1⟩ => ?_) hs rfl))
  obtain ⟨a, xs, ex, q⟩ := q1
  subst ex
  cases r1 with
  | cons r rr =>
    cases rr
    cases r
    have fp2 : ∀ b ∈ [s1.heap.objs.size + 1, s1.heap.objs.size], FpOk X pins H1 b := fun b hb => by
      have e' : b = s1.heap.objs.size + 1 ∨ b = s1.heap.objs.size := by simpa using hb
      have hle : s1.heap.objs.size ≤ b := by
        rcases e' with z | z
        · rw [z]; exact Nat.le_add_right _ _
        · rw [z]; exact Nat.le_refl _
      exact I1.fpOk hle (I1.hok.fresh hle)
    rcases q with ⟨hq, q⟩ | ⟨hq, q⟩
    · obtain ⟨its, rv, p', hz⟩ := I1.list hq
      refine call_enumerate_list p'.isList fun h' he hit hsz hk => wpAny_pyIter_enum he ?_
      have I2 : Inv X pins σ H1 { s1 with heap := h' } := I1.kept (t' := s1.toks) hk
      exact ⟨s1.heap.objs.size + 1, [s1.heap.objs.size + 1, s1.heap.objs.size], _, _, H1, rfl, I2, turn_enum a (s1.heap.objs.size + 1) s1.heap.objs.size, ⟨⟨.none, he⟩, hit, Nat.succ_ne_self _⟩, fp2, q⟩
    · obtain ⟨its, rv, p', hz⟩ := I1.tuple hq
      refine uz_enum_begins (begins_tuple a its.toArray) (show s1.heap.IsTuple a its.toArray from p') fun h' he hit hsz hk => wpAny_pyIter_enum he ?_
      have I2 : Inv X pins σ H1 { s1 with heap := h' } := I1.kept (t' := s1.toks) hk
      exact ⟨s1.heap.objs.size + 1, [s1.heap.objs.size + 1, s1.heap.objs.size], _, _, H1, rfl, I2, turn_enumT a (s1.heap.objs.size + 1) s1.heap.objs.size, ⟨⟨.none, he⟩, ⟨_, hit, rfl, rfl⟩, Nat.succ_ne_self _⟩, fp2, q⟩
/-- a new tuple yielded -/
theorem yl_tup {K : PySem.W.Frag} {S : Hp} {ρ : Nat → Addr} {H : Hp} {O : List Ob} {T : Addr} {vs : List V} {ws : List W} (wd : Wd K S ρ O H) (nT : H T = none) (r : RelWs K S ρ O.length vs ws) :
    ∃ S'', Ext S ρ O.length H S'' ρ O.length (upd H T (.tup vs)) ∧ Wd K S'' ρ O (upd H T (.tup vs)) ∧ RelW K S'' ρ O.length (.ref T) (mkT ws) := by
  obtain ⟨w1, x1⟩ := wd.lay (u := .tup vs) nT
  exact ⟨_, x1, w1, mkT_rel upd_same (r.ext x1)⟩
/-- the items of a thing that is walked: a tuple, or a list of data (one that may be changed stands) -/
def wlk (w : W) (O : List Ob) (Q : List W → (List Ob → Prop) → Prop) : Prop := match w with
  | .d (.list xs) => Q (xs.map .d) tt0
  | .rl xs => Q (xs.map .d) tt0
  | .o k => ∃ ws, O[k]? = some (.lst ws) ∧ Q ws (fun O2 => O2[k]? = some (.lst ws))
  | w => ∃ ws, tv w = some ws ∧ Q ws tt0
theorem wlk_inv {K : PySem.W.Frag} {S : Hp} {ρ : Nat → Addr} {H : Hp} {O : List Ob} {v : V} {w : W} {Q : List W → (List Ob → Prop) → Prop} (wd : Wd K S ρ O H) (h : wlk w O Q) (r : RelW K S ρ O.length v w) :
    ∃ a ws chk, v = .ref a ∧ Q ws chk ∧ chk O ∧ ((∀ O' S' ρ' H', Ext S ρ O.length H S' ρ' O'.length H' → Wd K S' ρ' O' H' → chk O' → ∃ vs, SqL K H' a vs ∧ RelWs K S' ρ' O'.length vs ws) ∨
      (∃ vs, ∀ O' S' ρ' H', Ext S ρ O.length H S' ρ' O'.length H' → Wd K S' ρ' O' H' → SqT K H' a vs ∧ RelWs K S' ρ' O'.length vs ws)) := by
  unfold wlk at h
  split at h
  · obtain ⟨a, rfl, hl⟩ := wd_list wd (.inl rfl) r
    exact ⟨a, _, _, rfl, h, trivial, .inl hl⟩
  · obtain ⟨a, rfl, hl⟩ := wd_list wd (.inr rfl) r
    exact ⟨a, _, _, rfl, h, trivial, .inl hl⟩
  · obtain ⟨ws, ek, h⟩ := h
    obtain ⟨a, rfl, hl⟩ := wd_own (ws := ws) r
    exact ⟨a, _, _, rfl, h, ek, .inl hl⟩
  · obtain ⟨ws, ew, h⟩ := h
    obtain ⟨a, vs, rfl, hT, g⟩ := tv_inv ew r
    exact ⟨a, _, _, rfl, h, trivial, .inr ⟨vs, fun O' S' ρ' H' x wd' => ⟨SubH.sqT wd'.sub (SubH.sqT x.sub hT), g.ext x⟩⟩⟩
def dItEn (u : DA) : DI := fun Γ O Q E => u Γ O (fun ws O1 => match ws with
  | [w] => wlk w O1 fun items chk => Q (enumW 0 items) chk O1
  | _ => False) E
theorem it_en {e : Expr} {u : DA} {p pos tpos : Pos} {elts : List Expr} {kk : Nat} (hm : X.mg "enumerate" = none) (ha : PDA X Wx [e] u) (hg : Gl X "enumerate" := by rfl) (hs : starEach [e] X.env = [(false, eval e X.env)] := by rfl) :
    PDI X Wx (.Tuple elts kk tpos) (.Call (.Name "enumerate" p) [e] [] pos) (dItEn u) :=
  (pi_enumA hg hm ha hs).imp fun σ H R ⟨Γ, O, S, ρ, Q', E', st, h, kq, kx⟩ => ⟨Γ, O, S, ρ, _, E', st, h, fun ws O1 S1 ρ1 vs H1 x1 wd1 r1 h1 => by
    dsimp only at h1
    split at h1
    · rename_i w
      cases r1 with
      | cons r rr =>
        cases rr
        obtain ⟨a, items, chk, rfl, h1, ck, hh⟩ := wlk_inv wd1 h1 r
        rcases hh with hl | ⟨us, ht⟩
        · obtain ⟨vs0, hv0, _⟩ := hl O1 S1 ρ1 H1 .refl wd1 ck
          refine ⟨a, vs0, rfl, .inl ⟨hv0, kq _ _ O1 S1 ρ1 _ H1 x1 wd1 ⟨fun i O' S' ρ' H' x wd c hi => ?_, fun i w O' S' ρ' H' x H'' ex wd c hi y => ?_, fun O' S' ρ' H' x wd c => ?_⟩ h1⟩⟩
          · rw [enumW_len] at hi
            obtain ⟨vs, h3, h4⟩ := hl O' S' ρ' H' x wd c
            obtain ⟨v, h5, _⟩ := h4.get (List.getElem?_eq_getElem hi)
            exact ⟨vs, v, h3, h5⟩
          · obtain ⟨vs, h3, h4⟩ := hl O' S' ρ' H' ex wd c
            rw [enumW_get] at hi
            obtain ⟨w0, e0, rfl⟩ := Option.map_eq_some_iff.mp hi
            obtain ⟨v, h5, h6⟩ := h4.get e0
            obtain ⟨T, z, rfl, nT, rfl, hz⟩ := y
            have e1 : some v = some z := h5.symm.trans (hz vs h3)
            cases e1
            have q := yl_tup (vs := [.int ((i : Nat) : Int), v]) (ws := [.d (.int ((0 + i : Nat) : Int)), w0]) wd nT (.cons (.d (by rw [Nat.zero_add]; exact .int _)) (.cons h6 .nil))
            exact q
          · obtain ⟨vs, h3, h4⟩ := hl O' S' ρ' H' x wd c
            exact ⟨vs, h3, by rw [enumW_len, h4.length]; exact Nat.le_refl _⟩
        · refine ⟨a, us, rfl, .inr ⟨(ht O1 S1 ρ1 H1 .refl wd1).1, kq _ _ O1 S1 ρ1 _ H1 x1 wd1 ⟨fun i O' S' ρ' H' x wd c hi => ?_, fun i w O' S' ρ' H' x H'' ex wd c hi y => ?_, fun O' S' ρ' H' x wd c => ?_⟩ h1⟩⟩
          · rw [enumW_len] at hi
            obtain ⟨h3, h4⟩ := ht O' S' ρ' H' x wd
            obtain ⟨v, h5, _⟩ := h4.get (List.getElem?_eq_getElem hi)
            exact ⟨us, v, h3, h5⟩
          · obtain ⟨h3, h4⟩ := ht O' S' ρ' H' ex wd
            rw [enumW_get] at hi
            obtain ⟨w0, e0, rfl⟩ := Option.map_eq_some_iff.mp hi
            obtain ⟨v, h5, h6⟩ := h4.get e0
            obtain ⟨T, z, rfl, nT, rfl, hz⟩ := y
            have e1 : some v = some z := h5.symm.trans (hz us h3)
            cases e1
            have q := yl_tup (vs := [.int ((i : Nat) : Int), v]) (ws := [.d (.int ((0 + i : Nat) : Int)), w0]) wd nT (.cons (.d (by rw [Nat.zero_add]; exact .int _)) (.cons h6 .nil))
            exact q
          · obtain ⟨h3, h4⟩ := ht O' S' ρ' H' x wd
            exact ⟨us, h3, by rw [enumW_len, h4.length]; exact Nat.le_refl _⟩
    · exact h1.elim, kx⟩
def zipW : List W → List W → List W
  | a :: as, b :: bs => mkT [a, b] :: zipW as bs
  | _, _ => []
theorem zipW_get : ∀ (as bs : List W) (i : Nat) (w : W), (zipW as bs)[i]? = some w → ∃ a b, as[i]? = some a ∧ bs[i]? = some b ∧ w = mkT [a, b]
  | [], _, _, _, h => by simp [zipW] at h
  | _ :: _, [], _, _, h => by simp [zipW] at h
  | a :: as, b :: bs, 0, w, h => by
    have e : mkT [a, b] = w := Option.some.inj h
    exact ⟨a, b, rfl, rfl, e.symm⟩
  | a :: as, b :: bs, i + 1, w, h => by
    obtain ⟨x, y, h1, h2, h3⟩ := zipW_get as bs i w h
    exact ⟨x, y, h1, h2, h3⟩
theorem zipW_len : ∀ (as bs : List W), (zipW as bs).length = min as.length bs.length
  | [], _ => by simp [zipW]
  | _ :: _, [] => by simp [zipW]
  | a :: as, b :: bs => by
    show (zipW as bs).length + 1 = _
    rw [zipW_len as bs, List.length_cons, List.length_cons]; omega
/-- the items of a list -/
def wlkL (w : W) (O : List Ob) (Q : List W → (List Ob → Prop) → Prop) : Prop := match w with
  | .d (.list xs) => Q (xs.map .d) tt0
  | .rl xs => Q (xs.map .d) tt0
  | .o k => ∃ ws, O[k]? = some (.lst ws) ∧ Q ws (fun O2 => O2[k]? = some (.lst ws))
  | _ => False
theorem wlkL_inv {K : PySem.W.Frag} {S : Hp} {ρ : Nat → Addr} {H : Hp} {O : List Ob} {v : V} {w : W} {Q : List W → (List Ob → Prop) → Prop} (wd : Wd K S ρ O H) (h : wlkL w O Q) (r : RelW K S ρ O.length v w) :
    ∃ a ws chk, v = .ref a ∧ Q ws chk ∧ chk O ∧ (∀ O' S' ρ' H', Ext S ρ O.length H S' ρ' O'.length H' → Wd K S' ρ' O' H' → chk O' → ∃ vs, SqL K H' a vs ∧ RelWs K S' ρ' O'.length vs ws) := by
  unfold wlkL at h
  split at h
  · obtain ⟨a, rfl, hl⟩ := wd_list wd (.inl rfl) r
    exact ⟨a, _, _, rfl, h, trivial, hl⟩
  · obtain ⟨a, rfl, hl⟩ := wd_list wd (.inr rfl) r
    exact ⟨a, _, _, rfl, h, trivial, hl⟩
  · obtain ⟨ws, ek, h⟩ := h
    obtain ⟨a, rfl, hl⟩ := wd_own (ws := ws) r
    exact ⟨a, _, _, rfl, h, ek, hl⟩
  · exact h.elim
/-- zip of two lists -/
def dItZ (u : DA) : DI := fun Γ O Q E => u Γ O (fun ws O1 => match ws with
  | [w, w'] => wlkL w O1 fun items chk => wlkL w' O1 fun items' chk' => Q (zipW items items') (fun O2 => chk O2 ∧ chk' O2) O1
  | _ => False) E
end
end UZ
/-! UZ, part G: tuple * int at any int, tuple[::-1], zip of two things. -/
namespace HT
open PySem PySem.Spec PyProof.Rows
section
variable {prog : Program} {w : World} {A : Around} {E : Value → Shared → Prop} {s : Shared}
theorem uz_adjust_rev (n : Nat) : Builtin.Slice.sliceAdjust none none (-1) (n : Int) = ((n : Int) - 1, -1) := by
  have h1 : ((-1 : Int) < 0) := by omega
  unfold Builtin.Slice.sliceAdjust
  simp only [h1, if_true]
theorem uz_places_rev (n : Nat) : Builtin.Slice.slicePlaces ((n : Int) - 1) (-1) (-1) = n := by
  unfold Builtin.Slice.slicePlaces
  have h1 : ¬ ((-1 : Int) > 0) := by omega
  simp only [h1, if_false]
  have h2 : (-(-1 : Int)) = 1 := by decide
  rw [h2, Int.ediv_one]
  split <;> omega
theorem uz_fm_congr {α β : Type} {f g : α → Option β} : ∀ {l : List α}, (∀ a ∈ l, f a = g a) → l.filterMap f = l.filterMap g
  | [], _ => rfl
  | a :: l, h => by
    rw [List.filterMap_cons, List.filterMap_cons, h a List.mem_cons_self, uz_fm_congr fun b hb => h b (List.mem_cons_of_mem _ hb)]
theorem uz_pick_rev (xs : Array Value) : ((List.range xs.size).filterMap fun (m : Nat) => xs[(((xs.size : Int) - 1) + (m : Int) * (-1)).toNat]?).toArray = xs.toList.reverse.toArray := by
  congr 1
  have e : ∀ m ∈ List.range xs.size, xs[(((xs.size : Int) - 1) + (m : Int) * (-1)).toNat]? = xs.toList.reverse[m]? := fun m hm => by
    have hlt := List.mem_range.mp hm
    rw [List.getElem?_reverse (by simpa using hlt)]
    have z : (((xs.size : Int) - 1) + (m : Int) * (-1)).toNat = xs.toList.length - 1 - m := by rw [Array.length_toList]; omega
    rw [z]; simp
  rw [uz_fm_congr e]
  have q : ∀ (l : List Value), (List.range l.length).filterMap (fun m => l[m]?) = l := by
    intro l
    have := PySem.W.krv_all l.toArray
    simpa using this
  have := q xs.toList.reverse
  simpa using this
theorem uz_getItem_tuple_rev {t sl : Addr} {items : Array Value} {k : Tok} (ht : IsTup s.heap t items) (hs : s.heap.IsSliceOf sl .none .none (.int (-1) k)) {Q : Value → Shared → Prop}
    (h : Q (.ref s.heap.objs.size) { s with heap := s.heap.push { cls := .type "tuple", data := .seq items.toList.reverse.toArray } })
    (hsz : items.size ≤ sizeLine) : wpAny (model prog w) A (getItem (.ref t) (.ref sl)) Q E s := by
  have htake : sizeOk (.seq items.toList.reverse.toArray) := by
    show items.toList.reverse.toArray.size ≤ sizeLine
    rw [List.size_toArray, List.length_reverse, Array.length_toList]
    exact hsz
  obtain ⟨os, hos, hcs, hds⟩ := id hs
  have hTs : s.TypeIs (.ref sl) "slice" := ⟨os, hos, hcs⟩
  unfold getItem
  try with_reducible refine wpAny_holding ?_
  first | refine wpAny_bind (wpAny_pure ?_) | skip
  refine wpAny_bind (wpAny_sequenceKey ht.typeIs (by decide) ?_)
  refine wpAny_bind (wpAny_callSpecial?_slot (name := Str.ofString "__getitem__") ht.typeIs PyProof.Rows.slot_tuple_getitem
    (wpAny_call_entry PyProof.Rows.slot_tuple_getitem ht.typeIs entry_tuple_getitem ?_ (args_tuple_getitem _ _)))
  show wpAny _ _ (Builtin.Tuple.tupleItemsOf (.ref t) >>= _) _ _ s
  refine wpAny_bind (tupleItemsOf_ ht ?_)
  refine wpAny_bind (wpAny_typeOf hTs ?_)
  rw [if_pos (by decide)]
  have ap : ∀ {Q' : Int × Int × Nat → Shared → Prop} {E' : Value → Shared → Prop}, Q' ((items.size : Int) - 1, -1, items.size) s → wpAny (model prog w) A.in1 (Builtin.Slice.sliceApplied (.ref sl) (pure (items.size : Int))) Q' E' s := fun {Q' E'} h' => by
    unfold Builtin.Slice.sliceApplied Builtin.Slice.sliceFields
    refine wpAny_bind (wpAny_bind (wpAny_field hos hds (x := .none) rfl (wpAny_bind (wpAny_field hos hds (x := .none) rfl (wpAny_bind (wpAny_field hos hds (x := .int (-1) k) rfl (wpAny_pure ?_)))))))
    refine wpAny_bind (slicePart_int ?_)
    show wpAny _ _ (if ((-1 : Int) == 0) = true then _ else _) _ _ s
    rw [if_neg (by decide)]
    refine wpAny_bind (slicePart_none (wpAny_bind (slicePart_none (wpAny_bind (wpAny_pure ?_)))))
    show wpAny _ _ (match Builtin.Slice.sliceAdjust none none (-1) (items.size : Int) with | (lo, hi) => pure (lo, (-1 : Int), Builtin.Slice.slicePlaces lo hi (-1))) _ _ s
    rw [uz_adjust_rev]
    show wpAny _ _ (pure ((items.size : Int) - 1, (-1 : Int), Builtin.Slice.slicePlaces ((items.size : Int) - 1) (-1) (-1))) _ _ s
    rw [uz_places_rev]
    exact wpAny_pure h'
  refine wpAny_bind (ap ?_)
  have hno : ¬ ((((items.size : Int) - 1) == 0 && (-1 : Int) == 1 && items.size == items.size) = true) := by
    intro q
    rw [Bool.and_eq_true, Bool.and_eq_true] at q
    exact absurd q.1.2 (by decide)
  show wpAny _ _ (if (((items.size : Int) - 1) == 0 && (-1 : Int) == 1 && items.size == items.size) = true then _ else _) _ _ s
  rw [if_neg hno, uz_pick_rev]
  first
    | exact wpAny_bind (m := Builtin.Tuple.tupleExact _) (wpAny_newObj_type (wpAny_pure ⟨_, rfl, wpAny_pure h⟩) htake)
    | exact wpAny_bind (m := Builtin.Tuple.tupleExact _) (wpAny_newObj_type (wpAny_bind (wpAny_pure (wpAny_pure ⟨_, rfl, wpAny_pure h⟩))) htake)
    | exact wpAny_bind (wpAny_bind (m := Builtin.Tuple.tupleExact _) (wpAny_newObj_type (wpAny_pure (wpAny_pure ⟨_, rfl, wpAny_pure h⟩)) htake))
    | exact wpAny_bind (wpAny_bind (m := Builtin.Tuple.tupleExact _) (wpAny_newObj_type (wpAny_pure ⟨_, rfl, wpAny_pure h⟩) htake))
end
end HT
namespace UZ
open PySem PySem.Spec PyProof.Rows L2
/-! ### t[::-1] -/
section
variable {X : Cx} {Wx : WX}
def tRevT (K : PySem.W.Frag) (te : TE) : TE := fun σ H Q => te σ H fun x H1 => ∃ a xs, x = .ref a ∧ SqT K H1 a xs ∧ ∀ p, H1 p = none → Q (.ref p) (upd H1 p (.tup xs.reverse))
theorem pe_revT {e : Expr} {te : TE} {k : Nat} {p1 p2 p3 pos : Pos} (he : PE X e te) : PE X (.Subscript e (.Slice none none (some (.UnaryOp .USub (.Constant (.int 1) k p1) p2)) p3) pos) (tRevT X.K te) := by
  refine ⟨fun pins s σ H Q I h => ?_⟩
  refine Subscript_ (thn (he.run pins s σ H _ I h) fun v s1 ⟨x, H1, I1, r1, q1⟩ => ?_)
  obtain ⟨a, xs, ex, hx, q⟩ := q1
  subst ex
  cases r1
  have hst : PO X (some (.UnaryOp .USub (.Constant (.int 1) k p1) p2)) (tPart (tUn (rU fun i => .int (-i)) (tC (.int 1)))) := po_some (pe_un un_neg pe_int)
  refine wpAny_Slice (thn (po_none.run pins s1 σ H1 (fun o H2 => o = none ∧ H2 = H1) I1 ⟨rfl, rfl⟩) fun vl s2 ⟨l, H2, I2, pl, el, e2⟩ => ?_)
  subst el e2
  refine thn (po_none.run pins s2 σ H2 (fun o H3 => o = none ∧ H3 = H2) I2 ⟨rfl, rfl⟩) fun vu s3 ⟨u, H3, I3, pu, eu, e3⟩ => ?_
  subst eu e3
  refine thn (hst.run pins s3 σ H3 (fun o H4 => o = some (-1) ∧ H4 = H3) I3 ⟨1, rfl, -1, rfl, rfl, rfl⟩) fun vs s4 ⟨o, H4, I4, ps, eo, e4⟩ => ?_
  subst eo e4
  have I5 : Inv X pins σ H4 { s4 with heap := s4.heap.push { cls := .type "slice", data := .fields #[vl, vu, vs] } } := I4.kept (t' := s4.toks) fun b ob q => Heap.get?_push_of_some _ q
  obtain ⟨its, r, ht, hz⟩ := I5.tuple hx
  have hlen := r.length
  cases pl
  cases pu
  cases ps with
  | int _ tk =>
    show wpAny (model X.prog X.w) X.A (subscriptTail e (.Slice none none (some (.UnaryOp .USub (.Constant (.int 1) k p1) p2)) p3) (.ref a) (.ref s4.heap.objs.size)) (EP X pins σ Q) X.xe { s4 with heap := s4.heap.push { cls := .type "slice", data := .fields #[.none, .none, .int (-1) tk] } }
    refine tail_any (ops := [.ref a, .ref s4.heap.objs.size]) ht.typeIs PyProof.Rows.slot_tuple_getitem.lookup ?_ (by with_unfolding_all rfl)
    refine HT.uz_getItem_tuple_rev ht (Heap.IsSliceOf.new _ .none .none (.int (-1) tk)) ?_ (by rw [List.size_toArray]; omega)
    refine ⟨.ref _, _, I5.laid (t' := s4.toks) (o := .tup xs.reverse) (fun b ob q => Heap.get?_push_of_some _ q) (Nat.le_refl _) ?_, rfl, q _ (I5.hok.fresh (Nat.le_refl _))⟩
    exact ⟨by rw [List.length_reverse]; exact hz, _, r.reverse, ⟨_, Heap.get?_push_size _ rfl, rfl, _, rfl⟩⟩
def fRev : F1 := fun x O Q => ∃ xs, tv x = some xs ∧ Q (mkT xs.reverse) O
theorem d_revT {e : Expr} {t : DE} {k : Nat} {p1 p2 p3 pos : Pos} (he : PDE X Wx e t) : PDE X Wx (.Subscript e (.Slice none none (some (.UnaryOp .USub (.Constant (.int 1) k p1) p2)) p3) pos) (dUn fRev t) :=
  (pe_revT he).imp fun σ H Q ⟨Γ, O, S, ρ, Q', E', st, h, kq, kx⟩ => ⟨Γ, O, S, ρ, _, E', st, h, fun w1 O1 S1 ρ1 v1 H1 x1 wd1 r1 ⟨xs, e1, h1⟩ => by
    obtain ⟨a, vs, rfl, h2, g⟩ := tv_inv e1 r1
    exact ⟨a, vs, rfl, SubH.sqT wd1.sub h2, fun p np => (kq.ext x1).newT wd1 np g.reverse h1⟩, kx⟩
end

/-! ### t * n -/
theorem uz_tuple_mulS (l : Addr) (items : Array Value) (n : Nat) (dd : Option Addr) (sl : Array (Option Value)) (x : Int) (u : Tok) (c0 : (decide (x < -(2 ^ 63)) || decide (x ≥ 2 ^ 63)) = false) (c1 : (items.isEmpty || x == 1) = true) :
    Meets (Builtin.«tuple.__mul__» ⟨[.ref l, .int x u], []⟩) (fun _ R s => s.heap.get? l = some { cls := .type "tuple", dict := dd, data := .seq items n, slots := sl } ∧ R (.ok (.ret (Value.ref l))) s) :=
  .of_wp fun prog w A R s h => by
    obtain ⟨hp, g, d, tk, os⟩ := s
    obtain ⟨hl, h⟩ := h
    have f1 := AutoSeq1.idx_int
    wp_walk using AutoSeq1.wpAny_loadPart' hl
    repeat (first
      | (refine wpAny_ite_false (decide_eq_false (by rw [c0]; exact Bool.false_ne_true)) ?_; wp_walk using AutoSeq1.wpAny_loadPart' hl)
      | (refine wpAny_ite_true (decide_eq_true c1) ?_; wp_walk using AutoSeq1.wpAny_loadPart' hl))
    exact ⟨_, rfl, h⟩
theorem uz_tuple_mul0 (l : Addr) (items : Array Value) (n : Nat) (dd : Option Addr) (sl : Array (Option Value)) (x : Int) (u : Tok) (c0 : (decide (x < -(2 ^ 63)) || decide (x ≥ 2 ^ 63)) = false) (c1 : (items.isEmpty || x == 1) = false) (c2 : (decide (x ≤ 0) || items.isEmpty) = true) :
    Meets (Builtin.«tuple.__mul__» ⟨[.ref l, .int x u], []⟩) (fun _ R s => s.heap.get? l = some { cls := .type "tuple", dict := dd, data := .seq items n, slots := sl } ∧
      R (.ok (.ret (Value.ref s.heap.objs.size))) { s with heap := s.heap.push { cls := Value.type "tuple", data := Data.seq #[] }, toks := s.toks }) :=
  .of_wp fun prog w A R s h => by
    obtain ⟨hp, g, d, tk, os⟩ := s
    obtain ⟨hl, h⟩ := h
    have f1 := AutoSeq1.idx_int
    wp_walk using AutoSeq1.wpAny_loadPart' hl
    repeat (first
      | (refine wpAny_ite_false (decide_eq_false (by rw [c0]; exact Bool.false_ne_true)) ?_; wp_walk using AutoSeq1.wpAny_loadPart' hl)
      | (refine wpAny_ite_false (decide_eq_false (by rw [c1]; exact Bool.false_ne_true)) ?_; wp_walk using AutoSeq1.wpAny_loadPart' hl)
      | (refine wpAny_ite_true (decide_eq_true c2) ?_; wp_walk using AutoSeq1.wpAny_loadPart' hl))
    exact ⟨_, rfl, h⟩
section
variable {X : Cx} {Wx : WX}
def rRepS (K : PySem.W.Frag) : R2 := fun x y H Q => ∃ l k xs, x = .ref l ∧ y = .int k ∧ SqT K H l xs ∧ 0 ≤ k ∧ k ≤ 1000 ∧ (xs = [] ∨ k = 1) ∧ Q (.ref l) H
theorem op_repS : OpR X (binaryOp .Mult) (rRepS X.K) := by
  intro pins s σ H x y v u Q I rx ry h
  obtain ⟨l, k, xs, rfl, rfl, hT, h1, h2, he, q⟩ := h
  cases rx
  obtain ⟨t, rfl⟩ := ry
  obtain ⟨its, r, ⟨⟨cls, dd, data, sl⟩, ho, hc, n, hd⟩, hs⟩ := I.tuple hT
  simp only at hc hd
  subst hc hd
  have c0 : (decide (k < -(2 ^ 63)) || decide (k ≥ 2 ^ 63)) = false := by
    rw [decide_eq_false (by omega), decide_eq_false (by omega)] <;> rfl
  have c1 : (its.toArray.isEmpty || k == 1) = true := by
    rcases he with e | e
    · subst e
      cases r
      rfl
    · subst e
      simp
  exact wpAny_binaryOp_repeat_ref (T := "tuple") (U := "int") (by decide) ⟨_, ho, rfl⟩ (fun s' => typeIs_int s' k t) noFill_tuple_mul F.fills_int_mul F.slot_int_rmul repeat_tuple F.slot_int_index.lookup
    (call_meets F.slot_int_rmul (typeIs_int s k t) F.entry_int_rmul (F.args_int_rmul_2 _ _) (int_rmul_tuple k t l its.toArray n dd sl)
      ⟨ho, rfl, ⟨_, ho, rfl⟩, call_meets F.slot_tuple_mul ⟨_, ho, rfl⟩ F.entry_tuple_mul (F.args_tuple_mul_2 _ _) (uz_tuple_mulS l its.toArray n dd sl k t c0 c1) ⟨ho, ⟨.ref l, H, I, rfl, q⟩⟩⟩)
def rRepZ (K : PySem.W.Frag) : R2 := fun x y H Q => ∃ l xs, x = .ref l ∧ y = .int 0 ∧ SqT K H l xs ∧ xs ≠ [] ∧ ∀ p, H p = none → Q (.ref p) (upd H p (.tup []))
theorem op_repZ : OpR X (binaryOp .Mult) (rRepZ X.K) := by
  intro pins s σ H x y v u Q I rx ry h
  obtain ⟨l, xs, rfl, rfl, hT, hne, q⟩ := h
  cases rx
  obtain ⟨t, rfl⟩ := ry
  obtain ⟨its, r, ⟨⟨cls, dd, data, sl⟩, ho, hc, n, hd⟩, hs⟩ := I.tuple hT
  simp only at hc hd
  subst hc hd
  have hn : its ≠ [] := fun e => hne (by
    have := r.length
    rw [e] at this
    exact List.eq_nil_of_length_eq_zero this)
  have hi : its.toArray.isEmpty = false := by
    cases its with
    | nil => exact absurd rfl hn
    | cons a b => rfl
  refine wpAny_binaryOp_repeat_ref (T := "tuple") (U := "int") (by decide) ⟨_, ho, rfl⟩ (fun s' => typeIs_int s' 0 t) noFill_tuple_mul F.fills_int_mul F.slot_int_rmul repeat_tuple F.slot_int_index.lookup
    (call_meets F.slot_int_rmul (typeIs_int s 0 t) F.entry_int_rmul (F.args_int_rmul_2 _ _) (int_rmul_tuple 0 t l its.toArray n dd sl)
      ⟨ho, rfl, ⟨_, ho, rfl⟩, call_meets F.slot_tuple_mul ⟨_, ho, rfl⟩ F.entry_tuple_mul (F.args_tuple_mul_2 _ _) (uz_tuple_mul0 l its.toArray n dd sl 0 t (by decide) (by rw [hi]; rfl) (by rfl)) ⟨ho, ?_⟩⟩)
  refine ⟨.ref s.heap.objs.size, _, I.laid (t' := s.toks) (o := .tup []) (fun b ob q => Heap.get?_push_of_some _ q) (Nat.le_refl _) ?_, rfl, q _ (I.hok.fresh (Nat.le_refl _))⟩
  exact ⟨Nat.zero_le _, [], .nil, IsTup.new _ _⟩
/-- t * n, n not below 0 -/
def fRepT : F2 := fun x y O Q => ∃ xs n, tv x = some xs ∧ y = .d (.int n) ∧ 0 ≤ n ∧ n ≤ 1000 ∧ xs.length ≤ 1000 ∧ Q (mkT (List.replicate n.toNat xs).flatten) O
theorem o_repT : OpD X (binaryOp .Mult) fRepT := ((op_repS.or op_repT).or op_repZ).imp fun x y H Q ⟨wx, wy, O, S, ρ, Q', wd, r1, r2, ⟨xs, n, e1, e2, h1, h2, h3, q⟩, kq⟩ => by
  have q1 := r1.asT e1
  obtain ⟨a, vs, rfl, g, g1⟩ := tv_inv e1 r1
  subst e2
  cases r2 with
  | d r2 =>
    cases r2
    by_cases hx : xs = [] ∨ n = 1
    · have ez : (List.replicate n.toNat xs).flatten = xs := by
        rcases hx with rfl | rfl
        · rw [List.flatten_eq_nil_iff]; intro l hl; exact List.eq_of_mem_replicate hl
        · simp
      rw [ez] at q
      refine .inl (.inl ⟨a, n, vs, rfl, rfl, SubH.sqT wd.sub g, h1, h2, ?_, kq.back wd q1 q⟩)
      rcases hx with rfl | rfl
      · cases g1; exact .inl rfl
      · exact .inr rfl
    · have hne : xs ≠ [] := fun z => hx (.inl z)
      have hn1 : n ≠ 1 := fun z => hx (.inr z)
      have hv : vs ≠ [] := fun z => hne (by
        subst z
        cases g1; rfl)
      by_cases h0 : n = 0
      · subst h0
        exact .inr ⟨a, vs, rfl, rfl, SubH.sqT wd.sub g, hv, fun p np => kq.newT wd np .nil q⟩
      · exact .inl (.inr ⟨a, n, vs, rfl, rfl, SubH.sqT wd.sub g, hv, by omega, h2, by rw [g1.length]; exact h3, fun p np => kq.newT wd np (g1.rep _) q⟩)

/-! ### zip(a, b) -/
theorem it_z {e e2 : Expr} {u : DA} {p pos tpos : Pos} {elts : List Expr} {kk : Nat} (hm : X.mg "zip" = none) (ha : PDA X Wx [e, e2] u) (hg : Gl X "zip" := by rfl)
    (hs : starEach [e, e2] X.env = (false, eval e X.env) :: starEach [e2] X.env := by rfl) (hpl : (backTo pos (starEach [e2] X.env)).any (·.1) = false := by rfl) :
    PDI X Wx (.Tuple elts kk tpos) (.Call (.Name "zip" p) [e, e2] [] pos) (dItZ u) :=
  (RZ.pi_zipA hg hm ha hs hpl).imp fun σ H R ⟨Γ, O, S, ρ, Q', E', st, h, kq, kx⟩ => ⟨Γ, O, S, ρ, _, E', st, h, fun ws O1 S1 ρ1 vs H1 x1 wd1 r1 h1 => by
    dsimp only at h1
    split at h1
    · rename_i w w'
      cases r1 with
      | cons r rr =>
        cases rr with
        | cons r' rr =>
          cases rr
          obtain ⟨a, items, chk, ea, h1, ck, hl⟩ := wlkL_inv wd1 h1 r
          obtain ⟨b, items', chk', eb, h1, ck', hl'⟩ := wlkL_inv wd1 h1 r'
          subst ea eb
          obtain ⟨vs0, hv0, _⟩ := hl O1 S1 ρ1 H1 .refl wd1 ck
          obtain ⟨vs1, hv1, _⟩ := hl' O1 S1 ρ1 H1 .refl wd1 ck'
          refine ⟨a, b, vs0, vs1, rfl, .inl ⟨hv0, hv1, kq _ _ O1 S1 ρ1 _ H1 x1 wd1 ⟨fun i O' S' ρ' H' x wd c hi => ?_, fun i w O' S' ρ' H' x H'' ex wd c hi y => ?_, fun O' S' ρ' H' x wd c => ?_⟩ h1⟩⟩
          · rw [zipW_len] at hi
            obtain ⟨xs, h3, h4⟩ := hl O' S' ρ' H' x wd c.1
            obtain ⟨ys, h3', h4'⟩ := hl' O' S' ρ' H' x wd c.2
            obtain ⟨v, h5, _⟩ := h4.get (List.getElem?_eq_getElem (show i < items.length by omega))
            obtain ⟨v', h5', _⟩ := h4'.get (List.getElem?_eq_getElem (show i < items'.length by omega))
            exact ⟨xs, ys, v, v', h3, h3', h5, h5'⟩
          · obtain ⟨xs, h3, h4⟩ := hl O' S' ρ' H' ex wd c.1
            obtain ⟨ys, h3', h4'⟩ := hl' O' S' ρ' H' ex wd c.2
            obtain ⟨wa, wb, e1, e2, rfl⟩ := zipW_get _ _ _ _ hi
            obtain ⟨v, h5, h6⟩ := h4.get e1
            obtain ⟨v', h5', h6'⟩ := h4'.get e2
            obtain ⟨T, z, z', rfl, nT, rfl, hz, hz'⟩ := y
            have q1 : some v = some z := h5.symm.trans (hz xs h3)
            have q2 : some v' = some z' := h5'.symm.trans (hz' ys h3')
            cases q1
            cases q2
            exact yl_tup wd nT (.cons h6 (.cons h6' .nil))
          · obtain ⟨xs, h3, h4⟩ := hl O' S' ρ' H' x wd c.1
            obtain ⟨ys, h3', h4'⟩ := hl' O' S' ρ' H' x wd c.2
            refine ⟨xs, ys, h3, h3', ?_⟩
            rw [zipW_len, h4.length, h4'.length]; omega
    · exact h1.elim, kx⟩
end
end UZ
/-! UZ, part H: small things for the printed links. -/
namespace UZ
open PySem PySem.Spec PyProof.Rows L2
theorem hu_eq {k : Nat} {A : Around} (hr : Room k A) : A.units + 64 < cLine := hr.units
theorem hu_in {k : Nat} {A : Around} (hr : Room k A) : A.units + 65 < cLine := by have := hr.un; omega
section
variable {X : Cx} {Wx : WX} {a b : Expr} {pos : Pos}
/-- an item of a list or of a tuple -/
def fIxQ : F2 := fun x y O Q => fIxL x y O Q ∨ fIxT x y O Q
theorem i_q : IxD X fIxQ := (i_l.or i_t).imp fun x y H Q ⟨wx, wy, O, S, ρ, Q', wd, r1, r2, q, kq⟩ => by
  rcases q with q | q
  · exact .inl ⟨wx, wy, O, S, ρ, Q', wd, r1, r2, q, kq⟩
  · exact .inr ⟨wx, wy, O, S, ρ, Q', wd, r1, r2, q, kq⟩
end
theorem b_len : bootBuiltins "len" = some (.builtin "len") := PySem.boot_len
theorem b_abs : bootBuiltins "abs" = some (.builtin "abs") := by decide +kernel
theorem b_max : bootBuiltins "max" = some (.builtin "max") := by decide +kernel
theorem b_min : bootBuiltins "min" = some (.builtin "min") := by decide +kernel
theorem b_isinstance : bootBuiltins "isinstance" = some (.builtin "isinstance") := by decide +kernel
theorem b_sorted : bootBuiltins "sorted" = some (.builtin "sorted") := by decide +kernel
theorem b_int : bootBuiltins "int" = some (.type "int") := by decide +kernel
theorem b_str : bootBuiltins "str" = some (.type "str") := by decide +kernel
theorem b_bool : bootBuiltins "bool" = some (.type "bool") := by decide +kernel
theorem b_list : bootBuiltins "list" = some (.type "list") := by decide +kernel
theorem b_tuple : bootBuiltins "tuple" = some (.type "tuple") := by decide +kernel
theorem b_dict : bootBuiltins "dict" = some (.type "dict") := by decide +kernel
end UZ
/-! UZ, part X: the readings run step by step; typed data. -/
namespace UZ
open PySem PySem.W L2

/-! ### typed data -/
section
variable {α β : Type} [DecidableEq α] [Datum α] [DecidableEq β] [Datum β]
abbrev tD (l : List α) : PyData := .tuple (l.map Datum.toD)
abbrev lD (l : List α) : PyData := .list (l.map Datum.toD)
abbrev wD (x : α) : W := .d (Datum.toD x)
/-- a list that may be changed, of typed data -/
abbrev oL (l : List α) : Ob := .lst (l.map fun x => .d (Datum.toD x))
theorem toD_int (i : Int) : (Datum.toD i : PyData) = .int i := rfl
theorem toD_str (i : Str) : (Datum.toD i : PyData) = .str i := rfl
theorem toD_bool (i : Bool) : (Datum.toD i : PyData) = .bool i := rfl
theorem toD_pair (p : α × β) : (Datum.toD p : PyData) = .tuple [Datum.toD p.1, Datum.toD p.2] := rfl
theorem toD_list (l : List α) : (Datum.toD l : PyData) = lD l := rfl
theorem toD_tup (l : List α) : (Datum.toD (Tup.mk l) : PyData) = tD l := rfl
theorem okD_datum (x : α) (h : Datum.depth α ≤ 50 := by decide) : okD (Datum.toD x) := ⟨Datum.plain x, Nat.le_trans (Datum.depth_le x) h⟩
theorem okD_t (l : List α) (h : Datum.depth α ≤ 49 := by decide) : okD (tD l) := ⟨(Datum.plain (Tup.mk l) : _), Nat.le_trans (Datum.depth_le (Tup.mk l)) (Nat.succ_le_succ h)⟩
theorem okD_l (l : List α) (h : Datum.depth α ≤ 49 := by decide) : okD (lD l) := ⟨(Datum.plain l : _), Nat.le_trans (Datum.depth_le l) (Nat.succ_le_succ h)⟩
theorem eqv_t (a b : List α) : PyData.eqv (tD a) (tD b) = decide (a = b) := by
  have := Datum.eqv (Tup.mk a) (Tup.mk b)
  rw [show decide (Tup.mk a = Tup.mk b) = decide (a = b) from decide_eq_decide.mpr ⟨fun e => by injection e, fun e => by rw [e]⟩] at this
  exact this
theorem eqv_l (a b : List α) : PyData.eqv (lD a) (lD b) = decide (a = b) := Datum.eqv a b
theorem map_dd (l : List α) : (l.map Datum.toD).map W.d = l.map fun x => .d (Datum.toD x) := by rw [List.map_map]; rfl
theorem allD_o (l : List α) : allD (l.map fun x => W.d (Datum.toD x)) = some (l.map Datum.toD) := by rw [← map_dd, allD_map]
theorem mkT_o (l : List α) : mkT (l.map fun x => W.d (Datum.toD x)) = .d (tD l) := by rw [← map_dd, mkT_map]
theorem rsL_o {O : List Ob} (l : List α) : RsL O (l.map fun x => W.d (Datum.toD x)) (l.map Datum.toD) := by rw [← map_dd]; exact .map _
theorem rsNL_o {n : Nat} {O : List Ob} (l : List α) : RsNL n O (l.map fun x => W.d (Datum.toD x)) (l.map Datum.toD) := by rw [← map_dd]; exact .map _
theorem scL_o {n : Nat} (l : List α) : ScL n (l.map fun x => W.d (Datum.toD x)) := by rw [← map_dd]; exact .map _
end

/-! ### statements -/
section
variable {D : DEnds} {Γ : Gm} {O : List Ob} {u v : DS} {t : DE} {c : DT} {Q : DQ} {E : DX}
theorem x_seq (h : u { D with nx := v D } Γ O) : dSeq u v D Γ O := h
theorem x_next (h : D.nx Γ O) : dNext D Γ O := h
theorem x_ret (h : t Γ O D.rt fun x O' => D.ex x Γ O') : dRet t D Γ O := h
theorem x_drop (h : t Γ O (fun _ O1 => D.nx Γ O1) fun x O' => D.ex x Γ O') : dDrop t D Γ O := h
theorem x_if (h : c Γ O (fun b O1 => if b = true then u D Γ O1 else v D Γ O1) fun x O' => D.ex x Γ O') : dIf c u v D Γ O := h
theorem x_set {i : Nat} (h : t Γ O (fun w O1 => D.nx (Γ.set i (some w)) O1) fun x O' => D.ex x Γ O') : dSet i t D Γ O := h
theorem x_asg {g : DG} (h : t Γ O (fun w O1 => g w Γ O1 D.nx) fun x O' => D.ex x Γ O') : dAsg t g D Γ O := h
theorem x_par {i j : Nat} {a : DE} {b : DE} (h : a Γ O (fun v O1 => b Γ O1 (fun w O2 => D.nx ((Γ.set i (some v)).set j (some w)) O2) fun x O' => D.ex x Γ O') fun x O' => D.ex x Γ O') : dPar i j (dCons a (dCons b dNil)) D Γ O := h
theorem x_aug {i : Nat} {x : W} {f : F2} (e : Γ[i]? = some (some x)) (h : t Γ O (fun y O1 => f x y O1 fun z O2 => D.nx (Γ.set i (some z)) O2) fun x O' => D.ex x Γ O') : dAug i t f D Γ O := by
  unfold dAug; rw [e]; exact h
theorem x_break (h : D.bk Γ O) : dBreak D Γ O := h
theorem x_cont (h : D.ct Γ O) : dCont D Γ O := h
theorem x_for {it : DI} {g : DG} {b : DS} (h : it Γ O (fun items chk O1 => dForL g b chk items D Γ O1) fun x O' => D.ex x Γ O') : dFor it g b D Γ O := h
/-- a loop by what holds between two turns -/
theorem forL_inv {g : DG} {b : DS} {chk : List Ob → Prop} (I : Nat → Gm → List Ob → Prop) {items : List W} (h0 : I 0 Γ O) (hc : ∀ i Γ O, i ≤ items.length → I i Γ O → chk O)
    (step : ∀ i w Γ O, items[i]? = some w → I i Γ O → g w Γ O fun Γ1 O1 => b { D with nx := I (i + 1), ct := I (i + 1), bk := D.nx } Γ1 O1) (done : ∀ Γ O, I items.length Γ O → D.nx Γ O) : dForL g b chk items D Γ O := by
  have main : ∀ (rest : List W) (pre : List W) (Γ : Gm) (O : List Ob), items = pre ++ rest → I pre.length Γ O → dForL g b chk rest D Γ O := by
    intro rest
    induction rest with
    | nil =>
      intro pre Γ O e h
      rw [List.append_nil] at e
      subst e
      exact ⟨hc _ _ _ (Nat.le_refl _) h, done _ _ h⟩
    | cons w ws ih =>
      intro pre Γ O e h
      have hg : items[pre.length]? = some w := by rw [e, List.getElem?_append_right (Nat.le_refl _), Nat.sub_self]; rfl
      refine ⟨hc _ _ _ (by rw [e, List.length_append]; omega) h, I (pre.length + 1), fun Γ' O' h' => ih (pre ++ [w]) Γ' O' (by rw [e, List.append_assoc]; rfl) (by rw [List.length_append]; exact h'), step _ _ _ _ hg h⟩
  exact main items [] Γ O rfl h0
/-- the same along the items themselves: f says what a list of items means -/
theorem forL_nil {g : DG} {b : DS} {chk : List Ob → Prop} (hc : chk O) (h : D.nx Γ O) : dForL g b chk [] D Γ O := ⟨hc, h⟩
theorem forL_cons {g : DG} {b : DS} {chk : List Ob → Prop} {w : W} {ws : List W} (hc : chk O) (h : g w Γ O fun Γ1 O1 => b { D with nx := dForL g b chk ws D, ct := dForL g b chk ws D, bk := D.nx } Γ1 O1) : dForL g b chk (w :: ws) D Γ O := ⟨hc, _, fun _ _ q => q, h⟩
/-- a while by a word and a measure -/
theorem while_inv {b : DS} (I : Gm → List Ob → Prop) (μ : Gm → List Ob → Nat) (h0 : I Γ O)
    (step : ∀ Γ O, I Γ O → c Γ O (fun k O1 => if k = true then b { D with nx := fun Γ' O' => I Γ' O' ∧ μ Γ' O' < μ Γ O, ct := fun Γ' O' => I Γ' O' ∧ μ Γ' O' < μ Γ O, bk := D.nx } Γ O1 else D.nx Γ O1) fun x O' => D.ex x Γ O') : dWhile c b D Γ O := by
  have main : ∀ (n : Nat) (Γ : Gm) (O : List Ob), μ Γ O < n → I Γ O → dWh c b n D Γ O := by
    intro n
    induction n with
    | zero => intro Γ O h; exact absurd h (Nat.not_lt_zero _)
    | succ n ih =>
      intro Γ O h hi
      exact ⟨fun Γ' O' => I Γ' O' ∧ μ Γ' O' < μ Γ O, fun Γ' O' ⟨h1, h2⟩ => ih Γ' O' (by omega) h1, step Γ O hi⟩
  exact ⟨_, main _ Γ O (Nat.lt_succ_self _) h0⟩

/-- the same, the measure part of the word -/
theorem while_dn {b : DS} (I : Nat → Gm → List Ob → Prop) {n : Nat} (h0 : I n Γ O)
    (step : ∀ n Γ O, I n Γ O → c Γ O (fun k O1 => if k = true then b { D with nx := fun Γ' O' => ∃ m, m < n ∧ I m Γ' O', ct := fun Γ' O' => ∃ m, m < n ∧ I m Γ' O', bk := D.nx } Γ O1 else D.nx Γ O1) fun x O' => D.ex x Γ O') : dWhile c b D Γ O := by
  have main : ∀ (N n : Nat) (Γ : Gm) (O : List Ob), n < N → I n Γ O → dWh c b N D Γ O := by
    intro N
    induction N with
    | zero => intro n Γ O h; exact absurd h (Nat.not_lt_zero _)
    | succ N ih =>
      intro n Γ O h hi
      exact ⟨fun Γ' O' => ∃ m, m < n ∧ I m Γ' O', fun Γ' O' ⟨m, h1, h2⟩ => ih m Γ' O' (by omega) h2, step n Γ O hi⟩
  exact ⟨_, main _ n Γ O (Nat.lt_succ_self _) h0⟩

/-! ### targets -/
theorem x_nm {i : Nat} {w : W} {R : Gm → List Ob → Prop} (h : R (Γ.set i (some w)) O) : gNm i w Γ O R := h
theorem x_tp {n : Nat} {w : W} {ws : List W} {gs : List W → Gm → List Ob → (Gm → List Ob → Prop) → Prop} {R : Gm → List Ob → Prop} (e : tv w = some ws) (hl : ws.length = n) (h : gs ws Γ O R) : gTp n gs w Γ O R := ⟨ws, e, hl, h⟩
theorem x_tp2 {w w1 w2 : W} {gs : List W → Gm → List Ob → (Gm → List Ob → Prop) → Prop} {R : Gm → List Ob → Prop} (e : tv w = some [w1, w2]) (h : gs [w1, w2] Γ O R) : gTp 2 gs w Γ O R := ⟨_, e, rfl, h⟩
theorem x_tp3 {w w1 w2 w3 : W} {gs : List W → Gm → List Ob → (Gm → List Ob → Prop) → Prop} {R : Gm → List Ob → Prop} (e : tv w = some [w1, w2, w3]) (h : gs [w1, w2, w3] Γ O R) : gTp 3 gs w Γ O R := ⟨_, e, rfl, h⟩
theorem x_cs {g : DG} {gs : List W → Gm → List Ob → (Gm → List Ob → Prop) → Prop} {w : W} {ws : List W} {R : Gm → List Ob → Prop} (h : g w Γ O fun Γ1 O1 => gs ws Γ1 O1 R) : gCs g gs (w :: ws) Γ O R := h
theorem x_end {R : Gm → List Ob → Prop} (h : R Γ O) : gEnd [] Γ O R := ⟨rfl, h⟩
theorem x_sub {to ti : DE} {f : F3} {w : W} {R : Gm → List Ob → Prop} (h : to Γ O (fun o O1 => ti Γ O1 (fun i O2 => f o i w O2 fun O3 => R Γ O3) noX) noX) : gSubD to ti f w Γ O R := h
theorem x_setL {k : Nat} {j : Int} {v : W} {ws : List W} {m : Nat} {R : List Ob → Prop} (e : O[k]? = some (.lst ws)) (hm : ixN ws.length j = some m) (h : R (O.set k (.lst (ws.set m v)))) : fSetL (.o k) (.d (.int j)) v O R := ⟨ws, m, e, hm, h⟩

/-! ### expressions -/
theorem x_v {i : Nat} {w : W} (e : Γ[i]? = some (some w)) (h : Q w O) : dV i Γ O Q E := by unfold dV; rw [e]; exact h
theorem x_c {x : PyData} (h : Q (.d x) O) : dC x Γ O Q E := h
theorem x_cw {x : W} (h : Q x O) : dCw x Γ O Q E := h
theorem x_op {f : F2} {ta tb : DE} (h : ta Γ O (fun x O1 => tb Γ O1 (fun y O2 => f x y O2 Q) E) E) : dOp f ta tb Γ O Q E := h
theorem x_un {f : F1} {ta : DE} (h : ta Γ O (fun x O1 => f x O1 Q) E) : dUn f ta Γ O Q E := h
theorem x_tst {R : Bool → List Ob → Prop} (h : t Γ O (onB R) E) : dTst t Γ O R E := h
theorem x_onB {R : Bool → List Ob → Prop} {b : Bool} (h : R b O) : onB R (.d (.bool b)) O := h
theorem x_not {R : Bool → List Ob → Prop} (h : c Γ O (fun b O1 => R (!b) O1) E) : dNotT c Γ O R E := h
theorem x_and {c' : DT} {R : Bool → List Ob → Prop} (h : c Γ O (fun b O1 => if b = true then c' Γ O1 R E else R false O1) E) : dAndT c c' Γ O R E := h
theorem x_or {c' : DT} {R : Bool → List Ob → Prop} (h : c Γ O (fun b O1 => if b = true then R true O1 else c' Γ O1 R E) E) : dOrT c c' Γ O R E := h
theorem x_andV {ta tb : DE} (h : ta Γ O (onB fun b O1 => if b = true then tb Γ O1 Q E else Q (.d (.bool false)) O1) E) : dAndV ta tb Γ O Q E := h
theorem x_orV {ta tb : DE} (h : ta Γ O (onB fun b O1 => if b = true then Q (.d (.bool true)) O1 else tb Γ O1 Q E) E) : dOrV ta tb Γ O Q E := h
theorem x_notV {ta : DE} (h : ta Γ O (onB fun b O1 => Q (.d (.bool !b)) O1) E) : dNotV ta Γ O Q E := h
theorem x_ifE {ta tb : DE} (h : c Γ O (fun b O1 => if b = true then ta Γ O1 Q E else tb Γ O1 Q E) E) : dIfE c ta tb Γ O Q E := h
theorem x_chain {f g : F2} {ta tb tc : DE} (h : ta Γ O (fun x O1 => tb Γ O1 (fun y O2 => f x y O2 (onB fun b O3 => if b = true then tc Γ O3 (fun u O4 => g y u O4 Q) E else Q (.d (.bool false)) O3)) E) E) : dChain f g ta tb tc Γ O Q E := h
theorem x_nil {R : List W → List Ob → Prop} (h : R [] O) : dNil Γ O R E := h
theorem x_cons {a : DE} {b : DA} {R : List W → List Ob → Prop} (h : a Γ O (fun w O1 => b Γ O1 (fun ws O2 => R (w :: ws) O2) E) E) : dCons a b Γ O R E := h
def kTp (ws : List W) (O : List Ob) (Q : DQ) : Prop := ws.length ≤ sizeLine ∧ Q (mkT ws) O
def kLs (ws : List W) (O : List Ob) (Q : DQ) : Prop := ws.length ≤ sizeLine ∧ match allD ws with | some xs => Q (.d (.list xs)) O | none => False
def kLc (ws : List W) (O : List Ob) (Q : DQ) : Prop := match allD ws with | some xs => Q (.d (.list xs)) O | none => False
theorem x_tup {a : DA} (h : a Γ O (fun ws O1 => kTp ws O1 Q) E) : dTup a Γ O Q E := h
theorem x_lst {a : DA} (h : a Γ O (fun ws O1 => kLs ws O1 Q) E) : dLst a Γ O Q E := h
theorem x_lstO {a : DA} (h : a Γ O (fun ws O1 => ws.length ≤ sizeLine ∧ Q (.o O1.length) (O1 ++ [.lst ws])) E) : dLstO a Γ O Q E := h
theorem x_sl {f : FS} {tl th : DO} (h : t Γ O (fun x O1 => tl Γ O1 (fun lo O2 => th Γ O2 (fun hi O3 => f x lo hi O3 Q) E) E) E) : dSl f t tl th Γ O Q E := h
theorem x_nop {R : Option Int → List Ob → Prop} (h : R none O) : dNoP Γ O R E := h
theorem x_part {R : Option Int → List Ob → Prop} (h : t Γ O (fun w O1 => match w with | .d (.int i) => R (some i) O1 | _ => False) E) : dPart t Γ O R E := h
theorem x_cb {f : FC} {a : DA} (h : a Γ O (fun ws O1 => f ws O1 Q) E) : dCB f a Γ O Q E := h
theorem x_call {sp : DSp} {a : DA} (h : a Γ O (fun ws O1 => sp ws O1 Q E) E) : dCall sp a Γ O Q E := h
theorem x_call0 {sp : DSp} (h : sp [] O Q noX) : dCall0 sp Γ O Q E := h
theorem x_mt0 {f : FM} {to : DE} (h : to Γ O (fun w O1 => match w with
  | .o k => match O1[k]? with
    | some (.lst ws) => f k ws [] O1 Q
    | _ => False
  | _ => False) E) : dMt0 f to Γ O Q E := h
theorem x_mt {f : FM} {to : DE} {u : DA} (h : to Γ O (fun w O1 => match w with
  | .o k => isLst O1 k ∧ u Γ O1 (fun args O2 => match O2[k]? with
    | some (.lst ws) => f k ws args O2 Q
    | _ => False) E
  | _ => False) E) : dMt f to u Γ O Q E := h
/-- a method of the list at variable i, of one argument -/
theorem x_mt1 {f : FM} {i k : Nat} {ws : List W} {a : DE} (e1 : Γ[i]? = some (some (.o k))) (e2 : O[k]? = some (.lst ws)) (h : a Γ O (fun y O2 => ∃ ws', O2[k]? = some (.lst ws') ∧ f k ws' [y] O2 Q) E) (hm : ∀ ws' y O2, f k ws' [y] O2 Q → f k ws' [y] O2 Q := by exact fun _ _ _ q => q) : dMt f (dV i) (dCons a dNil) Γ O Q E := by
  unfold dMt dV
  rw [e1]
  refine ⟨by unfold isLst; rw [e2]; trivial, ?_⟩
  refine (show a Γ O (fun y O2 => (fun args O2 => match O2[k]? with
    | some (.lst ws) => f k ws args O2 Q
    | _ => False) [y] O2) E from ?_)
  have e : (fun y O2 => ∃ ws', O2[k]? = some (Ob.lst ws') ∧ f k ws' [y] O2 Q) = fun y O2 => (fun args O2 => match O2[k]? with
    | some (.lst ws) => f k ws args O2 Q
    | _ => False) [y] O2 := by
    funext y O2
    refine propext ⟨fun ⟨ws', e, q⟩ => ?_, fun q => ?_⟩
    · show (match O2[k]? with
    | some (.lst ws) => f k ws [y] O2 Q
    | _ => False)
      rw [e]; exact q
    · dsimp only at q
      split at q
      · rename_i ws' e; exact ⟨ws', e, q⟩
      · exact q.elim
  rw [← e]
  exact h
theorem x_mt00 {f : FM} {i k : Nat} {ws : List W} (e1 : Γ[i]? = some (some (.o k))) (e2 : O[k]? = some (.lst ws)) (h : f k ws [] O Q) : dMt0 f (dV i) Γ O Q E := by
  unfold dMt0 dV
  rw [e1]
  show (match O[k]? with
    | some (.lst ws) => f k ws [] O Q
    | _ => False)
  rw [e2]; exact h
theorem x_append {k : Nat} {ws : List W} {y : W} (hl : ws.length < sizeLine) (h : Q (.d .none) (O.set k (.lst (ws ++ [y])))) : mAppend k ws [y] O Q := ⟨hl, h⟩
theorem x_pop {k : Nat} {ws : List W} {y : W} (e : ws[ws.length - 1]? = some y) (h : Q y (O.set k (.lst ws.dropLast))) : mPop k ws [] O Q := ⟨y, e, h⟩
theorem x_yes {R : Bool → List Ob → Prop} (h : R true O) : dYes Γ O R E := h
theorem x_ite {b : Bool} {A B : Prop} (h1 : b = true → A) (h2 : b = false → B) : if b = true then A else B := by
  cases b with
  | true => exact (if_pos rfl).mpr (h1 rfl)
  | false => exact (if_neg (by decide)).mpr (h2 rfl)
theorem x_dec {p : Prop} [Decidable p] {A B : Prop} (h1 : p → A) (h2 : ¬p → B) : if decide p = true then A else B := x_ite (fun h => h1 (of_decide_eq_true h)) fun h => h2 (of_decide_eq_false h)
theorem x_ndec {p : Prop} [Decidable p] {A B : Prop} (h1 : ¬p → A) (h2 : p → B) : if (!decide p) = true then A else B := x_ite (fun h => h1 (by simpa using h)) fun h => h2 (by simpa using h)
theorem x_itT {A B : Prop} (h : A) : if true = true then A else B := h
theorem x_itF {A B : Prop} (h : B) : if false = true then A else B := h
theorem x_nT {A B : Prop} (h : B) : if (!true) = true then A else B := h
theorem x_nF {A B : Prop} (h : A) : if (!false) = true then A else B := h
theorem x_decT {p : Prop} [Decidable p] {A B : Prop} (hp : p) (h : A) : if decide p = true then A else B := (if_pos (decide_eq_true hp)).mpr h
theorem x_decF {p : Prop} [Decidable p] {A B : Prop} (hp : ¬p) (h : B) : if decide p = true then A else B := x_dec (fun z => (hp z).elim) fun _ => h
theorem x_ndecT {p : Prop} [Decidable p] {A B : Prop} (hp : p) (h : B) : if (!decide p) = true then A else B := x_ndec (fun z => (z hp).elim) fun _ => h
theorem x_ndecF {p : Prop} [Decidable p] {A B : Prop} (hp : ¬p) (h : A) : if (!decide p) = true then A else B := x_ndec (fun _ => h) fun z => (hp z).elim
theorem x_never : False → dNever D Γ O := False.elim
/-! ### iteration -/
section
variable {R : List W → (List Ob → Prop) → List Ob → Prop}
theorem x_itT1 (h : t Γ O (fun w O1 => ∃ ws, tv w = some ws ∧ R ws tt0 O1) E) : dItT t Γ O R E := h
theorem x_itRv (h : t Γ O (fun w O1 => ∃ ws, tv w = some ws ∧ R ws.reverse tt0 O1) E) : dItRv t Γ O R E := h
theorem x_itL (h : t Γ O (fun w O1 => match w with
  | .d (.list xs) => R (xs.map .d) tt0 O1
  | .rl xs => R (xs.map .d) tt0 O1
  | .o k => ∃ ws, O1[k]? = some (.lst ws) ∧ R ws (fun O2 => O2[k]? = some (.lst ws)) O1
  | _ => False) E) : dItL t Γ O R E := h
theorem x_itR1 {u : DA} (h : u Γ O (fun ws O1 => match ws with
  | [.d (.int j)] => -(2 ^ 62) ≤ j ∧ j < 2 ^ 62 ∧ R (rng 0 j.toNat) tt0 O1
  | _ => False) E) : dItR1 u Γ O R E := h
theorem x_itR2 {u : DA} (h : u Γ O (fun ws O1 => match ws with
  | [.d (.int i), .d (.int j)] => (-(2 ^ 62) ≤ i ∧ i < 2 ^ 62 ∧ -(2 ^ 62) ≤ j ∧ j < 2 ^ 62) ∧ R (rng i (j - i).toNat) tt0 O1
  | _ => False) E) : dItR2 u Γ O R E := h
theorem x_itEn {u : DA} (h : u Γ O (fun ws O1 => match ws with
  | [w] => wlk w O1 fun items chk => R (enumW 0 items) chk O1
  | _ => False) E) : dItEn u Γ O R E := h
end
theorem x_lc {it : DI} {g : Tg} {tt : DT} {te : DE} {us : List Nat} (h : it Γ O (fun items chk O1 => dLcL g tt te chk (wipeD Γ us) items [] O1 fun acc O2 => kLc acc O2 Q) E) : dLc it g tt te us Γ O Q E := h
theorem x_lcO {it : DI} {g : Tg} {tt : DT} {te : DE} {us : List Nat} (h : it Γ O (fun items chk O1 => dLcL g tt te chk (wipeD Γ us) items [] O1 fun acc O2 => Q (.o O2.length) (O2 ++ [.lst acc])) E) : dLcO it g tt te us Γ O Q E := h
/-- a comprehension by what holds between two turns: what is made so far, and the own things -/
theorem lcL_inv {g : Tg} {tt : DT} {te : DE} {chk : List Ob → Prop} {items : List W} {R : List W → List Ob → Prop} (I : Nat → List W → List Ob → Prop) (h0 : I 0 [] O) (hc : ∀ i acc O, i ≤ items.length → I i acc O → chk O)
    (step : ∀ i w acc O, items[i]? = some w → I i acc O → tgD g w Γ fun Γ1 => tt Γ1 O (fun b O1 => if b = true then te Γ1 O1 (fun y O2 => acc.length < sizeLine ∧ I (i + 1) (acc ++ [y]) O2) noX else I (i + 1) acc O1) noX) (done : ∀ acc O, I items.length acc O → R acc O) : dLcL g tt te chk Γ items [] O R := by
  have main : ∀ (rest : List W) (pre : List W) (acc : List W) (O : List Ob), items = pre ++ rest → I pre.length acc O → dLcL g tt te chk Γ rest acc O R := by
    intro rest
    induction rest with
    | nil =>
      intro pre acc O e h
      rw [List.append_nil] at e
      subst e
      exact ⟨hc _ _ _ (Nat.le_refl _) h, done _ _ h⟩
    | cons w ws ih =>
      intro pre acc O e h
      have hg : items[pre.length]? = some w := by rw [e, List.getElem?_append_right (Nat.le_refl _), Nat.sub_self]; rfl
      exact ⟨hc _ _ _ (by rw [e, List.length_append]; omega) h, fun acc' O' => I (pre.length + 1) acc' O', fun acc' O' h' => ih (pre ++ [w]) acc' O' (by rw [e, List.append_assoc]; rfl) (by rw [List.length_append]; exact h'), step _ _ _ _ hg h⟩
  exact main items [] [] O rfl h0
/-- a pure comprehension: each item gives one item -/
theorem lcL_map {α : Type} {g : Tg} {te : DE} {chk : List Ob → Prop} {items : List W} {R : List W → List Ob → Prop} (l : List α) (emb f : α → W) (hi : items = l.map emb) (hl : l.length ≤ sizeLine) (hc : chk O)
    (step : ∀ x, x ∈ l → ∀ N : W → List Ob → Prop, N (f x) O → tgD g (emb x) Γ fun Γ1 => te Γ1 O N noX) (done : R (l.map f) O) : dLcL g dYes te chk Γ items [] O R := by
  subst hi
  refine lcL_inv (fun i acc O' => acc = (l.take i).map f ∧ O' = O) ⟨rfl, rfl⟩ (fun _ _ _ _ h => h.2 ▸ hc) (fun i w acc O' e h => ?_) fun acc O' h => by
    rw [h.1, h.2, List.length_map, List.take_length]; exact done
  obtain ⟨rfl, rfl⟩ := h
  rw [List.getElem?_map] at e
  cases hx : l[i]? with
  | none => rw [hx] at e; cases e
  | some x =>
    rw [hx] at e; cases e
    obtain ⟨hi, ex⟩ := List.getElem?_eq_some_iff.mp hx
    refine step x (List.mem_of_getElem? hx) _ ⟨?_, ?_, rfl⟩
    · rw [List.length_map, List.length_take]; omega
    · rw [List.take_succ_eq_append_getElem hi, List.map_append, ex]; rfl
/-- a pure comprehension with a test -/
theorem lcL_filter {α : Type} {g : Tg} {tt : DT} {te : DE} {chk : List Ob → Prop} {items : List W} {R : List W → List Ob → Prop} (l : List α) (emb : α → W) (f : α → Option W) (hi : items = l.map emb) (hl : l.length ≤ sizeLine) (hc : chk O)
    (step : ∀ x, x ∈ l → ∀ (N : W → List Ob → Prop) (M : List Ob → Prop), (match f x with | some y => N y O | none => M O) → tgD g (emb x) Γ fun Γ1 => tt Γ1 O (fun b O1 => if b = true then te Γ1 O1 N noX else M O1) noX) (done : R (l.filterMap f) O) : dLcL g tt te chk Γ items [] O R := by
  subst hi
  refine lcL_inv (fun i acc O' => acc = (l.take i).filterMap f ∧ O' = O) ⟨rfl, rfl⟩ (fun _ _ _ _ h => h.2 ▸ hc) (fun i w acc O' e h => ?_) fun acc O' h => by
    rw [h.1, h.2, List.length_map, List.take_length]; exact done
  obtain ⟨rfl, rfl⟩ := h
  rw [List.getElem?_map] at e
  cases hx : l[i]? with
  | none => rw [hx] at e; cases e
  | some x =>
    rw [hx] at e; cases e
    obtain ⟨hi, ex⟩ := List.getElem?_eq_some_iff.mp hx
    have ht : l.take (i + 1) = l.take i ++ [x] := by rw [List.take_succ_eq_append_getElem hi, ex]
    refine step x (List.mem_of_getElem? hx) _ _ ?_
    cases hf : f x with
    | some y =>
      refine ⟨?_, ?_, rfl⟩
      · exact Nat.lt_of_le_of_lt (List.length_filterMap_le _ _) (by rw [List.length_take]; omega)
      · rw [ht, List.filterMap_append]; simp [hf]
    | none =>
      refine ⟨?_, rfl⟩
      rw [ht, List.filterMap_append]; simp [hf]
theorem x_tg1 {i : Nat} {w : W} {R : Gm → Prop} (h : R (Γ.set i (some w))) : tgD (.one i) w Γ R := h
theorem x_tg2 {i j : Nat} {w w1 w2 : W} {R : Gm → Prop} (e : tv w = some [w1, w2]) (h : R (setAll [i, j] [w1, w2] Γ)) : tgD (.many [i, j]) w Γ R := ⟨_, e, rfl, h⟩
theorem x_tgn {is : List Nat} {w : W} {ws : List W} {R : Gm → Prop} (e : tv w = some ws) (hl : ws.length = is.length) (h : R (setAll is ws Γ)) : tgD (.many is) w Γ R := ⟨ws, e, hl, h⟩
end

/-! ### operators on data -/
section
variable {O : List Ob} {Q : DQ}
theorem x_I0 {g : Int → Int → PyData} {i j : Int} (h : Q (.d (g i j)) O) : fI0 g (.d (.int i)) (.d (.int j)) O Q := h
theorem x_I {C : Int → Int → Prop} {g : Int → Int → PyData} {i j : Int} (c : C i j) (h : Q (.d (g i j)) O) : fI C g (.d (.int i)) (.d (.int j)) O Q := ⟨c, h⟩
theorem x_mod {i j : Int} (c : 0 < j) (h : Q (.d (.int (i % j))) O) : fMod (.d (.int i)) (.d (.int j)) O Q := ⟨c, h⟩
theorem x_div {i j : Int} (c : 0 < j) (c2 : j < 2 ^ 64) (h : Q (.d (.int (i / j))) O) : fDiv (.d (.int i)) (.d (.int j)) O Q := ⟨⟨c, Nat.lt_of_lt_of_le (PySem.Flt.log2_lt_of (k := 64) (by decide) (by omega)) (by decide)⟩, h⟩
theorem x_mulL {i j : Int} (c : -(2 ^ 64) < i ∧ i < 2 ^ 64) (h : Q (.d (.int (i * j))) O) : fMul (.d (.int i)) (.d (.int j)) O Q := ⟨.inl (.inl c), h⟩
theorem x_mulR {i j : Int} (c : -(2 ^ 64) < j ∧ j < 2 ^ 64) (h : Q (.d (.int (i * j))) O) : fMul (.d (.int i)) (.d (.int j)) O Q := ⟨.inl (.inr c), h⟩
theorem x_pow {i j : Int} (c : CPow i j) (h : Q (.d (.int (i ^ j.toNat))) O) : fPow (.d (.int i)) (.d (.int j)) O Q := ⟨c, h⟩
theorem x_neg {i : Int} (h : Q (.d (.int (-i))) O) : fNeg (.d (.int i)) O Q := h
theorem x_eq {a b : PyData} {r : Bool} (e : eqS a b = some r) (h : Q (.d (.bool r)) O) : fEq (.d a) (.d b) O Q := by
  show (match eqS a b with | some r => Q (.d (.bool r)) O | none => False)
  rw [e]; exact h
theorem x_ne {a b : PyData} {r : Bool} (e : eqS a b = some r) (h : Q (.d (.bool !r)) O) : fNe (.d a) (.d b) O Q := by
  show (match eqS a b with | some r => Q (.d (.bool !r)) O | none => False)
  rw [e]; exact h
theorem x_isN {x : PyData} (r : Bool) (e : isNone (.d x) = r) (h : Q (.d (.bool r)) O) : fIsN (.d x) (.d .none) O Q := by
  show Q (.d (.bool (isNone (.d x)))) O
  rw [e]; exact h
theorem x_notN {x : PyData} (r : Bool) (e : isNone (.d x) = r) (h : Q (.d (.bool (!r))) O) : fNotN (.d x) (.d .none) O Q := by
  show Q (.d (.bool (!isNone (.d x)))) O
  rw [e]; exact h
theorem x_inS {c : Nat} {z : Str} (h : Q (.d (.bool (decide (c ∈ z.cps.toList)))) O) : fInS false (.d (.str ⟨#[c]⟩)) (.d (.str z)) O Q := ⟨c, rfl, h⟩
theorem x_ninS {c : Nat} {z : Str} (h : Q (.d (.bool (!decide (c ∈ z.cps.toList)))) O) : fInS true (.d (.str ⟨#[c]⟩)) (.d (.str z)) O Q := ⟨c, rfl, h⟩
theorem x_ixS1 {c : Nat} (h : Q (.d (.str ⟨#[c]⟩)) O) : fIxS (.d (.str ⟨#[c]⟩)) (.d (.int 0)) O Q := ⟨by show 1 ≤ sizeLine; decide, c, rfl, h⟩
theorem x_lenS1 {c : Nat} (h : Q (.d (.int 1)) O) : fLen [.d (.str ⟨#[c]⟩)] O Q := ⟨by show 1 ≤ sizeLine; decide, h⟩
theorem x_eqD {a b : PyData} (ha : okD a) (hb : okD b) (h : Q (.d (.bool (PyData.eqv a b))) O) : fEqD (.d a) (.d b) O Q := ⟨a, b, .d, .d, ha, hb, h⟩
theorem x_neD {a b : PyData} (ha : okD a) (hb : okD b) (h : Q (.d (.bool !(PyData.eqv a b))) O) : fNeD (.d a) (.d b) O Q := ⟨a, b, .d, .d, ha, hb, h⟩
theorem x_eqW {x y : W} {a b : PyData} (r1 : Rs O x a) (r2 : Rs O y b) (ha : okD a) (hb : okD b) (h : Q (.d (.bool (PyData.eqv a b))) O) : fEqD x y O Q := ⟨a, b, r1, r2, ha, hb, h⟩
theorem x_neW {x y : W} {a b : PyData} (r1 : Rs O x a) (r2 : Rs O y b) (ha : okD a) (hb : okD b) (h : Q (.d (.bool !(PyData.eqv a b))) O) : fNeD x y O Q := ⟨a, b, r1, r2, ha, hb, h⟩
theorem x_inD {a : PyData} {bs : List PyData} (ha : okD a) (hb : okD (.list bs)) (h : Q (.d (.bool (bs.any fun z => PyData.eqv z a))) O) : fInD (.d a) (.d (.list bs)) O Q := ⟨a, bs, .d, .d, ha, hb, h⟩
theorem x_notInD {a : PyData} {bs : List PyData} (ha : okD a) (hb : okD (.list bs)) (h : Q (.d (.bool !(bs.any fun z => PyData.eqv z a))) O) : fNotInD (.d a) (.d (.list bs)) O Q := ⟨a, bs, .d, .d, ha, hb, h⟩
theorem atI_map {α β : Type} (f : α → β) {l : List α} {i : Int} {x : α} (e : atI l i = some x) : atI (l.map f) i = some (f x) := by
  unfold atI at e ⊢
  rw [List.length_map]
  cases h : ixN l.length i with
  | none => rw [h] at e; cases e
  | some j =>
    rw [h] at e
    show (l.map f)[j]? = some (f x)
    rw [List.getElem?_map, show l[j]? = some x from e]; rfl
theorem ati_nat {α : Type} {l : List α} {j : Nat} {x : α} (e : l[j]? = some x) : atI l (j : Int) = some x := by
  have hj := (List.getElem?_eq_some_iff.mp e).1
  unfold atI ixN
  rw [if_pos (by omega), if_pos (by omega)]
  exact e
theorem ati_last {α : Type} {l : List α} {x : α} (e : l[l.length - 1]? = some x) : atI l (-1) = some x := by
  have hj := (List.getElem?_eq_some_iff.mp e).1
  unfold atI ixN
  rw [if_neg (by omega), if_pos (by omega)]
  show l[((-1 : Int) + l.length).toNat]? = some x
  rw [show ((-1 : Int) + l.length).toNat = l.length - 1 by omega]; exact e
theorem x_ixT {xs : List PyData} {i : Int} {y : PyData} (e : atI xs i = some y) (h : Q (.d y) O) : fIxT (.d (.tuple xs)) (.d (.int i)) O Q := ⟨_, i, _, rfl, rfl, atI_map _ e, h⟩
theorem x_ixL {xs : List PyData} {i : Int} {y : PyData} (e : atI xs i = some y) (h : Q (.d y) O) : fIxL (.d (.list xs)) (.d (.int i)) O Q := ⟨_, i, _, rfl, rfl, atI_map _ e, h⟩
theorem x_ixR {xs : List PyData} {i : Int} {y : PyData} (e : atI xs i = some y) (h : Q (.d y) O) : fIxL (.rl xs) (.d (.int i)) O Q := ⟨_, i, _, rfl, rfl, atI_map _ e, h⟩
theorem lv_o {k : Nat} {ws : List W} (e : O[k]? = some (.lst ws)) : lv O (.o k) = some ws := by show (match O[k]? with | some (.lst ws) => some ws | _ => none) = some ws; rw [e]
theorem lvS_o {k : Nat} {ws : List W} (e : O[k]? = some (.lst ws)) : lvS O (.o k) = some ws := by show (match O[k]? with | some (.lst ws) => some ws | _ => none) = some ws; rw [e]
theorem x_ixO {k : Nat} {ws : List W} {i : Int} {y : W} (e1 : O[k]? = some (.lst ws)) (e : atI ws i = some y) (h : Q y O) : fIxL (.o k) (.d (.int i)) O Q := ⟨_, i, _, lv_o e1, rfl, e, h⟩
theorem cutW_map {α β : Type} (f : α → β) (l : List α) (lo hi : Option Int) : cutW (l.map f) lo hi = (cutW l lo hi).map f := by
  unfold cutW
  rw [List.length_map, ← List.map_drop, ← List.map_take]
theorem x_slT {xs : List PyData} {lo hi : Option Int} (h : Q (.d (.tuple (cutW xs lo hi))) O) : fSlT (.d (.tuple xs)) lo hi O Q := ⟨_, rfl, by rw [cutW_map, mkT_map]; exact h⟩
theorem x_slL {xs : List PyData} {lo hi : Option Int} (h : Q (.d (.list (cutW xs lo hi))) O) : fSlL (.d (.list xs)) lo hi O Q := ⟨_, _, rfl, by rw [cutW_map, allD_map], h⟩
theorem x_slR {xs : List PyData} {lo hi : Option Int} (h : Q (.d (.list (cutW xs lo hi))) O) : fSlL (.rl xs) lo hi O Q := ⟨_, _, rfl, by rw [cutW_map, allD_map], h⟩
theorem x_addT {xs ys : List PyData} (hl : xs.length + ys.length ≤ sizeLine) (h : Q (.d (.tuple (xs ++ ys))) O) : fAddT (.d (.tuple xs)) (.d (.tuple ys)) O Q := ⟨_, _, rfl, rfl, by rw [List.length_map, List.length_map]; exact hl, by rw [← List.map_append, mkT_map]; exact h⟩
theorem x_addL {xs ys : List PyData} (hl : xs.length + ys.length ≤ sizeLine) (h : Q (.d (.list (xs ++ ys))) O) : fAddL (.d (.list xs)) (.d (.list ys)) O Q := ⟨_, _, _, rfl, rfl, by rw [List.length_map, List.length_map]; exact hl, by rw [← List.map_append, allD_map], h⟩
theorem x_repT {xs : List PyData} {n : Nat} (h1 : n ≤ 1000) (h2 : xs.length ≤ 1000) (h : Q (.d (.tuple (List.replicate n xs).flatten)) O) : fRepT (.d (.tuple xs)) (.d (.int n)) O Q := by
  refine ⟨_, _, rfl, rfl, by omega, by omega, by rw [List.length_map]; exact h2, ?_⟩
  rw [show ((n : Int)).toNat = n from rfl, ← List.map_replicate, ← List.map_flatten, mkT_map]; exact h
theorem x_rev {xs : List PyData} (h : Q (.d (.tuple xs.reverse)) O) : fRev (.d (.tuple xs)) O Q := ⟨_, rfl, by rw [← List.map_reverse, mkT_map]; exact h⟩
theorem x_lenT {xs : List PyData} (h : Q (.d (.int xs.length)) O) : fLen [.d (.tuple xs)] O Q := ⟨_, .inl rfl, by rw [List.length_map]; exact h⟩
theorem x_lenL {xs : List PyData} (h : Q (.d (.int xs.length)) O) : fLen [.d (.list xs)] O Q := ⟨_, .inr rfl, by rw [List.length_map]; exact h⟩
theorem x_lenR {xs : List PyData} (h : Q (.d (.int xs.length)) O) : fLen [.rl xs] O Q := ⟨_, .inr rfl, by rw [List.length_map]; exact h⟩
theorem x_lenS {z : Str} (hz : z.length ≤ sizeLine) (h : Q (.d (.int z.length)) O) : fLen [.d (.str z)] O Q := ⟨hz, h⟩
theorem x_lenO {k : Nat} {ws : List W} (e : O[k]? = some (.lst ws)) (h : Q (.d (.int ws.length)) O) : fLen [.o k] O Q := ⟨_, .inr (lv_o e), h⟩
theorem x_int {i : Int} (h : Q (.d (.int i)) O) : fInt [.d (.int i)] O Q := h
theorem x_max {i j : Int} (h : Q (.d (.int (if j > i then j else i))) O) : fMax [.d (.int i), .d (.int j)] O Q := h
theorem x_listT {xs : List PyData} (h : Q (.d (.list xs)) O) : fListL [.d (.tuple xs)] O Q := ⟨_, _, _, rfl, .inl rfl, allD_map xs, h⟩
theorem x_listL {xs : List PyData} (h : Q (.d (.list xs)) O) : fListL [.d (.list xs)] O Q := ⟨_, _, _, rfl, .inr rfl, allD_map xs, h⟩
theorem x_tupL {xs : List PyData} (h : Q (.d (.tuple xs)) O) : fTuple [.d (.list xs)] O Q := ⟨_, _, rfl, .inr rfl, by rw [mkT_map]; exact h⟩
theorem x_tupT {xs : List PyData} (h : Q (.d (.tuple xs)) O) : fTuple [.d (.tuple xs)] O Q := ⟨_, _, rfl, .inl rfl, by rw [mkT_map]; exact h⟩
theorem x_tupO {k : Nat} {xs : List PyData} (e : O[k]? = some (.lst (xs.map .d))) (h : Q (.d (.tuple xs)) O) : fTuple [.o k] O Q := ⟨_, _, rfl, .inr (lv_o e), by rw [mkT_map]; exact h⟩
/-- isinstance: the kind by rfl, the answer by evaluation -/
theorem x_isi {x : PyData} {a b : String} (r : Bool) (ha : tyD x = a) (e : kitB a b = some r) (h : Q (.d (.bool r)) O) : fIsi [.d x, .v (.ty b)] O Q := by
  show (match kitB (tyD x) b with | some r => Q (.d (.bool r)) O | none => False)
  rw [ha, e]; exact h
theorem x_isis {x : PyData} {a : String} {ts : List W} (r : Bool) (ha : tyD x = a) (e : kitAnyB a ts = some r) (h : Q (.d (.bool r)) O) : fIsi [.d x, .tp ts] O Q := by
  show (match kitAnyB (tyD x) ts with | some r => Q (.d (.bool r)) O | none => False)
  rw [ha, e]; exact h
end
theorem k_I_int {O : List Ob} {Q : DQ} {i : Int} (h : Q (.d (.bool true)) O) : fIsi [.d (.int i), .v (.ty "int")] O Q := x_isi (a := "int") true rfl (by decide +kernel) h
theorem k_I_bool {O : List Ob} {Q : DQ} {i : Int} (h : Q (.d (.bool false)) O) : fIsi [.d (.int i), .v (.ty "bool")] O Q := x_isi (a := "int") false rfl (by decide +kernel) h
theorem k_I_str {O : List Ob} {Q : DQ} {i : Int} (h : Q (.d (.bool false)) O) : fIsi [.d (.int i), .v (.ty "str")] O Q := x_isi (a := "int") false rfl (by decide +kernel) h
theorem k_I_list {O : List Ob} {Q : DQ} {i : Int} (h : Q (.d (.bool false)) O) : fIsi [.d (.int i), .v (.ty "list")] O Q := x_isi (a := "int") false rfl (by decide +kernel) h
theorem k_I_tuple {O : List Ob} {Q : DQ} {i : Int} (h : Q (.d (.bool false)) O) : fIsi [.d (.int i), .v (.ty "tuple")] O Q := x_isi (a := "int") false rfl (by decide +kernel) h
theorem k_I_dict {O : List Ob} {Q : DQ} {i : Int} (h : Q (.d (.bool false)) O) : fIsi [.d (.int i), .v (.ty "dict")] O Q := x_isi (a := "int") false rfl (by decide +kernel) h
theorem k_I_lt {O : List Ob} {Q : DQ} {i : Int} (h : Q (.d (.bool false)) O) : fIsi [.d (.int i), .tp [.v (.ty "list"), .v (.ty "tuple")]] O Q := x_isis (a := "int") false rfl (by decide +kernel) h
theorem k_S_int {O : List Ob} {Q : DQ} {i : Str} (h : Q (.d (.bool false)) O) : fIsi [.d (.str i), .v (.ty "int")] O Q := x_isi (a := "str") false rfl (by decide +kernel) h
theorem k_S_bool {O : List Ob} {Q : DQ} {i : Str} (h : Q (.d (.bool false)) O) : fIsi [.d (.str i), .v (.ty "bool")] O Q := x_isi (a := "str") false rfl (by decide +kernel) h
theorem k_S_str {O : List Ob} {Q : DQ} {i : Str} (h : Q (.d (.bool true)) O) : fIsi [.d (.str i), .v (.ty "str")] O Q := x_isi (a := "str") true rfl (by decide +kernel) h
theorem k_S_list {O : List Ob} {Q : DQ} {i : Str} (h : Q (.d (.bool false)) O) : fIsi [.d (.str i), .v (.ty "list")] O Q := x_isi (a := "str") false rfl (by decide +kernel) h
theorem k_S_tuple {O : List Ob} {Q : DQ} {i : Str} (h : Q (.d (.bool false)) O) : fIsi [.d (.str i), .v (.ty "tuple")] O Q := x_isi (a := "str") false rfl (by decide +kernel) h
theorem k_S_dict {O : List Ob} {Q : DQ} {i : Str} (h : Q (.d (.bool false)) O) : fIsi [.d (.str i), .v (.ty "dict")] O Q := x_isi (a := "str") false rfl (by decide +kernel) h
theorem k_S_lt {O : List Ob} {Q : DQ} {i : Str} (h : Q (.d (.bool false)) O) : fIsi [.d (.str i), .tp [.v (.ty "list"), .v (.ty "tuple")]] O Q := x_isis (a := "str") false rfl (by decide +kernel) h
theorem k_B_int {O : List Ob} {Q : DQ} {i : Bool} (h : Q (.d (.bool true)) O) : fIsi [.d (.bool i), .v (.ty "int")] O Q := x_isi (a := "bool") true rfl (by decide +kernel) h
theorem k_B_bool {O : List Ob} {Q : DQ} {i : Bool} (h : Q (.d (.bool true)) O) : fIsi [.d (.bool i), .v (.ty "bool")] O Q := x_isi (a := "bool") true rfl (by decide +kernel) h
theorem k_B_str {O : List Ob} {Q : DQ} {i : Bool} (h : Q (.d (.bool false)) O) : fIsi [.d (.bool i), .v (.ty "str")] O Q := x_isi (a := "bool") false rfl (by decide +kernel) h
theorem k_B_list {O : List Ob} {Q : DQ} {i : Bool} (h : Q (.d (.bool false)) O) : fIsi [.d (.bool i), .v (.ty "list")] O Q := x_isi (a := "bool") false rfl (by decide +kernel) h
theorem k_B_tuple {O : List Ob} {Q : DQ} {i : Bool} (h : Q (.d (.bool false)) O) : fIsi [.d (.bool i), .v (.ty "tuple")] O Q := x_isi (a := "bool") false rfl (by decide +kernel) h
theorem k_B_dict {O : List Ob} {Q : DQ} {i : Bool} (h : Q (.d (.bool false)) O) : fIsi [.d (.bool i), .v (.ty "dict")] O Q := x_isi (a := "bool") false rfl (by decide +kernel) h
theorem k_B_lt {O : List Ob} {Q : DQ} {i : Bool} (h : Q (.d (.bool false)) O) : fIsi [.d (.bool i), .tp [.v (.ty "list"), .v (.ty "tuple")]] O Q := x_isis (a := "bool") false rfl (by decide +kernel) h
theorem k_N_int {O : List Ob} {Q : DQ}  (h : Q (.d (.bool false)) O) : fIsi [.d .none, .v (.ty "int")] O Q := x_isi (a := "NoneType") false rfl (by decide +kernel) h
theorem k_N_bool {O : List Ob} {Q : DQ}  (h : Q (.d (.bool false)) O) : fIsi [.d .none, .v (.ty "bool")] O Q := x_isi (a := "NoneType") false rfl (by decide +kernel) h
theorem k_N_str {O : List Ob} {Q : DQ}  (h : Q (.d (.bool false)) O) : fIsi [.d .none, .v (.ty "str")] O Q := x_isi (a := "NoneType") false rfl (by decide +kernel) h
theorem k_N_list {O : List Ob} {Q : DQ}  (h : Q (.d (.bool false)) O) : fIsi [.d .none, .v (.ty "list")] O Q := x_isi (a := "NoneType") false rfl (by decide +kernel) h
theorem k_N_tuple {O : List Ob} {Q : DQ}  (h : Q (.d (.bool false)) O) : fIsi [.d .none, .v (.ty "tuple")] O Q := x_isi (a := "NoneType") false rfl (by decide +kernel) h
theorem k_N_dict {O : List Ob} {Q : DQ}  (h : Q (.d (.bool false)) O) : fIsi [.d .none, .v (.ty "dict")] O Q := x_isi (a := "NoneType") false rfl (by decide +kernel) h
theorem k_N_lt {O : List Ob} {Q : DQ}  (h : Q (.d (.bool false)) O) : fIsi [.d .none, .tp [.v (.ty "list"), .v (.ty "tuple")]] O Q := x_isis (a := "NoneType") false rfl (by decide +kernel) h
theorem k_T_int {O : List Ob} {Q : DQ} {i : List PyData} (h : Q (.d (.bool false)) O) : fIsi [.d (.tuple i), .v (.ty "int")] O Q := x_isi (a := "tuple") false rfl (by decide +kernel) h
theorem k_T_bool {O : List Ob} {Q : DQ} {i : List PyData} (h : Q (.d (.bool false)) O) : fIsi [.d (.tuple i), .v (.ty "bool")] O Q := x_isi (a := "tuple") false rfl (by decide +kernel) h
theorem k_T_str {O : List Ob} {Q : DQ} {i : List PyData} (h : Q (.d (.bool false)) O) : fIsi [.d (.tuple i), .v (.ty "str")] O Q := x_isi (a := "tuple") false rfl (by decide +kernel) h
theorem k_T_list {O : List Ob} {Q : DQ} {i : List PyData} (h : Q (.d (.bool false)) O) : fIsi [.d (.tuple i), .v (.ty "list")] O Q := x_isi (a := "tuple") false rfl (by decide +kernel) h
theorem k_T_tuple {O : List Ob} {Q : DQ} {i : List PyData} (h : Q (.d (.bool true)) O) : fIsi [.d (.tuple i), .v (.ty "tuple")] O Q := x_isi (a := "tuple") true rfl (by decide +kernel) h
theorem k_T_dict {O : List Ob} {Q : DQ} {i : List PyData} (h : Q (.d (.bool false)) O) : fIsi [.d (.tuple i), .v (.ty "dict")] O Q := x_isi (a := "tuple") false rfl (by decide +kernel) h
theorem k_T_lt {O : List Ob} {Q : DQ} {i : List PyData} (h : Q (.d (.bool true)) O) : fIsi [.d (.tuple i), .tp [.v (.ty "list"), .v (.ty "tuple")]] O Q := x_isis (a := "tuple") true rfl (by decide +kernel) h
theorem k_L_int {O : List Ob} {Q : DQ} {i : List PyData} (h : Q (.d (.bool false)) O) : fIsi [.d (.list i), .v (.ty "int")] O Q := x_isi (a := "list") false rfl (by decide +kernel) h
theorem k_L_bool {O : List Ob} {Q : DQ} {i : List PyData} (h : Q (.d (.bool false)) O) : fIsi [.d (.list i), .v (.ty "bool")] O Q := x_isi (a := "list") false rfl (by decide +kernel) h
theorem k_L_str {O : List Ob} {Q : DQ} {i : List PyData} (h : Q (.d (.bool false)) O) : fIsi [.d (.list i), .v (.ty "str")] O Q := x_isi (a := "list") false rfl (by decide +kernel) h
theorem k_L_list {O : List Ob} {Q : DQ} {i : List PyData} (h : Q (.d (.bool true)) O) : fIsi [.d (.list i), .v (.ty "list")] O Q := x_isi (a := "list") true rfl (by decide +kernel) h
theorem k_L_tuple {O : List Ob} {Q : DQ} {i : List PyData} (h : Q (.d (.bool false)) O) : fIsi [.d (.list i), .v (.ty "tuple")] O Q := x_isi (a := "list") false rfl (by decide +kernel) h
theorem k_L_dict {O : List Ob} {Q : DQ} {i : List PyData} (h : Q (.d (.bool false)) O) : fIsi [.d (.list i), .v (.ty "dict")] O Q := x_isi (a := "list") false rfl (by decide +kernel) h
theorem k_L_lt {O : List Ob} {Q : DQ} {i : List PyData} (h : Q (.d (.bool true)) O) : fIsi [.d (.list i), .tp [.v (.ty "list"), .v (.ty "tuple")]] O Q := x_isis (a := "list") true rfl (by decide +kernel) h
theorem k_D_int {O : List Ob} {Q : DQ} {i : List (PyData × PyData)} (h : Q (.d (.bool false)) O) : fIsi [.d (.dict i), .v (.ty "int")] O Q := x_isi (a := "dict") false rfl (by decide +kernel) h
theorem k_D_bool {O : List Ob} {Q : DQ} {i : List (PyData × PyData)} (h : Q (.d (.bool false)) O) : fIsi [.d (.dict i), .v (.ty "bool")] O Q := x_isi (a := "dict") false rfl (by decide +kernel) h
theorem k_D_str {O : List Ob} {Q : DQ} {i : List (PyData × PyData)} (h : Q (.d (.bool false)) O) : fIsi [.d (.dict i), .v (.ty "str")] O Q := x_isi (a := "dict") false rfl (by decide +kernel) h
theorem k_D_list {O : List Ob} {Q : DQ} {i : List (PyData × PyData)} (h : Q (.d (.bool false)) O) : fIsi [.d (.dict i), .v (.ty "list")] O Q := x_isi (a := "dict") false rfl (by decide +kernel) h
theorem k_D_tuple {O : List Ob} {Q : DQ} {i : List (PyData × PyData)} (h : Q (.d (.bool false)) O) : fIsi [.d (.dict i), .v (.ty "tuple")] O Q := x_isi (a := "dict") false rfl (by decide +kernel) h
theorem k_D_dict {O : List Ob} {Q : DQ} {i : List (PyData × PyData)} (h : Q (.d (.bool true)) O) : fIsi [.d (.dict i), .v (.ty "dict")] O Q := x_isi (a := "dict") true rfl (by decide +kernel) h
theorem k_D_lt {O : List Ob} {Q : DQ} {i : List (PyData × PyData)} (h : Q (.d (.bool false)) O) : fIsi [.d (.dict i), .tp [.v (.ty "list"), .v (.ty "tuple")]] O Q := x_isis (a := "dict") false rfl (by decide +kernel) h
section
variable {O : List Ob} {Q : DQ}
/-- a tuple of data; a list of data; a tuple of other things -/
theorem x_mkT {ws : List W} {xs : List PyData} (e : allD ws = some xs) (hl : ws.length ≤ sizeLine) (h : Q (.d (.tuple xs)) O) : kTp ws O Q := ⟨hl, by unfold mkT; rw [e]; exact h⟩
theorem x_mkN {ws : List W} (e : allD ws = none) (hl : ws.length ≤ sizeLine) (h : Q (.tp ws) O) : kTp ws O Q := ⟨hl, by unfold mkT; rw [e]; exact h⟩
theorem x_mkL {ws : List W} {xs : List PyData} (e : allD ws = some xs) (hl : ws.length ≤ sizeLine) (h : Q (.d (.list xs)) O) : kLs ws O Q := ⟨hl, by rw [e]; exact h⟩
theorem x_alld {ws : List W} {xs : List PyData} (e : allD ws = some xs) (h : Q (.d (.list xs)) O) : kLc ws O Q := by unfold kLc; rw [e]; exact h
/-! ### equality of typed things -/
section
variable {α : Type} [DecidableEq α] [Datum α]
theorem x_eqTy {a b : α} (hd : Datum.depth α ≤ 50 := by decide) (h : Q (.d (.bool (decide (a = b)))) O) : fEqD (wD a) (wD b) O Q := x_eqD (okD_datum a hd) (okD_datum b hd) (by rw [Datum.eqv]; exact h)
theorem x_neTy {a b : α} (hd : Datum.depth α ≤ 50 := by decide) (h : Q (.d (.bool (!decide (a = b)))) O) : fNeD (wD a) (wD b) O Q := x_neD (okD_datum a hd) (okD_datum b hd) (by rw [Datum.eqv]; exact h)
theorem x_eqTs {a b : List α} (hd : Datum.depth α ≤ 49 := by decide) (h : Q (.d (.bool (decide (a = b)))) O) : fEqD (.d (tD a)) (.d (tD b)) O Q := x_eqD (okD_t a hd) (okD_t b hd) (by rw [eqv_t]; exact h)
theorem x_neTs {a b : List α} (hd : Datum.depth α ≤ 49 := by decide) (h : Q (.d (.bool (!decide (a = b)))) O) : fNeD (.d (tD a)) (.d (tD b)) O Q := x_neD (okD_t a hd) (okD_t b hd) (by rw [eqv_t]; exact h)
theorem x_eqLs {a b : List α} (hd : Datum.depth α ≤ 49 := by decide) (h : Q (.d (.bool (decide (a = b)))) O) : fEqD (.d (lD a)) (.d (lD b)) O Q := x_eqD (okD_l a hd) (okD_l b hd) (by rw [eqv_l]; exact h)
theorem x_neLs {a b : List α} (hd : Datum.depth α ≤ 49 := by decide) (h : Q (.d (.bool (!decide (a = b)))) O) : fNeD (.d (lD a)) (.d (lD b)) O Q := x_neD (okD_l a hd) (okD_l b hd) (by rw [eqv_l]; exact h)
theorem x_neNil {k : Nat} {l : List α} (e : O[k]? = some (oL l)) (hd : Datum.depth α ≤ 49 := by decide) (h : Q (.d (.bool (!decide (l = [])))) O) : fNeD (.o k) (.d (.list [])) O Q :=
  x_neW (.o e (rsL_o l)) .d (okD_l l hd) (okD_l ([] : List α) hd) (by have := eqv_l l []; rw [show lD ([] : List α) = .list [] from rfl] at this; rw [this]; exact h)
end
theorem x_tupOt {α : Type} [DecidableEq α] [Datum α] {k : Nat} {l : List α} (e : O[k]? = some (oL l)) (h : Q (.d (tD l)) O) : fTuple [.o k] O Q := x_tupO (xs := l.map Datum.toD) (by rw [e, map_dd]) h
section
variable {α : Type} [DecidableEq α] [Datum α] {a b : List α} {lo hi : Option Int}
theorem x_slTt (h : Q (.d (tD (cutW a lo hi))) O) : fSlT (.d (.tuple (a.map Datum.toD))) lo hi O Q := x_slT (by rw [cutW_map]; exact h)
theorem x_slLt (h : Q (.d (lD (cutW a lo hi))) O) : fSlL (.d (.list (a.map Datum.toD))) lo hi O Q := x_slL (by rw [cutW_map]; exact h)
theorem x_lenTt (h : Q (.d (.int a.length)) O) : fLen [.d (.tuple (a.map Datum.toD))] O Q := x_lenT (by rw [List.length_map]; exact h)
theorem x_lenLt (h : Q (.d (.int a.length)) O) : fLen [.d (.list (a.map Datum.toD))] O Q := x_lenL (by rw [List.length_map]; exact h)
theorem x_revt (h : Q (.d (tD a.reverse)) O) : fRev (.d (.tuple (a.map Datum.toD))) O Q := x_rev (by rw [← List.map_reverse]; exact h)
theorem x_addTt (hl : a.length + b.length ≤ sizeLine) (h : Q (.d (tD (a ++ b))) O) : fAddT (.d (.tuple (a.map Datum.toD))) (.d (.tuple (b.map Datum.toD))) O Q := x_addT (by rw [List.length_map, List.length_map]; exact hl) (by rw [← List.map_append]; exact h)
theorem x_addLt (hl : a.length + b.length ≤ sizeLine) (h : Q (.d (lD (a ++ b))) O) : fAddL (.d (.list (a.map Datum.toD))) (.d (.list (b.map Datum.toD))) O Q := x_addL (by rw [List.length_map, List.length_map]; exact hl) (by rw [← List.map_append]; exact h)
theorem x_repTt {n : Nat} (h1 : n ≤ 1000) (h2 : a.length ≤ 1000) (h : Q (.d (tD (List.replicate n a).flatten)) O) : fRepT (.d (.tuple (a.map Datum.toD))) (.d (.int n)) O Q := x_repT h1 (by rw [List.length_map]; exact h2) (by
  rw [← List.map_replicate, ← List.map_flatten]; exact h)
theorem x_ixTt {i : Int} {x : α} (e : atI a i = some x) (h : Q (wD x) O) : fIxT (.d (.tuple (a.map Datum.toD))) (.d (.int i)) O Q := x_ixT (atI_map _ e) h
theorem x_ixLt {i : Int} {x : α} (e : atI a i = some x) (h : Q (wD x) O) : fIxL (.d (.list (a.map Datum.toD))) (.d (.int i)) O Q := x_ixL (atI_map _ e) h
theorem x_alldt {ws : List W} (e : ws = a.map fun x => .d (Datum.toD x)) (h : Q (.d (lD a)) O) : kLc ws O Q := x_alld (by rw [e, allD_o]) h
end
/-- the bounds of a slice -/
theorem cut_to {α : Type} {l : List α} {k : Nat} : cutW l none (some (k : Int)) = l.take k := by
  unfold cutW
  rw [HT.sIx_none, HT.sIx_nat, List.drop_zero, Nat.sub_zero]
  by_cases h : k ≤ l.length
  · rw [Nat.min_eq_left h]
  · rw [Nat.min_eq_right (by omega), List.take_length, List.take_of_length_le (by omega)]
theorem cut_from {α : Type} {l : List α} {k : Nat} : cutW l (some (k : Int)) none = l.drop k := by
  unfold cutW
  rw [HT.sIx_none, HT.sIx_nat]
  by_cases h : k ≤ l.length
  · rw [Nat.min_eq_left h, List.take_of_length_le (by rw [List.length_drop]; omega)]
  · rw [Nat.min_eq_right (by omega), Nat.sub_self, List.take_zero, List.drop_of_length_le (by omega)]
theorem cut_mid {α : Type} {l : List α} {j k : Nat} (h : k ≤ l.length) : cutW l (some (j : Int)) (some (k : Int)) = (l.drop j).take (k - j) := by
  unfold cutW
  rw [HT.sIx_nat, HT.sIx_nat, Nat.min_eq_left h]
  by_cases hj : j ≤ l.length
  · rw [Nat.min_eq_left hj]
  · rw [Nat.min_eq_right (by omega), show k - l.length = 0 by omega, show k - j = 0 by omega, List.take_zero, List.take_zero]
theorem x_wlkT {xs : List PyData} {R : List W → (List Ob → Prop) → Prop} (h : R (xs.map .d) tt0) : wlk (.d (.tuple xs)) O R := ⟨_, rfl, h⟩
theorem x_wlkL {xs : List PyData} {R : List W → (List Ob → Prop) → Prop} (h : R (xs.map .d) tt0) : wlk (.d (.list xs)) O R := h
/-! ### leaving -/
theorem x_fin {w : W} {O1 : List Ob} (h : Q w O1) : Fin O Q w O1 := .inl h
theorem x_finT {x : PyData} {X : List Ob} (h : Q (.d x) O) : Fin O Q (.d x) (O ++ X) := .inr ⟨x, .d, .app O X, by rw [List.take_left']; exact h; rfl⟩
theorem x_finN {E : DX} {Γ : Gm} (h : Q (.d .none) O) : (endsD O Q E).nx Γ O := .inl h
theorem x_fret {E : DX} {w : W} {O1 : List Ob} (h : Fin O Q w O1) : (endsD O Q E).rt w O1 := h
/-! ### own things -/
theorem get_app {X : Ob} : (O ++ [X])[O.length]? = some X := by rw [List.getElem?_append_right (Nat.le_refl _), Nat.sub_self]; rfl
theorem set_app {X Y : Ob} : (O ++ [X]).set O.length Y = O ++ [Y] := by rw [List.set_append_right _ _ (Nat.le_refl _), Nat.sub_self]; rfl
end
end UZ
/-! UZ, part S: own exception classes whose initialiser hands a text on to the class above and keeps fields. -/
namespace UZ
open PySem PySem.Spec PyProof.Rows L2 PySem.W

/-- the context of a method that names its own class -/
def cxS (CX : CXT) (P : Program) (w : World) (K : PySem.W.Frag) (mg : Str → Option Value) (base : Heap) (N : List Str) (qual : Str) (scope : Scope) (f : Addr) (cd : Value) (cc : Addr) (A : Around) (outer : List Env) (s : Shared) (H : Hp) (E : XK) : Cx where
  prog := P
  w := w
  K := K
  mg := mg
  base := base
  A := A.deeper (ksEnv qual scope s.heap.objs.size f cd cc)
  N := N
  s_0 := s
  H_0 := H
  env := ksEnv qual scope s.heap.objs.size f cd cc
  outer := outer
  stack := ksEnv qual scope s.heap.objs.size f cd cc :: outer
  ex := []
  calm := true
  fn := fun x => x != ("__class__" : Str)
  pn := []
  xe := fun e s' => wpAny (model P w) (A.deeper (ksEnv qual scope s.heap.objs.size f cd cc)) (leaving (ksEnv qual scope s.heap.objs.size f cd cc) e) (fun _ s'' => CX outer H s E e s'') (fun e' s'' => CX outer H s E e' s'') s'
theorem look_rev {y : Str} {u : Value} : ∀ {l : List (Str × Value)}, (l.map (·.1)).Nodup → (y, u) ∈ l → l.reverse.lookup y = some u := by
  intro l hn hm
  have hr : (l.reverse.map (·.1)).Nodup := by rw [List.map_reverse]; exact List.pairwise_reverse.mpr (List.Pairwise.imp (fun h => Ne.symm h) hn)
  have main : ∀ {l : List (Str × Value)}, (l.map (·.1)).Nodup → (y, u) ∈ l → l.lookup y = some u := by
    intro l
    induction l with
    | nil => intro _ h; cases h
    | cons p l ih =>
      intro h1 h2
      obtain ⟨k, v⟩ := p
      rw [List.lookup_cons]
      rcases List.mem_cons.mp h2 with e | h3
      · cases e; simp
      · have nk : k ∉ l.map (·.1) := (List.nodup_cons.mp h1).1
        have hk : (y == k) = false := by
          cases hb : (y == k) with
          | false => rfl
          | true =>
            rw [← eq_of_beq hb] at nk
            exact absurd (List.mem_map.mpr ⟨(y, u), h3, rfl⟩) nk
        rw [hk]
        exact ih (List.nodup_cons.mp h1).2 h3
  exact main hr (List.mem_reverse.mpr hm)
structure SupScope (N ps : List Str) (sc : Scope) : Prop where
  kind : sc.kind = .function
  co : sc.isCoroutine = false
  gen : sc.isGenerator = false
  nd : N.Nodup
  pre : N = ps
  par : ∀ x ∈ ps, sc.names.lookup x = some .local
  nocell : ∀ x ∈ sc.names, x.2 ≠ .cell
  free : ∀ x ∈ sc.names, x.2 = .free → x.1 = ("__class__" : Str)
  cls : sc.names.lookup ("__class__" : Str) = some .free
  sup : sc.names.lookup ("super" : Str) = some .globalImplicit
theorem inv_sup {CX : CXT} {P : Program} {w : World} {K : PySem.W.Frag} {mg : Str → Option Value} {base : Heap} {N ps : List Str} {qual : Str} {scope : Scope} {f cc : Addr} {cd : Value} {A : Around} {outer : List Env} {s : Shared} {H : Hp} {E : XK} {us : List Value} {vs : List V} {oc : Value} {od : Option Addr} {sl : Array (Option Value)} {D : Value}
    (S : SupScope N ps scope) (hd : A.handled = none) (e0 : Env0 P w K mg base A outer s H) (hl : vs.length = ps.length) (r : Vals vs us) (hcc : K.lookup cc = some ⟨oc, od, .cell (some D), sl⟩) {h₁ : Heap} {tk : Nat}
    (hns : h₁.Ns s.heap.objs.size (fun x => (ps.zip us).reverse.lookup x)) (hk : ∀ b o, s.heap.get? b = some o → h₁.get? b = some o) :
    Inv (cxS CX P w K mg base N qual scope f cd cc A outer s H E) [] (vs.map some) H { s with heap := h₁, toks := tk } := by
  have hb : base.get? cc = some ⟨oc, od, .cell (some D), sl⟩ := e0.mod.kin _ _ hcc
  have look1 : ∀ y c, (cxS CX P w K mg base N qual scope f cd cc A outer s H E).env.cells.lookup y = some c → y = ("__class__" : Str) ∧ c = cc := fun y c e => by
    have e : ([(("__class__" : Str), cc)] : List (Str × Addr)).lookup y = some c := e
    rw [List.lookup_cons] at e
    cases hb : (y == ("__class__" : Str)) with
    | true => rw [hb] at e; cases e; exact ⟨eq_of_beq hb, rfl⟩
    | false => rw [hb] at e; cases e
  have noA : ∀ b : Addr, b ∉ (cxS CX P w K mg base N qual scope f cd cc A outer s H E).ex := fun b z => absurd (show b ∈ ([] : List Addr) from z) (by simp)
  refine ⟨⟨e0.mod, S.kind, rfl, rfl, Nat.le_refl _, fun y z c h1 h2 => ?_, fun y hy => ?_, fun y c h1 h => ?_, fun _ => hd, Around.frames_deeper e0.frames, .inr ⟨rfl, rfl⟩, fun b z => absurd z (noA b), e0.bs, e0.bsz, fun b _ _ => noA b, fun b z => absurd z (noA b), e0.funs, e0.frf⟩,
    rfl, e0.bare, Un.kept hk, ⟨_, hns, fun i y v h1 h2 h3 => ?_⟩, fun y c h => ?_, e0.hok.fresh (Nat.le_refl _), fun y c h => ?_, fun p hp => absurd (show p ∈ ([] : List (Addr × Obj)) from hp) (by simp), e0.hok.kept hk, ?_⟩
  · rw [(look1 y c h1).1, (look1 z c h2).1]
  · have hy : scope.names.lookup y = some .cell ∨ scope.names.lookup y = some .free := hy
    rcases hy with hy | hy
    · exact absurd rfl (S.nocell _ (PySem.mem_of_lookup hy))
    · have := S.free _ (PySem.mem_of_lookup hy) rfl
      have this : y = ("__class__" : Str) := this
      subst this
      exact ⟨cc, rfl⟩
  · have := (look1 y c h).1
    subst this
    exact absurd (show (("__class__" : Str) != ("__class__" : Str)) = true from h1) (by decide)
  · have h2 : (vs.map some)[i]? = some (some v) := h2
    rw [List.getElem?_map] at h2
    obtain ⟨v', e1, e2⟩ := Option.map_eq_some_iff.mp h2
    cases e2
    obtain ⟨u, hu, rv⟩ := r.get e1
    have hp : ps[i]? = some y := by rw [← S.pre]; exact h1
    have nd : ((ps.zip us).map (·.1)).Nodup := by
      have : (ps.zip us).map (·.1) = ps := by
        rw [List.map_fst_zip]
        have := r.length
        omega
      rw [this, ← S.pre]; exact S.nd
    refine ⟨u, rv, .inl ⟨S.par y (List.mem_of_getElem? hp), look_rev nd ?_⟩⟩
    refine List.mem_of_getElem? (i := i) ?_
    rw [List.getElem?_zip_eq_some]
    exact ⟨hp, hu⟩
  · obtain ⟨_, rfl⟩ := look1 y c h
    exact ⟨_, _, hk _ _ (e0.bs _ _ hb).1, rfl⟩
  · obtain ⟨_, rfl⟩ := look1 y c h
    exact (e0.bs _ _ hb).2
  · rw [List.length_map, hl, show (cxS CX P w K mg base N qual scope f cd cc A outer s H E).N = N from rfl, S.pre]

/-- what an own exception class whose initialiser hands on must have -/
structure SupC (P : Program) (K : PySem.W.Frag) (C f cc : Addr) (cd : Value) : Prop where
  T : OexC K C
  code : ∃ (a : Addr) (oc : Value) (od : Option Addr) (vs : Array Value) (sl : Array (Option Value)) (file : Str) (tf : Tok), cd = .ref a ∧ K.lookup a = some ⟨oc, od, .fields vs, sl⟩ ∧ vs[2]? = some (.str file tf) ∧ ((P.main.file : Str) == file) = true
  cell : ∃ (oc : Value) (od : Option Addr) (sl : Array (Option Value)), K.lookup cc = some ⟨oc, od, .cell (some (.ref C)), sl⟩
  sub : mroIn K C (.ref C) = some true
  any : nsIn K cStatics "thirdparty.any" = some none
  sup : ks_superIn K C C "__init__" = some (some (.builtin "ValueError.__init__"))
  ve : subIn K (.ref C) (.type "ValueError") = some true
  nosup : nsIn K mainGlobals "super" = some none
  top : (P.main.scope.names.lookup ("super" : Str)).isSome = false
theorem call_mw {X : Cx} {pins : List (Addr × Obj)} {σ : L2.St} {H : Hp} {s : Shared} {a C u : Addr} {us : List Value} {Q : Value → Shared → Prop} {E : Value → Shared → Prop} {A : Around} (T : OexC X.K C) (I : Inv X pins σ H s) (e : H a = some (exo a C none)) (hu : s.heap.get? u = some (kxs_mw "ValueError.__init__" a)) (hl : us.length ≤ sizeLine)
    (h : ∀ s', Inv X pins σ H s' → Q .none s') : wpAny (model X.prog X.w) A (call (.ref u) us) Q E s := by
  obtain ⟨nm, q, N, bs, bm, sn, sub, ab, col, dd, k0, k1, k2, k3, k5, hC, hbm⟩ := T.cls
  obtain ⟨t1, ho⟩ := exo_at I.hok e
  have hC' := I.kIn _ _ hC
  obtain ⟨hp, g, d, t, os⟩ := s
  refine wpAny_call (codeAny_of_tree ?_)
  show wpAny _ A.in1 (callAny (.ref u) ⟨us, []⟩) _ _ _
  simp only [callAny]
  refine wpAny_bind (wpAny_load hu ?_)
  simp only [kxs_mw, show (Value.type "method-wrapper" == Value.type "method" || Value.type "method-wrapper" == Value.type "builtin_function_or_method" || Value.type "method-wrapper" == Value.type "method-wrapper") = true by decide, if_true]
  refine KFB.if_so (by decide) ?_
  refine wpAny_bind (check_bound_init F.excBase_ValueError.toExcCallFacts hC' ho rfl ?_)
  refine wpAny_bind (wpAny_pure (wpAny_pure ?_))
  refine ⟨plainId_quiet F.excBase_ValueError.init.plain _, codeAny_builtin F.excBase_ValueError.initEntry ?_⟩
  refine exc_init_tree (cls := .ref C) (t0 := t1) (dv := none) (c2 := .none) (c3 := .none) (b4 := .bool false) ho hl (fun h' k e' t' => ?_)
  have J := I.write (t' := t) (x := a) (e := a) (o := exo a C none) (by rw [e]; exact True.intro) (.inl rfl) k ⟨_, e'⟩ (exo_ok e')
  have eu : upd H a (exo a C none) = H := by
    funext b
    by_cases hb : b = a
    · rw [hb, upd_same, e]
    · rw [upd_ne hb]
  rw [eu] at J
  exact h _ J

/-- THE RULE for an initialiser that hands on first -/
theorem fn_sup {CX : CXT} {P : Program} {w : World} {K : PySem.W.Frag} {mg : Str → Option Value} {base : Heap} {k : Nat} {C f cc : Addr} {name qual : Str} {params : Arguments} {rest : List Stmt} {scope : Scope} {dV kV doc pm cdv ct oc : Value} {an od : Option Addr}
    {osl : Array (Option Value)} {N ps : List Str} {sp : Sp} {p0 p1 apos cpos epos : Pos} {e : Expr} {ar : Arg}
    (SC : SupC P K C f cc cdv) (lk : K.lookup f = some ⟨oc, od, .func (ksFn name qual params (.Expr (.Call (.Attribute (.Call (.Name "super" p0) [] [] p1) "__init__" apos) [e] [] cpos) epos :: rest) scope dV kV doc pm an cdv ct cc), osl⟩) (hcd : codeIn K cdv qual = true)
    (S : SupScope N ps scope) (hp : (params.posonlyargs ++ params.args).head? = some ar) (hself : N[0]? = some ar.arg)
    (len : ∀ vs H Q E, sp vs H Q E → vs.length = ps.length)
    (hpl : ∀ (pos : Pos) (env : Env), (backTo pos (starEach [] env)).any (·.1) = false := by exact fun _ _ => rfl)
    (hbody : ∀ (A : Around) (outer : List Env) (s : Shared) (H : Hp) (vs : List V) (Q : VK) (E : XK), sp vs H Q E →
      ∃ ta ts, PA (cxS CX P w K mg base N qual scope f cdv cc A outer s H E) [e] ta ∧ PSs (cxS CX P w K mg base N qual scope f cdv cc A outer s H E) rest ts ∧
        ∃ a, vs[0]? = some (.ref a) ∧ H a = some (exo a C none) ∧ ta (vs.map some) H fun ws H1 => ws.length ≤ 1000 ∧ H1 = H ∧ ts { nx := fun _ H' => Q .non H', rt := Q } (vs.map some) H)
    {pl : Addr → Sem Bool} (hev : ∀ L : Addr, eval (.Call (.Attribute (.Call (.Name "super" p0) [] [] p1) "__init__" apos) [e] [] cpos) (ksEnv qual scope L f cdv cc) = (do
      let ov ← attributeBase (.Call (.Name "super" p0) [] [] p1) "__init__" (ksEnv qual scope L f cdv cc) (eval (.Call (.Name "super" p0) [] [] p1) (ksEnv qual scope L f cdv cc))
      standAt apos.atName
      let (g, first) ← holding [ov] (getMethod ov "__init__" (pl L))
      callWith cpos g first (backTo cpos (starEach [e] (ksEnv qual scope L f cdv cc))) []))
    (hsw : ∀ L : Addr, swapsWith (.Call (.Attribute (.Call (.Name "super" p0) [] [] p1) "__init__" apos) [e] [] cpos) none epos.line (ksEnv qual scope L f cdv cc) = pure false)
    (hint : ∀ L : Addr, interactive (ksEnv qual scope L f cdv cc) = false)
    (he : ∀ env : Env, starEach [e] env = (false, eval e env) :: starEach [] env := by exact fun _ => rfl) :
    FnOk P w K mg base CX (k + 1) f (ksFn name qual params (.Expr (.Call (.Attribute (.Call (.Name "super" p0) [] [] p1) "__init__" apos) [e] [] cpos) epos :: rest) scope dV kV doc pm an cdv ct cc) ps sp := by
  refine ⟨len, fun A outer s H args us vs Q E hr e0 hb r hsp => ?_⟩
  have hl := len _ _ _ _ hsp
  have KX : K.In s.heap := e0.mod.kin.keeps fun b o e => (e0.bs b o e).1
  have lim : s.heap.NoLimit := e0.mod.nolimit.keeps fun b o e => (e0.bs b o e).1
  have hloc : ∀ y ∈ ps.zip us, scope.names.lookup y.1 = some .local := fun ⟨n, v⟩ hy => S.par n (List.of_mem_zip hy).1
  obtain ⟨ta, ts, ha, hts, a, hv0, ea, q⟩ := hbody A outer s H vs Q E hsp
  obtain ⟨cl, cld, csl, hcc⟩ := SC.cell
  refine ks_codeAny_call_defAt (fd := ksFn name qual params _ scope dV kV doc pm an cdv ct cc) (binds := ps.zip us) hr.depth (KX _ _ lk) rfl lim (codeRec_of KX hcd) rfl hb S.nocell hloc (fun h₁ hns hk => ?_) S.co S.gen S.kind
  have I : Inv (cxS CX P w K mg base N qual scope f cdv cc A outer s H E) [] (vs.map some) H { s with heap := h₁, toks := s.toks + (ps.zip us).length } := inv_sup S hr.hd e0 hl r hcc hns hk
  refine ks_wpAt_execs_cons (ks_wpAt_Expr_any (ks_wpAt_MethodCall (pl := pl s.heap.objs.size) ?_ (hev _)) (hint _) (hsw _))
  obtain ⟨ca, coc, cod, cvs, csl2, file, tf, rfl, hcode, hvs, hfile⟩ := SC.code
  have hex : ∀ {a b : Addr}, True := fun {_ _} => trivial
  have KX1 : K.In h₁ := fun b o e => hk b o (KX b o e)
  obtain ⟨nm, q2, N2, bs, bm, sn, sub, ab, col, dd, k0, k1, k2, k3, k5, hC, hbm⟩ := SC.T.cls
  have hcl : clsIn K C = some { name := nm, bases := bs, mro := .ref C :: bm, ns := N2, qualname := q2, hasDict := true, slotNames := sn, subclasses := sub, abstract := ab, collection := col, hasDel := false } := by unfold clsIn; rw [hC] <;> rfl
  obtain ⟨t1, hx⟩ := exo_at I.hok ea
  obtain ⟨u0, hu0, ru0⟩ := r.get hv0
  obtain rfl : u0 = Value.ref a := ru0
  have hself2 : ps[0]? = some ar.arg := by rw [← S.pre]; exact hself
  refine ks_wpAt_super_base (env := ksEnv qual scope s.heap.objs.size f (.ref ca) cc) S.sup S.cls (by decide) rfl (KX1 _ _ lk) rfl hp rfl (KX1 _ _ hcode) rfl hvs hfile SC.top ?_
  obtain ⟨mb, hb1, hb2⟩ := e0.mod.blt
  have kb : ∀ b o, base.get? b = some o → h₁.get? b = some o := fun b o e => hk b o (e0.bs b o e).1
  refine ks_loadName_global S.kind S.sup (Calls.loadGlobal_builtin (env := ksEnv qual scope s.heap.objs.size f (.ref ca) cc) (e0.mod.glob.keeps kb) (mg_none_of e0.mod.kin e0.mod.glob SC.nosup) (hb1.keeps kb) ((hb2 _ (by decide)).trans PyProof.Rows.Boot.«super») ⟨rfl, ?_⟩)
  refine wpAny_loadName_free S.kind S.cls rfl ⟨_, KX1 _ _ hcc, rfl⟩ ?_
  have nd : ((ps.zip us).map (·.1)).Nodup := by
    have : (ps.zip us).map (·.1) = ps := by
      rw [List.map_fst_zip]
      have := r.length
      omega
    rw [this, ← S.pre]; exact S.nd
  have hv : (ps.zip us).reverse.lookup ar.arg = some (.ref a) := look_rev nd (List.mem_of_getElem? (i := 0) (List.getElem?_zip_eq_some.mpr ⟨hself2, hu0⟩))
  refine wpAny_loadName_local S.kind (S.par _ (List.mem_of_getElem? hself2)) hns hv ?_
  have hD1 := KX1 _ _ hC
  refine ks_wpAny_isType_cls hD1 rfl ⟨rfl, ?_⟩
  refine ks_wpAny_call_super hD1 rfl hx rfl (fun c z => by cases z) (looks_mroIn KX1 SC.sub) (fun h2 hso k2 => ?_)
  have I2 : Inv (cxS CX P w K mg base N qual scope f (.ref ca) cc A outer s H E) [] (vs.map some) H { s with heap := h2, toks := s.toks + (ps.zip us).length } := I.kept k2
  have KX2 : K.In h2 := fun b o e => k2 b o (KX1 b o e)
  have hx2 := k2 _ _ hx
  have hI : Looks (model P w) h2 (isInstance (.ref a) (.type "ValueError")) true := by
    have Ia : InstAt h2 a _ C none := ⟨hx2, rfl, rfl, trivial⟩
    exact Ia.type.andThen (looks_subIn KX2 SC.ve)
  have hal : alongIn K "__init__" (((Value.ref C :: bm).dropWhile (· != .ref C)).drop 1) = some (some (.builtin "ValueError.__init__")) := by
    have := SC.sup
    unfold ks_superIn at this
    rw [hcl] at this
    exact this
  have hmro : Looks (model P w) h2 (mroOf (.ref C)) (.ref C :: bm) := fun A Q E s k q => wpAny_bind ((looks_clsIn KX2 hcl) A _ E s k (wpAny_pure q))
  have hne : a ≠ C := fun z => by
    rw [z] at hx2
    have := KX2 _ _ hC
    rw [hx2] at this
    cases this
  refine kxs_getMethod kxs_ValueError hso (looks_opaque KX2 SC.any) hmro rfl KX2 hal hI hne (by decide) ?_
  have hu : (h2.push (kxs_mw "ValueError.__init__" a)).get? h2.objs.size = some (kxs_mw "ValueError.__init__" a) := Heap.get?_push_at rfl rfl
  have I3 : Inv (cxS CX P w K mg base N qual scope f (.ref ca) cc A outer s H E) [] (vs.map some) H { s with heap := h2.push (kxs_mw "ValueError.__init__" a), toks := s.toks + (ps.zip us).length + 1 } := I2.kept fun b o e => Heap.get?_push_of_some _ e
  have I4 : Inv (cxS CX P w K mg base N qual scope f (.ref ca) cc A outer s H E) [(h2.objs.size, kxs_mw "ValueError.__init__" a)] (vs.map some) H { s with heap := h2.push (kxs_mw "ValueError.__init__" a), toks := s.toks + (ps.zip us).length + 1 } := by
    refine I3.pins_of fun p hp => ?_
    rw [List.mem_singleton] at hp
    subst hp
    refine ⟨hu, I2.hok.fresh (Nat.le_refl _), ?_, I2.nofs (Nat.le_refl _), fun v z => by cases z⟩
    have := I2.lt
    exact Nat.ne_of_gt this
  show wpAny _ _ (callWith cpos (.ref h2.objs.size) [] (backTo cpos (starEach [e] (ksEnv qual scope s.heap.objs.size f (.ref ca) cc))) []) _ _ _
  have run := ha.run cpos _ _ _ _ _ I4 q
  rw [he]
  refine kxs_callWith (i := "ValueError.__init__") (x := a) (by show (false || (backTo cpos (starEach [] (ksEnv qual scope s.heap.objs.size f (.ref ca) cc))).any (·.1)) = false; rw [hpl]; rfl) (PySem.Calls.evalArgs_plain ?_)
  have run : wpAny (model P w) (A.deeper (ksEnv qual scope s.heap.objs.size f (.ref ca) cc)) (spliced (backTo cpos (starEach [e] (ksEnv qual scope s.heap.objs.size f (.ref ca) cc)))) _ _ _ := run
  rw [he] at run
  refine wpAny_mono run (fun us2 s5 hap => ?_) fun _ _ z => z
  obtain ⟨ws, H5, I5, rv, hwl, rfl, q5⟩ := hap
  have hu5 := (I5.pin _ (List.mem_append_right _ (List.mem_singleton.mpr rfl))).1
  refine ⟨hu5, ?_⟩
  have hlen : us2.length ≤ sizeLine := by
    rw [← Paired.length rv, sizeLine_eq]
    omega
  refine call_mw (X := cxS CX P w K mg base N qual scope f (.ref ca) cc A outer s H5 E) SC.T I5 ea hu5 hlen fun s6 I6 => ?_
  have I7 : Inv (cxS CX P w K mg base N qual scope f (.ref ca) cc A outer s H5 E) [] (vs.map some) H5 s6 := I6.pins_of fun p hp => absurd hp (by simp)
  refine wpAt_of_wpAny ?_
  refine wpAny_mono (hts.run [] s6 _ _ _ I7 q5) (fun fl s' hs => ?_) fun e s' hs => hs
  have fin : ∀ {σ' : L2.St} {H' : Hp} {v : V} {u : Value}, Inv (cxS CX P w K mg base N qual scope f (.ref ca) cc A outer s H5 E) [] σ' H' s' → RelV v u → Q v H' → CE outer P w H5 s Q u s' :=
    fun {σ' H' v u} J rv q => ⟨v, H', J.os, J.bare, J.base, J.hok, rv, q⟩
  cases fl with
  | ret u =>
    obtain ⟨v, σ', H', J, rv, q⟩ := hs
    exact fin J rv q
  | next =>
    obtain ⟨σ', H', J, q⟩ := hs
    exact fin (v := V.non) (u := Value.none) J rfl q
  | brk =>
    obtain ⟨_, _, _, q⟩ := hs
    exact False.elim q
  | cont =>
    obtain ⟨_, _, _, q⟩ := hs
    exact False.elim q
end UZ
/-! UZ, part V: exceptions of own classes: made, raised, caught. -/
namespace UZ
open PySem PySem.Spec PyProof.Rows L2
/-! ### the initialisers -/
def okV : V → Prop
  | .int i => i.natAbs.log2 < 1920
  | .str s => s.length ≤ 10000
  | _ => False
def spX (C : Addr) (fs : List Str) : Sp := fun vs H Q _ => ∃ (a : Addr) (args : List V), vs = .ref a :: args ∧ args.length = fs.length ∧ (∀ y ∈ args, okV y) ∧ H a = some (exo a C none) ∧
  ∀ d H2, H d = none → d ≠ a → H2 a = some (exo a C (some d)) → H2 d = some (exd d (fs.zip args).reverse) → (∀ b, b ≠ a → b ≠ d → H2 b = H b) → Q .non H2
/-- a message from the arguments -/
def MsgOk (m : Nat) (te : TE) : Prop := ∀ (a : Addr) (args : List V) (H : Hp) (Q : VK), args.length = m → (∀ y ∈ args, okV y) → (∀ w, Q w H) → te ((V.ref a :: args).map some) H Q
section
variable {P : Program} {w : World} {K : PySem.W.Frag} {mg : Str → Option Value} {base : Heap} {C f cc : Addr} {qual : Str} {params : Arguments} {scope : Scope} {dV kV doc pm cdv ct oc : Value} {an od : Option Addr} {osl : Array (Option Value)}
  {p0 p1 apos cpos epos q1 q2 q3 q4 r1 r2 r3 r4 : Pos} {e : Expr} {ar : Arg} {n0 n1 n2 f1 f2 : Str} {te : TE} {CX : CXT}
theorem tVar_get {vs : List V} {i : Nat} {v : V} {H : Hp} {Q : VK} (e : vs[i]? = some v) (q : Q v H) : tVar i (vs.map some) H Q := ⟨v, by rw [List.getElem?_map, e]; rfl, q⟩
/-- one field -/
theorem init_1 (SC : SupC P K C f cc cdv) (lk : K.lookup f = some ⟨oc, od, .func (PySem.W.ksFn "__init__" qual params [.Expr (.Call (.Attribute (.Call (.Name "super" p0) [] [] p1) "__init__" apos) [e] [] cpos) epos, .Assign [.Attribute (.Name n0 q1) f1 q2] (.Name n1 q3) q4] scope dV kV doc pm an cdv ct cc), osl⟩)
    (hcd : PySem.W.codeIn K cdv qual = true) (S : SupScope [n0, n1] [n0, n1] scope) (hp : (params.posonlyargs ++ params.args).head? = some ar) (hself : ar.arg = n0) (hf1 : PySem.W.findIn K (.ref C) f1 = some none)
    (he : ∀ (A : Around) (outer : List Env) (s : Shared) (H : Hp) (E : XK), PE (cxS CX P w K mg base [n0, n1] qual scope f cdv cc A outer s H E) e te) (hm : MsgOk 1 te)
    {pl : Addr → Sem Bool} (hev : ∀ L : Addr, eval (.Call (.Attribute (.Call (.Name "super" p0) [] [] p1) "__init__" apos) [e] [] cpos) (PySem.W.ksEnv qual scope L f cdv cc) = (do
      let ov ← attributeBase (.Call (.Name "super" p0) [] [] p1) "__init__" (PySem.W.ksEnv qual scope L f cdv cc) (eval (.Call (.Name "super" p0) [] [] p1) (PySem.W.ksEnv qual scope L f cdv cc))
      standAt apos.atName
      let (g, first) ← holding [ov] (getMethod ov "__init__" (pl L))
      callWith cpos g first (backTo cpos (starEach [e] (PySem.W.ksEnv qual scope L f cdv cc))) []))
    (hsw : ∀ L : Addr, swapsWith (.Call (.Attribute (.Call (.Name "super" p0) [] [] p1) "__init__" apos) [e] [] cpos) none epos.line (PySem.W.ksEnv qual scope L f cdv cc) = pure false)
    (hs1 : ∀ L : Addr, swapsWith (.Name n1 q3) (some (.Attribute (.Name n0 q1) f1 q2)) q4.line (PySem.W.ksEnv qual scope L f cdv cc) = pure false)
    (hint : ∀ L : Addr, interactive (PySem.W.ksEnv qual scope L f cdv cc) = false)
    (hstar : ∀ env : Env, starEach [e] env = (false, eval e env) :: starEach [] env) (hd0 : (n0 == ("__debug__" : Str)) = false) (hd1 : (n1 == ("__debug__" : Str)) = false) (hc0 : (n0 == ("__classdict__" : Str)) = false) (hc1 : (n1 == ("__classdict__" : Str)) = false) (k : Nat) :
    FnOk P w K mg base CX (k + 1) f (PySem.W.ksFn "__init__" qual params [.Expr (.Call (.Attribute (.Call (.Name "super" p0) [] [] p1) "__init__" apos) [e] [] cpos) epos, .Assign [.Attribute (.Name n0 q1) f1 q2] (.Name n1 q3) q4] scope dV kV doc pm an cdv ct cc) [n0, n1] (spX C [f1]) := by
  refine fn_sup SC lk hcd S hp (by rw [hself]; rfl) (fun vs H Q E ⟨a, args, e, hl, _⟩ => by rw [e, List.length_cons, hl]; rfl) (fun _ _ => rfl) (fun A outer s H vs Q E hsp => ?_) hev hsw hint hstar
  obtain ⟨a, args, rfl, hl, hok, ea, q⟩ := hsp
  obtain ⟨y, rfl⟩ : ∃ y, args = [y] := by
    match args, hl with
    | [y], _ => exact ⟨y, rfl⟩
  refine ⟨_, _, pa_cons (he A outer s H E) pa_nil (hstar _), pss_one (ps_ost (pe_var (i := 0) rfl (.inl (S.par _ (by simp))) hd0 hc0) (pe_var (i := 1) rfl (.inl (S.par _ (by simp))) hd1 hc1) (hs1 _)), a, rfl, ea, ?_⟩
  refine hm a [y] H _ rfl hok fun w => ?_
  refine ⟨by show 1 ≤ 1000; decide, rfl, ?_⟩
  refine tVar_get (vs := [.ref a, y]) (i := 1) rfl ?_
  refine tVar_get (vs := [.ref a, y]) (i := 0) rfl ?_
  refine ⟨a, C, rfl, SC.T, hf1, .inl ⟨ea, fun dx nd na => ?_⟩⟩
  refine q dx _ nd na upd_same ?_ fun b h1 h2 => ?_
  · rw [upd_ne na, upd_same]; rfl
  · rw [upd_ne h1, upd_ne h2]
/-- two fields -/
theorem init_2 (SC : SupC P K C f cc cdv) (lk : K.lookup f = some ⟨oc, od, .func (PySem.W.ksFn "__init__" qual params [.Expr (.Call (.Attribute (.Call (.Name "super" p0) [] [] p1) "__init__" apos) [e] [] cpos) epos, .Assign [.Attribute (.Name n0 q1) f1 q2] (.Name n1 q3) q4, .Assign [.Attribute (.Name n0 r1) f2 r2] (.Name n2 r3) r4] scope dV kV doc pm an cdv ct cc), osl⟩)
    (hcd : PySem.W.codeIn K cdv qual = true) (S : SupScope [n0, n1, n2] [n0, n1, n2] scope) (hp : (params.posonlyargs ++ params.args).head? = some ar) (hself : ar.arg = n0) (hf1 : PySem.W.findIn K (.ref C) f1 = some none) (hf2 : PySem.W.findIn K (.ref C) f2 = some none)
    (he : ∀ (A : Around) (outer : List Env) (s : Shared) (H : Hp) (E : XK), PE (cxS CX P w K mg base [n0, n1, n2] qual scope f cdv cc A outer s H E) e te) (hm : MsgOk 2 te)
    {pl : Addr → Sem Bool} (hev : ∀ L : Addr, eval (.Call (.Attribute (.Call (.Name "super" p0) [] [] p1) "__init__" apos) [e] [] cpos) (PySem.W.ksEnv qual scope L f cdv cc) = (do
      let ov ← attributeBase (.Call (.Name "super" p0) [] [] p1) "__init__" (PySem.W.ksEnv qual scope L f cdv cc) (eval (.Call (.Name "super" p0) [] [] p1) (PySem.W.ksEnv qual scope L f cdv cc))
      standAt apos.atName
      let (g, first) ← holding [ov] (getMethod ov "__init__" (pl L))
      callWith cpos g first (backTo cpos (starEach [e] (PySem.W.ksEnv qual scope L f cdv cc))) []))
    (hsw : ∀ L : Addr, swapsWith (.Call (.Attribute (.Call (.Name "super" p0) [] [] p1) "__init__" apos) [e] [] cpos) none epos.line (PySem.W.ksEnv qual scope L f cdv cc) = pure false)
    (hs1 : ∀ L : Addr, swapsWith (.Name n1 q3) (some (.Attribute (.Name n0 q1) f1 q2)) q4.line (PySem.W.ksEnv qual scope L f cdv cc) = pure false)
    (hs2 : ∀ L : Addr, swapsWith (.Name n2 r3) (some (.Attribute (.Name n0 r1) f2 r2)) r4.line (PySem.W.ksEnv qual scope L f cdv cc) = pure false)
    (hint : ∀ L : Addr, interactive (PySem.W.ksEnv qual scope L f cdv cc) = false)
    (hstar : ∀ env : Env, starEach [e] env = (false, eval e env) :: starEach [] env) (hd0 : (n0 == ("__debug__" : Str)) = false) (hd1 : (n1 == ("__debug__" : Str)) = false) (hd2 : (n2 == ("__debug__" : Str)) = false) (hc0 : (n0 == ("__classdict__" : Str)) = false) (hc1 : (n1 == ("__classdict__" : Str)) = false) (hc2 : (n2 == ("__classdict__" : Str)) = false) (k : Nat) :
    FnOk P w K mg base CX (k + 1) f (PySem.W.ksFn "__init__" qual params [.Expr (.Call (.Attribute (.Call (.Name "super" p0) [] [] p1) "__init__" apos) [e] [] cpos) epos, .Assign [.Attribute (.Name n0 q1) f1 q2] (.Name n1 q3) q4, .Assign [.Attribute (.Name n0 r1) f2 r2] (.Name n2 r3) r4] scope dV kV doc pm an cdv ct cc) [n0, n1, n2] (spX C [f1, f2]) := by
  refine fn_sup SC lk hcd S hp (by rw [hself]; rfl) (fun vs H Q E ⟨a, args, e, hl, _⟩ => by rw [e, List.length_cons, hl]; rfl) (fun _ _ => rfl) (fun A outer s H vs Q E hsp => ?_) hev hsw hint hstar
  obtain ⟨a, args, rfl, hl, hok, ea, q⟩ := hsp
  obtain ⟨y, z, rfl⟩ : ∃ y z, args = [y, z] := by
    match args, hl with
    | [y, z], _ => exact ⟨y, z, rfl⟩
  refine ⟨_, _, pa_cons (he A outer s H E) pa_nil (hstar _), pss_cons (ps_ost (pe_var (i := 0) rfl (.inl (S.par _ (by simp))) hd0 hc0) (pe_var (i := 1) rfl (.inl (S.par _ (by simp))) hd1 hc1) (hs1 _)) (pss_one (ps_ost (pe_var (i := 0) rfl (.inl (S.par _ (by simp))) hd0 hc0) (pe_var (i := 2) rfl (.inl (S.par _ (by simp))) hd2 hc2) (hs2 _))), a, rfl, ea, ?_⟩
  refine hm a [y, z] H _ rfl hok fun w => ?_
  refine ⟨by show 1 ≤ 1000; decide, rfl, ?_⟩
  unfold tSeq
  unfold tOst
  refine tVar_get (vs := [.ref a, y, z]) (i := 1) rfl ?_
  refine tVar_get (vs := [.ref a, y, z]) (i := 0) rfl ?_
  refine ⟨a, C, rfl, SC.T, hf1, .inl ⟨ea, fun dx nd na => ?_⟩⟩
  dsimp only
  refine tVar_get (vs := [.ref a, y, z]) (i := 2) rfl ?_
  refine tVar_get (vs := [.ref a, y, z]) (i := 0) rfl ?_
  refine ⟨a, C, rfl, SC.T, hf2, .inr ⟨dx, [(f1, y)], upd_same, by rw [upd_ne na, upd_same], by show 1 ≤ 900; decide, ?_⟩⟩
  refine q dx _ nd na ?_ upd_same fun b h1 h2 => ?_
  · rw [upd_ne (Ne.symm na), upd_same]
  · rw [upd_ne h2, upd_ne h1, upd_ne h2]
end
/-! ### messages -/
theorem msg_name : MsgOk 1 (tVar 1) := fun a args H Q hl _ q => by
  match args, hl with
  | [y], _ => exact tVar_get (vs := [.ref a, y]) (i := 1) rfl (q _)
theorem int_len {i : Int} (h : i.natAbs.log2 < 1920) : (Str.ofString (toString i)).length ≤ 1921 := by
  have := PySem.int_text_length_le (k := 1920) (by decide) h
  rw [PySem.ofString_length]; exact this
theorem fmt_ok {i : Nat} {vs : List V} {y : V} (e : vs[i]? = some y) (h : okV y) {H : Hp} {Q : VK} (q : ∀ z : Str, z.length ≤ 10000 → Q (.str z) H) : tFmt (tVar i) (vs.map some) H Q := by
  refine tVar_get e ?_
  cases y with
  | int j => exact .inr ⟨j, rfl, h, q _ (Nat.le_trans (int_len h) (by decide))⟩
  | str z => exact .inl ⟨z, rfl, Nat.le_trans h (by decide), q z h⟩
  | _ => exact h.elim
/-- f'..{p}' -/
theorem msg_f1 {pre : Str} (hp : pre.length ≤ 1000) : MsgOk 1 (fun σ H Q => tJs [tC (.str pre), tFmt (tVar 1)] Str.empty σ H fun out H1 => Q (.str out) H1) := fun a args H Q hl ok q => by
  match args, hl with
  | [y], _ =>
    refine ⟨pre, rfl, by rw [PySem.Str.length_append]; show 0 + _ ≤ _; unfold sizeLine; omega, ?_⟩
    refine fmt_ok (vs := [.ref a, y]) (i := 1) rfl (ok y (by simp)) fun z hz => ?_
    refine ⟨z, rfl, by rw [PySem.Str.length_append, PySem.Str.length_append]; show 0 + _ + _ ≤ _; unfold sizeLine; omega, ?_⟩
    exact q _
/-- f'..{p}..{q}' -/
theorem msg_f2 {pre mid : Str} (hp : pre.length ≤ 1000) (hm : mid.length ≤ 1000) : MsgOk 2 (fun σ H Q => tJs [tC (.str pre), tFmt (tVar 1), tC (.str mid), tFmt (tVar 2)] Str.empty σ H fun out H1 => Q (.str out) H1) := fun a args H Q hl ok q => by
  match args, hl with
  | [y, x], _ =>
    refine ⟨pre, rfl, by rw [PySem.Str.length_append]; show 0 + _ ≤ _; unfold sizeLine; omega, ?_⟩
    refine fmt_ok (vs := [.ref a, y, x]) (i := 1) rfl (ok y (by simp)) fun z hz => ?_
    refine ⟨z, rfl, by rw [PySem.Str.length_append, PySem.Str.length_append]; show 0 + _ + _ ≤ _; unfold sizeLine; omega, ?_⟩
    refine ⟨mid, rfl, by rw [PySem.Str.length_append, PySem.Str.length_append, PySem.Str.length_append]; show 0 + _ + _ + _ ≤ _; unfold sizeLine; omega, ?_⟩
    refine fmt_ok (vs := [.ref a, y, x]) (i := 2) rfl (ok x (by simp)) fun z2 hz2 => ?_
    refine ⟨z2, rfl, by rw [PySem.Str.length_append, PySem.Str.length_append, PySem.Str.length_append, PySem.Str.length_append]; show 0 + _ + _ + _ + _ ≤ _; unfold sizeLine; omega, ?_⟩
    exact q _

/-! ### an own exception class -/
structure ExD (P : Program) (w : World) (K : PySem.W.Frag) (mg : Str → Option Value) (base : Heap) (x : Str) (k : Nat) (fs : List Str) : Prop where
  ex : ∃ (C fI : Addr) (fd : FuncData) (ps : List Str), OexC K C ∧ PySem.W.findIn K (.ref C) "__init__" = some (some (.ref fI)) ∧ PySem.W.typeIn K (.ref fI) = some (.type "function") ∧ FnOk P w K mg base (L2.CX P w) k fI fd ps (spX C fs) ∧ Binds K fd ps [] ∧
    mg x = some (.ref C) ∧ ClsN K x C ∧ XfC K C ∧ ∀ f ∈ fs, PySem.W.findIn K (.ref C) f = some none
def okP : PyData → Prop
  | .int i => i.natAbs.log2 < 1920
  | .str s => s.length ≤ 10000
  | _ => False
theorem okP_V {K : PySem.W.Frag} {S : Hp} {v : V} {x : PyData} (r : Rep K S v x) (h : okP x) : okV v := by
  cases r <;> first | exact h | exact h.elim
theorem RepF.app {K : PySem.W.Frag} {S : Hp} : ∀ {a c : List (Str × V)} {b d : List (Str × PyData)}, RepF K S a b → RepF K S c d → RepF K S (a ++ c) (b ++ d)
  | _, _, _, _, .nil, h => h
  | _, _, _, _, .cons r t, h => .cons r (t.app h)
theorem RepF.rev {K : PySem.W.Frag} {S : Hp} : ∀ {a : List (Str × V)} {b : List (Str × PyData)}, RepF K S a b → RepF K S a.reverse b.reverse
  | _, _, .nil => .nil
  | _, _, .cons r t => by rw [List.reverse_cons, List.reverse_cons]; exact t.rev.app (.cons r .nil)
theorem RepF.zip {K : PySem.W.Frag} {S : Hp} : ∀ {fs : List Str} {vs : List V} {xs : List PyData}, RepL K S vs xs → RepF K S (fs.zip vs) (fs.zip xs)
  | [], _, _, _ => .nil
  | _ :: _, _, _, .nil => .nil
  | _ :: _, _, _, .cons r t => .cons r (RepF.zip t)
theorem RepL.okV {K : PySem.W.Frag} {S : Hp} : ∀ {vs : List V} {xs : List PyData}, RepL K S vs xs → (∀ y ∈ xs, okP y) → ∀ y ∈ vs, okV y
  | _, _, .nil, _, y, hy => by cases hy
  | _, _, .cons r t, h, y, hy => by
    rcases List.mem_cons.mp hy with rfl | hy
    · exact okP_V r (h _ (List.mem_cons_self ..))
    · exact RepL.okV t (fun z hz => h z (List.mem_cons_of_mem _ hz)) y hy
/-- raise x(e, ..) -/
def dRaise (x : Str) (fs : List Str) (u : DA) : DS := fun D Γ O => u Γ O (fun ws O1 => ∃ xs, allD ws = some xs ∧ xs.length = fs.length ∧ fs.length ≤ 1000 ∧ (∀ y ∈ xs, okP y) ∧ D.ex (.fld x (fs.zip xs).reverse) Γ O1) fun y O' => D.ex y Γ O'
section
variable {X : Cx} {Wx : WX} {x : Str} {k : Nat} {fs : List Str} {e : Expr} {es : List Expr} {u : DA} {p pos pos' : Pos}
theorem s_raise (bx : Bx X Wx) (F : ExD X.prog X.w X.K X.mg X.base x k fs) (hr : Room (k + 1) X.A) (ha : PDA X Wx (e :: es) u) (hg : Gl X x := by rfl) (hdb : (x == ("__debug__" : Str)) = false := by decide)
    (he : starEach (e :: es) X.env = (false, eval e X.env) :: starEach es X.env := by rfl) (hpl : (backTo pos (starEach es X.env)).any (·.1) = false := by rfl) : PDS X Wx (.Raise (some (.Call (.Name x p) (e :: es) [] pos)) none pos') (dRaise x fs u) := by
  obtain ⟨C, fI, fd, ps, T, iC, tI, FO, hb, hm, hcl, _, _⟩ := F.ex
  refine (ps_raise bx.calm bx.tk (pmk_oex T iC tI FO hr hb .nil passL hg hm ha hdb he hpl)).imp fun D σ H ⟨Γ, O, S, ρ, D', st, h, ks⟩ => ?_
  refine ⟨Γ, O, S, ρ, _, _, st, h, fun ws O1 S1 ρ1 vs H1 x1 wd1 r1 ⟨xs, ex, hl, hz, hok, q⟩ => ?_, ks.kx st⟩
  have ew := allD_eq ex
  subst ew
  have rl := RelWs.repL r1
  have hvl : vs.length = fs.length := by rw [r1.length, List.length_map, hl]
  refine ⟨by omega, fun a na => ?_⟩
  rw [List.append_nil]
  refine ⟨a, vs, rfl, hvl, RepL.okV rl hok, upd_same, fun d H2 nd ne e1 e2 fr => ?_⟩
  have nd1 : H1 d = none := by rw [← nd, upd_ne ne]
  refine ⟨rfl, d, _, e1, e2, nd1, ?_⟩
  have eH : upd (del H2 a) d (.xd (fs.zip vs).reverse) = upd H1 d (.xd (fs.zip vs).reverse) := by
    funext b
    by_cases hb : b = d
    · rw [hb, upd_same, upd_same]
    · rw [upd_ne hb, upd_ne hb]
      by_cases ha : b = a
      · rw [ha, del_same, na]
      · rw [del_ne ha, fr b ha hb, upd_ne ha]
  rw [eH]
  obtain ⟨wd2, x2⟩ := wd1.lay (u := .xd (fs.zip vs).reverse) nd1
  exact ks.ex _ Γ O1 _ ρ1 σ (.ref C) (some d) _ (x1.trans x2) (st.ext (x1.trans x2) wd2) (.fld hcl upd_same ((RepF.zip rl).rev.sub x2.sub)) q
end

/-! ### try: .. except .. -/
/-- which of the classes told are below the clause's -/
def SubOk (K : PySem.W.Frag) (c : Value) : List (Str × Bool) → Prop
  | [] => True
  | (nm, b) :: r => (∃ C, ClsN K nm C ∧ PySem.W.exmOne K (.ref C) c = some b) ∧ SubOk K c r
theorem SubOk.look {K : PySem.W.Frag} {c : Value} {nm : Str} {b : Bool} {C : Addr} (hC : ClsN K nm C) : ∀ {l : List (Str × Bool)}, SubOk K c l → l.lookup nm = some b → PySem.W.exmOne K (.ref C) c = some b
  | [], _, h => by cases h
  | (n2, b2) :: l, ⟨⟨C2, h1, h2⟩, r⟩, h => by
    rw [List.lookup_cons] at h
    cases hb : (nm == n2) with
    | true =>
      rw [hb] at h
      cases h
      have := eq_of_beq hb
      subst this
      have e : C2 = C := by
        unfold ClsN at hC h1
        rw [hC] at h1
        cases h1; rfl
      rw [← e]; exact h2
    | false =>
      rw [hb] at h
      exact SubOk.look hC r h
def xName : Xc → Str
  | .plain x => x
  | .fld x _ => x
def hEnds (D : DEnds) (i : Nat) : DEnds := { nx := fun Γ' O' => D.nx (Γ'.set i none) O', rt := D.rt, bk := fun Γ' O' => D.bk (Γ'.set i none) O', ct := fun Γ' O' => D.ct (Γ'.set i none) O' }
/-- except c as n -/
def dTryAs (sub : List (Str × Bool)) (i : Nat) (tb : DS) (th : Addr → Addr → DS) : DS := fun D Γ O => tb { D with ex := fun x Γ1 O1 => match sub.lookup (xName x) with
  | some true => match x with
    | .fld _ fs => ∀ a d, th a d (hEnds D i) (Γ1.set i (some (.exc a d fs))) O1
    | .plain _ => False
  | some false => D.ex x Γ1 O1
  | none => False } Γ O
/-- except c -/
def dTry (sub : List (Str × Bool)) (tb th : DS) : DS := fun D Γ O => tb { D with ex := fun x Γ1 O1 => match sub.lookup (xName x) with
  | some true => th { D with ex := fun _ _ _ => False } Γ1 O1
  | some false => D.ex x Γ1 O1
  | none => False } Γ O
section
variable {X : Cx} {Wx : WX} {x n : Str} {c : Value} {i : Nat} {sub : List (Str × Bool)} {body suite : List Stmt} {b₀ : Stmt} {np pos pos' : Pos} {tb : DS}
theorem relX_cls {K : PySem.W.Frag} {S : Hp} {ρ : Nat → Addr} {m : Nat} {H : Hp} {cls : Value} {d : Option Addr} {y : Xc} (r : RelX K S ρ m H cls d y) : ∃ C, cls = .ref C ∧ ClsN K (xName y) C := by
  cases r with
  | plain c => exact ⟨_, rfl, c⟩
  | fld c _ _ => exact ⟨_, rfl, c⟩
theorem s_try_as {th : Addr → Addr → DS} (bx : Bx X Wx) (hs : X.stack = X.env :: X.outer) (hf : X.env.frame = some X.env.locals) (hi : X.N[i]? = some n) (hln : X.env.kindOf n = some .local) (hc : Names X x c) (so : SubOk X.K c sub)
    (hb : ∀ (W : WX) (pn : List (Addr × Obj)) (xe : Value → Shared → Prop), Bx (X.tr pn xe) W → PDSs (X.tr pn xe) W body tb)
    (hsu : ∀ (a d C : Addr) (nm : Str) (oe : Obj) (pn : List (Addr × Obj)), sub.lookup nm = some true → ClsN X.K nm C → Zc (.ref C) (some d) oe → (∃ vs, oe.data = .fields vs) → PDSs (X.suite a ((a, oe) :: pn)) Wx0 (b₀ :: suite) (th a d)) :
    PDS X Wx (.Try body [.ExceptHandler (some (.Name x np)) (some n) (b₀ :: suite) pos'] [] [] pos) (dTryAs sub i tb th) := by
  refine (ps_try_as (i := i) (tb := fun W => iS X.K W tb) (ts := fun a cls d D σ H => ∃ (nm : Str) (C d' : Addr), cls = .ref C ∧ d = some d' ∧ sub.lookup nm = some true ∧ ClsN X.K nm C ∧ iS X.K Wx0 (th a d') D σ H) hs hf bx.nd hi hln hc bx.tk
    (fun W pn xe tk hp => hb W pn xe ⟨tk, bx.calm, hp, bx.nd⟩) (fun a oe cls d pn hz hf2 => ?_)).imp fun D σ H ⟨Γ, O, S, ρ, D', st, h, ks⟩ => ?_
  · refine ⟨fun pins s σ H D I hq => ?_⟩
    obtain ⟨nm, C, d', rfl, rfl, h1, h2, q⟩ := hq
    exact (hsu a d' C nm oe pn h1 h2 hz hf2).run pins s σ H D I q
  · refine ⟨Γ, O, S, ρ, _, st, h, ⟨ks.nx, ks.rt, ks.bk, ks.ct, fun y Γ1 O1 S1 ρ1 σ1 cls dd H1 x1 st1 rx q => ?_⟩⟩
    obtain ⟨C, rfl, hC⟩ := relX_cls rx
    dsimp only at q
    cases hl : sub.lookup (xName y) with
    | none => rw [hl] at q; exact q.elim
    | some b =>
      rw [hl] at q
      refine ⟨b, SubOk.look hC so hl, fun hb a na => ?_, fun hb => ?_⟩
      · subst hb
        dsimp only at q
        cases y with
        | plain z => exact q.elim
        | fld z fs =>
          cases rx with
          | fld hC2 e r =>
            refine ⟨z, _, _, rfl, rfl, hl, hC2, Γ1.set i (some (.exc a _ fs)), O1, S1, ρ1, hEnds D' i, st1.set i (.exc e r), q a _, ?_⟩
            have ks1 := ks.ext x1
            have un : ∀ {Γ' : Gm} {O' : List Ob} {S' : Hp} {ρ' : Nat → Addr} {σ' : L2.St} {H' : Hp}, At X.K S' ρ' H' O' σ' Γ' → At X.K S' ρ' H' O' (σ'.set i none) (Γ'.set i none) := fun {Γ' O' S' ρ' σ' H'} st' => by
              refine ⟨st'.wd, by rw [List.length_set, List.length_set]; exact st'.rs.1, fun j w e => ?_⟩
              by_cases hj : j = i
              · subst hj
                by_cases hl : j < Γ'.length
                · rw [List.getElem?_set_self hl] at e; cases e
                · rw [List.getElem?_eq_none (by rw [List.length_set]; omega)] at e; cases e
              · rw [List.getElem?_set_ne (Ne.symm hj)] at e ⊢
                exact st'.rs.2 j w e
            exact ⟨fun Γ' O' S' ρ' σ' H' x' st' q' => ks1.nx _ _ _ _ _ _ x' (un st') q', ks1.rt, fun Γ' O' S' ρ' σ' H' x' st' q' => ks1.bk _ _ _ _ _ _ x' (un st') q', fun Γ' O' S' ρ' σ' H' x' st' q' => ks1.ct _ _ _ _ _ _ x' (un st') q', fun _ _ _ _ _ _ _ _ _ _ _ _ q' => q'.elim⟩
      · subst hb
        exact ks.ex y Γ1 O1 S1 ρ1 σ1 _ dd H1 x1 st1 rx q
theorem s_try {th : DS} (bx : Bx X Wx) (hs : X.stack = X.env :: X.outer) (hf : X.env.frame = some X.env.locals) (hc : Names X x c) (so : SubOk X.K c sub)
    (hb : ∀ (W : WX) (pn : List (Addr × Obj)) (xe : Value → Shared → Prop), Bx (X.tr pn xe) W → PDSs (X.tr pn xe) W body tb)
    (hsu : ∀ (a : Addr) (oe : Obj) (pn : List (Addr × Obj)), PDSs (X.suite a ((a, oe) :: pn)) Wx0 (b₀ :: suite) th) :
    PDS X Wx (.Try body [.ExceptHandler (some (.Name x np)) none (b₀ :: suite) pos'] [] [] pos) (dTry sub tb th) := by
  refine (ps_try_only (tb := fun W => iS X.K W tb) (ts := fun a cls d => iS X.K Wx0 th) hs hf hc bx.tk
    (fun W pn xe tk hp => hb W pn xe ⟨tk, bx.calm, hp, bx.nd⟩) (fun a oe cls d pn hz hf2 => hsu a oe pn)).imp fun D σ H ⟨Γ, O, S, ρ, D', st, h, ks⟩ => ?_
  refine ⟨Γ, O, S, ρ, _, st, h, ⟨ks.nx, ks.rt, ks.bk, ks.ct, fun y Γ1 O1 S1 ρ1 σ1 cls dd H1 x1 st1 rx q => ?_⟩⟩
  obtain ⟨C, rfl, hC⟩ := relX_cls rx
  dsimp only at q
  cases hl : sub.lookup (xName y) with
  | none => rw [hl] at q; exact q.elim
  | some b =>
    rw [hl] at q
    refine ⟨b, SubOk.look hC so hl, fun hb a na => ?_, fun hb => ?_⟩
    · subst hb
      have ks1 := ks.ext x1
      exact ⟨Γ1, O1, S1, ρ1, _, st1, q, ⟨ks1.nx, ks1.rt, ks1.bk, ks1.ct, fun _ _ _ _ _ _ _ _ _ _ _ _ q' => q'.elim⟩⟩
    · subst hb
      exact ks.ex y Γ1 O1 S1 ρ1 σ1 _ dd H1 x1 st1 rx q
/-- e.f, e the exception caught -/
def dXf (a d : Addr) (f : Str) (te : DE) : DE := fun Γ O Q E => te Γ O (fun w O1 => match w with
  | .exc a' d' fs => a' = a ∧ d' = d ∧ ∃ y, fs.lookup f = some y ∧ Q (.d y) O1
  | _ => False) E
theorem d_xf {P : Program} {w : World} {mg : Str → Option Value} {base : Heap} {k : Nat} {fs : List Str} {a d C : Addr} {nm f : Str} {oe : Obj} {pn : List (Addr × Obj)} {e : Expr} {te : DE} (F : ExD P w X.K mg base nm k fs) (hC : ClsN X.K nm C) (hm : f ∈ fs) (hz : Zc (.ref C) (some d) oe) (hf : ∃ vs, oe.data = .fields vs)
    (he : PDE (X.suite a ((a, oe) :: pn)) Wx e te) (hb : attributeBase e f X.env (eval e X.env) = eval e X.env := by rfl) : PDE (X.suite a ((a, oe) :: pn)) Wx (.Attribute e f pos) (dXf a d f te) := by
  obtain ⟨C2, fI, fd, ps, _, _, _, _, _, _, hC2, T, hno⟩ := F.ex
  have eC : C2 = C := by
    unfold ClsN at hC hC2
    rw [hC] at hC2
    cases hC2; rfl
  subst eC
  refine (pe_xf T (hno f hm) hz hf he hb).imp fun σ H Q ⟨Γ, O, S, ρ, Q', E', st, h, kq, kx⟩ => ⟨Γ, O, S, ρ, _, E', st, h, fun w1 O1 S1 ρ1 v1 H1 x1 wd1 r1 h1 => ?_, kx⟩
  dsimp only at h1
  split at h1
  · obtain ⟨rfl, rfl, y, hl, q⟩ := h1
    cases r1 with
    | exc e r =>
      obtain ⟨u, hu, ru⟩ := r.look hl
      exact ⟨rfl, rfl, _, _, u, rfl, wd1.sub _ _ e, hu, kq _ O1 S1 ρ1 u H1 x1 wd1 (.d ru) q⟩
  · exact h1.elim
end

/-! ### classes without an initialiser of their own -/
structure ExP (K : PySem.W.Frag) (mg : Str → Option Value) (x : Str) : Prop where
  ex : ∃ C : Addr, PySem.W.excIn K C [.type "ValueError", .type "Exception", .type "BaseException", .type "object"] "ValueError.__new__" = true ∧ mg x = some (.ref C) ∧ ClsN K x C ∧ PySem.W.keepIn K (.ref C) = true ∧ PySem.W.subIn K (.ref C) (.type "BaseException") = some true ∧ PySem.W.typeIn K (.ref C) = some (.type "type")
section
variable {X : Cx} {C : Addr} {bmB : List Value} {B newId initId : String}
theorem pmk_own0 {x : Str} {p pos : Pos} (F : ExcBaseFacts B newId initId bmB) (q : PySem.W.excIn X.K C bmB newId = true) (gC : X.mg x = some (.ref C)) (kC : PySem.W.keepIn X.K (.ref C) = true) (r : Raises X (.ref C)) (hg : Gl X x)
    (hdb : (x == ("__debug__" : Str)) = false := by decide) : PMk X (.Call (.Name x p) [] [] pos) (fun _ H Q => Q (.ref C) none H) := by
  intro pins s σ H Q I h
  refine wpAny_Call_Name_kw (ld_glob I hg gC ?_ hdb)
  refine PySem.W.callWith_K0 I.kIn kC ?_
  show wpAny _ _ (call (.ref C) []) _ _ _
  obtain ⟨bm, N, nm, qn, bs, hdct, sn, sub, ab, col, dd, k0, k1, k2, k3, k5, mN, hC, hN, hni, T⟩ := exc_obj I.kIn q
  refine wpAny_call_exc_subT F T hC hN hni (fun h' e hm => ?_) (by show 0 ≤ sizeLine; rw [sizeLine_eq]; omega)
  exact mk_of I hm r h (I.hok.gone hm.new)
end
/-- raise x() -/
def dRaise0 (x : Str) : DS := fun D Γ O => D.ex (.plain x) Γ O
theorem s_raise0 {X : Cx} {Wx : WX} {x : Str} {p pos pos' : Pos} (bx : Bx X Wx) (F : ExP X.K X.mg x) (hg : Gl X x := by rfl) (hdb : (x == ("__debug__" : Str)) = false := by decide) : PDS X Wx (.Raise (some (.Call (.Name x p) [] [] pos)) none pos') (dRaise0 x) := by
  obtain ⟨C, q, hm, hC, kC, h1, h2⟩ := F.ex
  refine (ps_raise bx.calm bx.tk (pmk_own0 PySem.F.excBase_ValueError q hm kC (raises_own h1 h2) hg hdb)).imp fun D σ H ⟨Γ, O, S, ρ, D', st, h, ks⟩ => ?_
  exact ks.ex _ Γ O S ρ σ (.ref C) none H .refl st (.plain hC) h
end UZ
/-! UZ, part I: dicts with whole numbers or texts as keys. -/
namespace UZ
open PySem PySem.Spec PyProof.Rows L2
def kO : PyData → Option Key
  | .int i => some (.inl i)
  | .str s => some (.inr s)
  | _ => none
def dkL : List (PyData × PyData) → Option (List (Key × W))
  | [] => some []
  | (k, x) :: r => match kO k with
    | some k => match dkL r with
      | some l => some ((k, .d x) :: l)
      | none => none
    | none => none
/-- the pairs of a dict: one of our own, or one never written again (not an empty one) -/
def dv (O : List Ob) : W → Option (List (Key × W))
  | .o k => match O[k]? with
    | some (.dK ws) => some ws
    | _ => none
  | .d (.dict (p :: ds)) => dkL (p :: ds)
  | _ => none
def keyW : W → Option Key
  | .d x => kO x
  | _ => none
/-- the value told under k; a pair put in its place or at the end -/
def lkW {κ β : Type} [DecidableEq κ] (l : List (κ × β)) (k : κ) : Option β := (l.find? fun kv => decide (kv.1 = k)).map (·.2)
def ptW {κ β : Type} [DecidableEq κ] (l : List (κ × β)) (k : κ) (v : β) : List (κ × β) :=
  if (l.any fun kv => decide (kv.1 = k)) = true then l.map (fun kv => if kv.1 = k then (kv.1, v) else kv) else l ++ [(k, v)]
section
variable {κ β : Type} [DecidableEq κ]
theorem lkW_pos {p : κ × β} {r : List (κ × β)} {k : κ} (e : p.1 = k) : lkW (p :: r) k = some p.2 := by simp [lkW, List.find?_cons, e]
theorem lkW_neg {p : κ × β} {r : List (κ × β)} {k : κ} (e : ¬ p.1 = k) : lkW (p :: r) k = lkW r k := by simp [lkW, List.find?_cons, e]
end
section
variable {K : PySem.W.Frag} {S : Hp} {ρ : Nat → Addr} {n : Nat} {H : Hp} {O : List Ob}
theorem keyW_inv {v : V} {w : W} {k : Key} (h : keyW w = some k) (r : RelW K S ρ n v w) : v = kV k := by
  cases r with
  | d r => cases r <;> first | (cases h; rfl) | cases h
  | _ => cases h
theorem RepK.relF : ∀ {kvs : List (Key × V)} {ds : List (PyData × PyData)} {ws : List (Key × W)}, RepK K S kvs ds → dkL ds = some ws → RelF K S ρ n kvs ws
  | _, [], ws, .nil, h => by cases h; exact .nil
  | (k, v) :: kvs, (_, d) :: ds, ws, .cons r t, h => by
    unfold dkL at h
    have e : kO (keyD k) = some k := by cases k <;> rfl
    rw [e] at h
    dsimp only at h
    split at h
    · rename_i l hl
      cases h
      exact .cons (.d r) (RepK.relF t hl)
    · cases h
theorem dv_inv {v : V} {w : W} {ws : List (Key × W)} (wd : Wd K S ρ O H) (h : dv O w = some ws) (r : RelW K S ρ O.length v w) : ∃ a kvs, v = .ref a ∧ H a = some (.dK kvs) ∧ RelF K S ρ O.length kvs ws := by
  unfold dv at h
  split at h
  · rename_i k
    split at h
    · rename_i ws' e
      cases h
      cases r with
      | o hk z =>
        subst z
        cases wd.own _ _ e with
        | dK h r => exact ⟨_, _, rfl, h, r⟩
    · cases h
  · rename_i p ds
    cases r with
    | d r =>
      cases r with
      | dK e r => exact ⟨_, _, rfl, wd.sub _ _ e, r.relF h⟩
      | dT e r =>
        cases r with
        | cons r t => cases h
  · cases h
theorem RelF.val {κ : Type} [DecidableEq κ] {k : κ} : ∀ {kvs : List (κ × V)} {ws : List (κ × W)}, RelF K S ρ n kvs ws → (∀ w, lkW ws k = some w → ∃ v, valV kvs k = some v ∧ RelW K S ρ n v w) ∧ (lkW ws k = none → valV kvs k = none)
  | _, _, .nil => ⟨fun w h => (by cases h), fun _ => rfl⟩
  | (k', v) :: kvs, (_, w) :: ws, .cons r t => by
    by_cases e : k' = k
    · refine ⟨fun w' h => ?_, fun h => ?_⟩
      · rw [lkW_pos (p := (k', w)) e] at h
        cases h
        exact ⟨v, valV_pos (p := (k', v)) e, r⟩
      · rw [lkW_pos (p := (k', w)) e] at h
        cases h
    · have ih := RelF.val (k := k) t
      refine ⟨fun w' h => ?_, fun h => ?_⟩
      · rw [lkW_neg (p := (k', w)) e] at h
        rw [valV_neg (p := (k', v)) e]
        exact ih.1 w' h
      · rw [lkW_neg (p := (k', w)) e] at h
        rw [valV_neg (p := (k', v)) e]
        exact ih.2 h
theorem RelF.keys {κ : Type} : ∀ {kvs : List (κ × V)} {ws : List (κ × W)}, RelF K S ρ n kvs ws → kvs.map (·.1) = ws.map (·.1)
  | _, _, .nil => rfl
  | _, _, .cons _ t => by rw [List.map_cons, List.map_cons, t.keys]
theorem RelF.len {κ : Type} : ∀ {kvs : List (κ × V)} {ws : List (κ × W)}, RelF K S ρ n kvs ws → kvs.length = ws.length
  | _, _, .nil => rfl
  | _, _, .cons _ t => by rw [List.length_cons, List.length_cons, t.len]
theorem RelF.snoc {κ : Type} {k : κ} {v : V} {w : W} (r : RelW K S ρ n v w) : ∀ {kvs : List (κ × V)} {ws : List (κ × W)}, RelF K S ρ n kvs ws → RelF K S ρ n (kvs ++ [(k, v)]) (ws ++ [(k, w)])
  | _, _, .nil => .cons r .nil
  | _, _, .cons q t => .cons q (t.snoc r)
theorem RelF.put {κ : Type} [DecidableEq κ] {k : κ} {v : V} {w : W} (r : RelW K S ρ n v w) {kvs : List (κ × V)} {ws : List (κ × W)} (f : RelF K S ρ n kvs ws) : RelF K S ρ n (putK kvs k v) (ptW ws k w) := by
  have mp : ∀ {kvs : List (κ × V)} {ws : List (κ × W)}, RelF K S ρ n kvs ws → RelF K S ρ n (kvs.map fun kv => if kv.1 = k then (kv.1, v) else kv) (ws.map fun kv => if kv.1 = k then (kv.1, w) else kv) := by
    intro kvs ws f
    induction f with
    | nil => exact .nil
    | @cons k' v' _ w' _ q t ih =>
      rw [List.map_cons, List.map_cons]
      by_cases e : k' = k
      · rw [if_pos e, if_pos e]; exact .cons r ih
      · rw [if_neg e, if_neg e]; exact .cons q ih
  have ea : (kvs.any fun kv => decide (kv.1 = k)) = (ws.any fun kv => decide (kv.1 = k)) := by
    have a1 : (kvs.any fun kv => decide (kv.1 = k)) = ((kvs.map (·.1)).any fun x => decide (x = k)) := by rw [List.any_map]; rfl
    have a2 : (ws.any fun kv => decide (kv.1 = k)) = ((ws.map (·.1)).any fun x => decide (x = k)) := by rw [List.any_map]; rfl
    rw [a1, a2, f.keys]
  unfold putK ptW
  rw [ea]
  split
  · exact mp f
  · exact f.snoc r
end
/-! ### d[k], d.get(k, x), len(d), sorted(d) -/
section
variable {X : Cx} {Wx : WX} {o i f : Expr} {to ti tf : DE} {pos apos cpos : Pos}
def dDG (to ti : DE) : DE := fun Γ O Q E => to Γ O (fun x O1 => ti Γ O1 (fun y O2 => ∃ ws k w, dv O2 x = some ws ∧ keyW y = some k ∧ lkW ws k = some w ∧ Q w O2) E) E
theorem d_dget (hu : X.A.units + 1 < cLine) (hs : NoSl i) (ho : PDE X Wx o to) (hi : PDE X Wx i ti) : PDE X Wx (.Subscript o i pos) (dDG to ti) :=
  (pe_dget hu ho hi hs).imp fun σ H Q ⟨Γ, O, S, ρ, Q', E', st, h, kq, kx⟩ => by
    refine ⟨Γ, O, S, ρ, _, E', st, h, fun w1 O1 S1 ρ1 v1 H1 x1 wd1 r1 h1 => ?_, kx⟩
    refine ⟨Γ, O1, S1, ρ1, _, E', st.ext x1 wd1, h1, fun w2 O2 S2 ρ2 v2 H2 x2 wd2 r2 ⟨ws, k, w, e1, e2, e3, h2⟩ => ?_, kx.ext x1⟩
    obtain ⟨a, kvs, rfl, hd, rf⟩ := dv_inv wd2 e1 (r1.ext x2)
    have := keyW_inv e2 r2
    subst this
    obtain ⟨v, hv, rv⟩ := rf.val.1 w e3
    exact ⟨a, v, rfl, by rw [← hv]; exact DGet.k hd, kq w O2 S2 ρ2 v H2 (x1.trans x2) wd2 rv h2⟩
def dGet2 (to ti tf : DE) : DE := fun Γ O Q E => to Γ O (fun x O1 => (dv O1 x).isSome = true ∧ ti Γ O1 (fun y O2 => tf Γ O2 (fun z O3 => ∃ ws k, dv O3 x = some ws ∧ keyW y = some k ∧ Q ((lkW ws k).getD z) O3) E) E) E
theorem d_get2 (hu : X.A.units + 1 < cLine) (ho : PDE X Wx o to) (hi : PDE X Wx i ti) (hf : PDE X Wx f tf) (m : M2 X o "get" apos i f cpos) : PDE X Wx (.Call (.Attribute o "get" apos) [i, f] [] cpos) (dGet2 to ti tf) :=
  (pe_dget2 hu ho hi hf m).imp fun σ H Q ⟨Γ, O, S, ρ, Q', E', st, h, kq, kx⟩ => by
    refine ⟨Γ, O, S, ρ, _, E', st, h, fun w1 O1 S1 ρ1 v1 H1 x1 wd1 r1 ⟨h0, h1⟩ => ?_, kx⟩
    obtain ⟨ws0, e0⟩ := Option.isSome_iff_exists.mp h0
    obtain ⟨a0, kvs0, ea0, hd0, _⟩ := dv_inv wd1 e0 r1
    refine ⟨a0, ea0, .inl ⟨kvs0, .inl hd0⟩, ?_⟩
    refine ⟨Γ, O1, S1, ρ1, _, E', st.ext x1 wd1, h1, fun w2 O2 S2 ρ2 v2 H2 x2 wd2 r2 h2 => ?_, kx.ext x1⟩
    refine ⟨Γ, O2, S2, ρ2, _, E', st.ext (x1.trans x2) wd2, h2, fun w3 O3 S3 ρ3 v3 H3 x3 wd3 r3 ⟨ws, k, e1, e2, h3⟩ => ?_, kx.ext (x1.trans x2)⟩
    obtain ⟨a, kvs, ea, hd, rf⟩ := dv_inv wd3 e1 ((r1.ext x2).ext x3)
    rw [ea0] at ea
    cases ea
    have := keyW_inv e2 (r2.ext x3)
    subst this
    refine ⟨_, DGet.k hd, ?_⟩
    have xx := (x1.trans x2).trans x3
    cases hv : lkW ws k with
    | none =>
      rw [hv] at h3
      rw [rf.val.2 hv]
      exact kq _ O3 S3 ρ3 v3 H3 xx wd3 r3 h3
    | some w =>
      rw [hv] at h3
      obtain ⟨v, hv2, rv⟩ := rf.val.1 w hv
      rw [hv2]
      exact kq _ O3 S3 ρ3 v H3 xx wd3 rv h3
end
/-- {}, to be written -/
def dNewD : DE := fun _ O Q _ => Q (.o O.length) (O ++ [.dK []])
def fSortD : FC := fun ws O Q => ∃ x kws ks, ws = [x] ∧ dv O x = some kws ∧ kws.map (·.1) = ks.map Sum.inr ∧ ks.length < 64 ∧ ∀ ys : List Str, ys.Perm ks → sortedS ys = true → Q (.d (.list (ys.map .str))) O
section
variable {X : Cx} {Wx : WX}
theorem c_sortD (hc : X.calm = true) : CallD X (.builtin "sorted") fSortD := (call_sortedD hc).imp fun xs H Q ⟨ws, O, S, ρ, Q', wd, r, ⟨x, kws, ks, e, e1, e2, e3, q⟩, kq⟩ => by
  subst e
  cases r with
  | cons r rr =>
    cases rr
    obtain ⟨a, kvs, rfl, hd, rf⟩ := dv_inv wd e1 r
    refine ⟨a, kvs, ks, rfl, .inl hd, by rw [rf.keys, e2], e3, fun ys p h1 h2 np => ?_⟩
    have rl : ∀ ys : List Str, RelWs X.K S ρ O.length (ys.map V.str) ((ys.map PyData.str).map .d) := fun ys => by
      induction ys with
      | nil => exact .nil
      | cons y ys ih => exact .cons (.d (.str y)) ih
    exact kq.newL wd np (rl ys) (allD_map _) (q ys h1 h2)
end

/-! ### {}, d[k] = x, {k: x, ..} -/
section
variable {X : Cx} {Wx : WX} {o i value : Expr} {to ti tv : DE} {pos pos' : Pos}
theorem d_newD : PDE X Wx (.Dict [] [] pos) dNewD :=
  pe_dnewK.imp fun σ H Q ⟨Γ, O, S, ρ, Q', E', st, h, kq, kx⟩ p np => by
    obtain ⟨w1, x1⟩ := st.wd.push (u := .dK []) (ob := .dK []) np (.dK upd_same .nil)
    exact kq _ _ _ _ _ _ x1 w1 (.o (by simp) (by rw [rhoP_eq])) h
/-- d[k] = x, d a dict of our own -/
def dPut (to ti tv : DE) : DS := fun D Γ O => tv Γ O (fun v O1 => to Γ O1 (fun x O2 => ti Γ O2 (fun y O3 => ∃ m ws k, x = .o m ∧ O3[m]? = some (.dK ws) ∧ keyW y = some k ∧ ws.length < sizeLine ∧ D.nx Γ (O3.set m (.dK (ptW ws k v)))) fun x O' => D.ex x Γ O') fun x O' => D.ex x Γ O') fun x O' => D.ex x Γ O'
theorem s_dput (hu : X.A.units + 1 < cLine) (ho : PDE X Wx o to) (hi : PDE X Wx i ti) (hv : PDE X Wx value tv) (hs : swapsWith value (some (.Subscript o i pos')) pos.line X.env = pure false := by rfl) :
    PDS X Wx (.Assign [.Subscript o i pos'] value pos) (dPut to ti tv) :=
  (ps_dput hu ho hi hv hs).imp fun D σ H ⟨Γ, O, S, ρ, D', st, h, ks⟩ => by
    refine ⟨Γ, O, S, ρ, _, _, st, h, fun w1 O1 S1 ρ1 v1 H1 x1 wd1 r1 h1 => ?_, ks.kx st⟩
    refine ⟨Γ, O1, S1, ρ1, _, _, st.ext x1 wd1, h1, fun w2 O2 S2 ρ2 v2 H2 x2 wd2 r2 h2 => ?_, (ks.ext x1).kx (st.ext x1 wd1)⟩
    have x12 := x1.trans x2
    refine ⟨Γ, O2, S2, ρ2, _, _, st.ext x12 wd2, h2, fun w3 O3 S3 ρ3 v3 H3 x3 wd3 r3 ⟨m, ws, k, e1, e2, e3, hl, h3⟩ => ?_, (ks.ext x12).kx (st.ext x12 wd2)⟩
    subst e1
    have r2' := r2.ext x3
    cases r2' with
    | o hk z =>
      subst z
      have q := wd3.own m _ e2
      cases q with
      | @dK kvs _ hH rf =>
        have := keyW_inv e3 r3
        subst this
        have rv := (r1.ext x2).ext x3
        obtain ⟨w4, x4⟩ := wd3.write (u := .dK (putK kvs k v1)) (ob' := .dK (ptW ws k w1)) e2 (fun z => nomatch z) (.dK upd_same (rf.put rv))
        exact ⟨_, _, rfl, .inl ⟨kvs, k, hH, rfl, by rw [rf.len]; exact hl, rfl⟩, ks.nx Γ _ _ _ _ _ ((x12.trans x3).trans x4) (st.ext ((x12.trans x3).trans x4) w4) h3⟩
end
section
variable {K : PySem.W.Frag} {S : Hp} {ρ : Nat → Addr} {H : Hp} {O : List Ob}
theorem Wd.side {D : Addr} {u : HO} (wd : Wd K S ρ O H) (nD : H D = none) : Wd K S ρ O (upd H D u) ∧ Ext S ρ O.length H S ρ O.length (upd H D u) ∧ S D = none ∧ ∀ k, k < O.length → ρ k ≠ D := by
  have nS : S D = none := by
    cases e : S D with
    | none => rfl
    | some o => rw [wd.sub D o e] at nD; cases nD
  have ne : ∀ a o, H a = some o → a ≠ D := fun a o h z => by rw [z, nD] at h; cases h
  have nO : ∀ k, k < O.length → ρ k ≠ D := fun k hk z => by
    obtain ⟨o, q⟩ := wd.th k hk
    rw [z, nD] at q; cases q
  refine ⟨⟨fun a o h => by rw [upd_ne (ne a o (wd.sub a o h))]; exact wd.sub a o h, fun k ob e => (wd.own k ob e).at fun o q => by rw [upd_ne (nO k (Wd.lt e))]; exact q, wd.sep, wd.inj, fun k hk => ?_⟩,
    ⟨Nat.le_refl _, .refl _, fun _ _ => rfl, fun k h1 h2 => by omega, fun a o h => ⟨o, by rw [upd_ne (ne a o h)]; exact h⟩, fun a o h _ => by rw [upd_ne (ne a o h)]; exact h, fun a o h hs _ => hs⟩, nS, nO⟩
  obtain ⟨o, h⟩ := wd.th k hk
  exact ⟨o, by rw [upd_ne (nO k hk)]; exact h⟩
theorem Ext.away {S1 : Hp} {ρ1 : Nat → Addr} {n n1 : Nat} {H1 : Hp} {D : Addr} {u : HO} (x : Ext S ρ n H S1 ρ1 n1 H1) (hD : H D = some u) (nS : S D = none) (nO : ∀ k, k < n → ρ k ≠ D) : H1 D = some u ∧ S1 D = none ∧ ∀ k, k < n1 → ρ1 k ≠ D := by
  refine ⟨x.frame D _ hD nO, x.sfr D _ hD nS nO, fun k hk => ?_⟩
  by_cases hk2 : k < n
  · rw [x.rho k hk2]; exact nO k hk2
  · intro z
    have q := x.new k (Nat.le_of_not_lt hk2) hk
    rw [z, hD] at q; cases q
end
/-- pairs of data, the keys one after the other -/
def dPrs : List (DE × DE) → Gm → List Ob → (List (Key × PyData) → List Ob → Prop) → DX → Prop
  | [], _, O, Q, _ => Q [] O
  | (tk, tv) :: r, Γ, O, Q, E => tk Γ O (fun y O1 => tv Γ O1 (fun z O2 => ∃ k x, keyW y = some k ∧ z = .d x ∧ dPrs r Γ O2 (fun ps O3 => Q ((k, x) :: ps) O3) E) E) E
def dDisp (ds : List (DE × DE)) : DE := fun Γ O Q E => dPrs ds Γ O (fun ps O1 => ps.length ≤ 15 ∧ (ps.map (·.1)).Nodup ∧ ps ≠ [] ∧ Q (.d (.dict (ps.map fun p => (keyD p.1, p.2)))) O1) E
section
variable {X : Cx} {Wx : WX} {p : Addr} {σ : L2.St} {Γ : Gm} {E' : DX}
theorem prs_run : ∀ (ds : List (DE × DE)) (O1 : List Ob) (S1 : Hp) (ρ1 : Nat → Addr) (H1 : Hp) (R : List (Key × PyData) → List Ob → Prop) (Q2 : List (V × V) → Hp → Prop), At X.K S1 ρ1 H1 O1 σ Γ → H1 p = some (.dK []) → S1 p = none → (∀ k, k < O1.length → ρ1 k ≠ p) →
    dPrs ds Γ O1 R E' → KX X.K S1 ρ1 O1.length H1 σ E' Wx →
    (∀ ps O2 S2 ρ2 kvs H2, Ext S1 ρ1 O1.length H1 S2 ρ2 O2.length H2 → Wd X.K S2 ρ2 O2 H2 → H2 p = some (.dK []) → S2 p = none → (∀ k, k < O2.length → ρ2 k ≠ p) → RepK X.K S2 kvs (ps.map fun p => (keyD p.1, p.2)) → R ps O2 → kvs.map (·.1) = ps.map (·.1) → Q2 (kvs.map fun kv => (kV kv.1, kv.2)) H2) →
    tPairs (ds.map fun d => (iE X.K Wx d.1, iE X.K Wx d.2)) σ H1 Q2
  | [], O1, S1, ρ1, H1, R, Q2, st, hp, nS, nO, h, kx, k => k [] O1 S1 ρ1 [] H1 .refl st.wd hp nS nO .nil h rfl
  | (tk, tv) :: ds, O1, S1, ρ1, H1, R, Q2, st, hp, nS, nO, h, kx, k => by
    refine ⟨Γ, O1, S1, ρ1, _, E', st, h, fun w1 O2 S2 ρ2 v1 H2 x1 wd1 r1 h1 => ?_, kx⟩
    refine ⟨Γ, O2, S2, ρ2, _, E', st.ext x1 wd1, h1, fun w2 O3 S3 ρ3 v2 H3 x2 wd2 r2 ⟨ky, x, e1, e2, h2⟩ => ?_, kx.ext x1⟩
    subst e2
    have := keyW_inv e1 (r1.ext x2)
    subst this
    have x12 := x1.trans x2
    obtain ⟨hp3, nS3, nO3⟩ := x12.away hp nS nO
    refine prs_run ds O3 S3 ρ3 H3 _ _ (st.ext x12 wd2) hp3 nS3 nO3 h2 (kx.ext x12) fun ps O4 S4 ρ4 kvs H4 x3 wd4 hp4 nS4 nO4 rk hR hk => ?_
    have r2' := r2.ext x3
    cases r2' with
    | d rd => exact k ((ky, x) :: ps) O4 S4 ρ4 ((ky, v2) :: kvs) H4 (x12.trans x3) wd4 hp4 nS4 nO4 (.cons rd rk) hR (by rw [List.map_cons, List.map_cons, hk])
theorem putK_new {k : Key} {v : V} {l : List (Key × V)} (h : k ∉ l.map (·.1)) : putK l k v = l ++ [(k, v)] := by
  unfold putK
  rw [if_neg]
  intro z
  rw [List.any_eq_true] at z
  obtain ⟨kv, h1, h2⟩ := z
  exact h (List.mem_map.mpr ⟨kv, h1, of_decide_eq_true h2⟩)
theorem merge_nodup : ∀ (l acc : List (Key × V)), ((acc ++ l).map (·.1)).Nodup → mergeK acc l = acc ++ l
  | [], acc, _ => by rw [List.append_nil]; rfl
  | (k, v) :: l, acc, h => by
    have hk : k ∉ acc.map (·.1) := by
      rw [List.map_append, List.map_cons] at h
      intro z
      exact (List.nodup_append.mp h).2.2 k z k (List.mem_cons_self ..) rfl
    show mergeK (putK acc k v) l = _
    rw [putK_new hk, merge_nodup l (acc ++ [(k, v)]) (by rw [List.append_assoc]; exact h), List.append_assoc]
    rfl
theorem d_disp {pos : Pos} {keys : List (Option Expr)} {values : List Expr} {ds : List (DE × DE)} (h : PPs X pos keys values (ds.map fun d => (iE X.K Wx d.1, iE X.K Wx d.2))) (hall : keys.all (·.isSome) = true := by rfl) (hl : keys.length = values.length := by rfl) (h0 : keys ≠ [] := by simp)
    (h15 : keys.length ≤ 15 := by decide) : PDE X Wx (.Dict keys values pos) (dDisp ds) :=
  (pe_disp h hall hl h0 h15).imp fun σ H Q ⟨Γ, O, S, ρ, Q', E', st, h, kq, kx⟩ p np => by
    obtain ⟨wd1, x1, nS, nO⟩ := st.wd.side (u := .dK []) np
    refine prs_run ds O S ρ _ _ _ (st.ext x1 wd1) upd_same nS nO h (kx.ext x1) fun ps O2 S2 ρ2 kvs H2 x2 wd2 hp2 nS2 nO2 rk ⟨hl, hn, hne, q⟩ hk => ?_
    have hkl : kvs.length = ps.length := by
      have := congrArg List.length hk
      rw [List.length_map, List.length_map] at this
      exact this
    refine ⟨hp2, kvs, rfl, by omega, ?_⟩
    have em : mergeK [] kvs = kvs := merge_nodup kvs [] (by rw [List.nil_append, hk]; exact hn)
    rw [em]
    have nSp : ∀ a o, S a = some o → a ≠ p := fun a o e z => by
      have := st.wd.sub a o e
      rw [z, np] at this; cases this
    have nHp : ∀ a o, H a = some o → a ≠ p := fun a o e z => by rw [z, np] at e; cases e
    have x12 := x1.trans x2
    have wd3 : Wd X.K (upd S2 p (.dK kvs)) ρ2 O2 (upd H2 p (.dK kvs)) := by
      refine ⟨fun a o e => ?_, fun k ob e => ?_, fun k ob e hd => ?_, wd2.inj, fun k hk => ?_⟩
      · by_cases z : a = p
        · rw [z, upd_same] at e ⊢; exact e
        · rw [upd_ne z] at e ⊢; exact wd2.sub a o e
      · refine ((wd2.own k ob e).at fun o q => by rw [upd_ne (nO2 k (Wd.lt e))]; exact q).mono (fun a o h => ?_) (fun _ _ => rfl) (Nat.le_refl _)
        rw [upd_ne (fun z => by rw [z, nS2] at h; cases h)]; exact h
      · rw [upd_ne (nO2 k (Wd.lt e))]; exact wd2.sep k ob e hd
      · obtain ⟨o, h⟩ := wd2.th k hk
        exact ⟨o, by rw [upd_ne (nO2 k hk)]; exact h⟩
    have sub2 : SubH S2 (upd S2 p (.dK kvs)) := fun a o e => by
      rw [upd_ne (fun z => by rw [z, nS2] at e; cases e)]; exact e
    have x3 : Ext S ρ O.length H (upd S2 p (.dK kvs)) ρ2 O2.length (upd H2 p (.dK kvs)) :=
      ⟨x12.le, x12.sub.trans sub2, x12.rho, x12.new, fun a o e => by
        obtain ⟨o', e'⟩ := x12.dom a o e
        exact ⟨o', by rw [upd_ne (nHp a o e)]; exact e'⟩, fun a o e hk => by rw [upd_ne (nHp a o e)]; exact x12.frame a o e hk, fun a o e h1 h2 => by rw [upd_ne (nHp a o e)]; exact x12.sfr a o e h1 h2⟩
    have rk3 : RepK X.K (upd S2 p (.dK kvs)) kvs (ps.map fun p => (keyD p.1, p.2)) := rk.sub sub2
    exact kq _ O2 _ ρ2 _ _ x3 wd3 (.d (.dK upd_same rk3)) q
end
end UZ
/-! UZ, part C: calls of a function out of a list of functions. -/
namespace UZ
open PySem PySem.Spec PyProof.Rows L2
section
variable {X : Cx} {Wx : WX} {e L i : Expr} {es : List Expr} {tf : DE} {u : DA} {x : Str} {p q pos : Pos}
/-- a def of the module as a value -/
def dGl (x : Str) : DE := fun _ O Q _ => Q (.gl x) O
theorem d_gl {f : Addr} (hm : X.mg x = some (.ref f)) (hc : ClsN X.K x f) (hg : Gl X x := by rfl) (hd : (x == ("__debug__" : Str)) = false := by decide) : PDE X Wx (.Name x pos) (dGl x) :=
  (pe_glob hg hm (v := .ref f) rfl hd).imp fun σ H Q ⟨Γ, O, S, ρ, Q', E', st, h, kq, kx⟩ => kq _ O S ρ _ H .refl st.wd (.gl hc) h
/-- the defs that a value may name, with their promises -/
def Fns (P : Program) (w : World) (K : PySem.W.Frag) (mg : Str → Option Value) (base : Heap) (k : Nat) : List (Str × DSp) → Prop
  | [] => True
  | (x, sp) :: r => (∃ ps, FnD P w K mg base x k ps sp) ∧ Fns P w K mg base k r
theorem Fns.get {P : Program} {w : World} {K : PySem.W.Frag} {mg : Str → Option Value} {base : Heap} {k : Nat} {x : Str} {sp : DSp} : ∀ {l : List (Str × DSp)}, Fns P w K mg base k l → l.lookup x = some sp → ∃ ps, FnD P w K mg base x k ps sp
  | [], _, h => by cases h
  | (y, s) :: l, ⟨h1, h2⟩, h => by
    rw [List.lookup_cons] at h
    cases hb : (x == y) with
    | true =>
      rw [hb] at h
      cases h
      rw [eq_of_beq hb]; exact h1
    | false =>
      rw [hb] at h
      exact Fns.get h2 h
/-- f(e, ..), f a value that names a def -/
def dCallE (fs : List (Str × DSp)) (tf : DE) (u : DA) : DE := fun Γ O Q E => tf Γ O (fun w O1 => match w with
  | .gl x => match fs.lookup x with
    | some sp => u Γ O1 (fun ws O2 => sp ws O2 Q E) E
    | none => False
  | _ => False) E
theorem d_callE {k : Nat} {fs : List (Str × DSp)} (bx : Bx X Wx) (F : Fns X.prog X.w X.K X.mg X.base k fs) (hr : Room k X.A) (hf : PDE X Wx (.Subscript L i q) tf) (ha : PDA X Wx (e :: es) u)
    (hcall : eval (.Call (.Subscript L i q) (e :: es) [] pos) X.env = (do let fv ← eval (.Subscript L i q) X.env; callWith pos fv [] (backTo pos (starEach (e :: es) X.env)) (backToKw pos (keywordEach [] X.env))) := by rfl)
    (he : starEach (e :: es) X.env = (false, eval e X.env) :: starEach es X.env := by rfl) (hpl : (backTo pos (starEach es X.env)).any (·.1) = false := by rfl) : PDE X Wx (.Call (.Subscript L i q) (e :: es) [] pos) (dCallE fs tf u) := by
  refine ⟨fun pins s σ H Q I ⟨Γ, O, S, ρ, Q', E', st, h, kq, kx⟩ => ?_⟩
  rw [hcall]
  refine wpAny_bind (thn (hf.run pins s σ H _ I ⟨Γ, O, S, ρ, _, E', st, h, fun w1 O1 S1 ρ1 v1 H1 x1 wd1 r1 h1 => (⟨w1, O1, S1, ρ1, x1, wd1, r1, h1⟩ : ∃ w1 O1 S1 ρ1, Ext S ρ O.length H S1 ρ1 O1.length H1 ∧ Wd X.K S1 ρ1 O1 H1 ∧ RelW X.K S1 ρ1 O1.length v1 w1 ∧ (match w1 with
  | .gl x => match fs.lookup x with
    | some sp => u Γ O1 (fun ws O2 => sp ws O2 Q' E') E'
    | none => False
  | _ => False)), kx⟩) fun fv s1 ⟨v1, H1, I1, rv, w1, O1, S1, ρ1, x1, wd1, r1, h1⟩ => ?_)
  split at h1
  · rename_i x
    split at h1
    · rename_i sp hl
      cases r1 with
      | @gl _ f hc =>
        obtain rfl : fv = Value.ref f := rv
        obtain ⟨ps, FF⟩ := Fns.get F hl
        obtain ⟨f2, fd, FO, gm, kp, b⟩ := FF.ex
        have hm := PySem.W.mg_of I.ok.mod.kin I.ok.mod.glob hc
        rw [gm] at hm
        cases hm
        refine PySem.W.callWith_K (h₀ := X.base) I.ok.mod.kin kp (thn (ha.run pos pins s1 σ H1 _ I1 ⟨Γ, O1, S1, ρ1, _, E', st.ext x1 wd1, h1, fun ws O2 S2 ρ2 vs H2 x2 wd2 r2 h2 => (⟨ws, O2, S2, ρ2, x2, wd2, r2, h2⟩ : ∃ ws O2 S2 ρ2, Ext S1 ρ1 O1.length H1 S2 ρ2 O2.length H2 ∧ Wd X.K S2 ρ2 O2 H2 ∧ RelWs X.K S2 ρ2 O2.length vs ws ∧ sp ws O2 Q' E'), kx.ext x1⟩) fun us s2 ⟨vs, H2, I2, r, ws, O2, S2, ρ2, x2, wd2, r2, h2⟩ => ⟨I2.kIn, ?_⟩) he hpl
        refine run_fnS (E := WE Wx) FO hr b (passAt bx.tk σ) I2 r ?_
        exact ⟨ws, O2, S2, ρ2, Q', E', wd2, r2, h2, kq.ext (x1.trans x2), fun y O3 S3 ρ3 c d H3 x3 wd3 r3 q3 => kx y O3 S3 ρ3 c d H3 ((x1.trans x2).trans x3) wd3 r3 q3⟩
    · exact h1.elim
  · exact h1.elim
end
end UZ
namespace UZ
open PySem L2
theorem hu_d {X : Cx} {k : Nat} (hr : Room k X.A) : X.A.units + 1 < cLine := by have := hr.units; omega
theorem sub_one {x nm : Str} (h : ([(x, true)] : List (Str × Bool)).lookup nm = some true) : nm = x := by
  rw [List.lookup_cons] at h
  cases hb : (nm == x) with
  | true => exact eq_of_beq hb
  | false => rw [hb] at h; cases h
end UZ
/-! UZ, part Y: stepping through exceptions, dicts, calls out of lists. -/
namespace UZ
open PySem PySem.Spec PyProof.Rows PySem.W L2
section
variable {D : DEnds} {Γ : Gm} {O : List Ob} {t : DE} {Q : DQ} {E : DX}
theorem x_raise {x : Str} {fs : List Str} {u : DA} (h : u Γ O (fun ws O1 => ∃ xs, allD ws = some xs ∧ xs.length = fs.length ∧ fs.length ≤ 1000 ∧ (∀ y ∈ xs, okP y) ∧ D.ex (.fld x (fs.zip xs).reverse) Γ O1) fun y O' => D.ex y Γ O') : dRaise x fs u D Γ O := h
theorem x_raise0 {x : Str} (h : D.ex (.plain x) Γ O) : dRaise0 x D Γ O := h
theorem x_fex {x : Xc} (h : E x O) : (endsD O Q E).ex x Γ O := .inl h
def trAs (sub : List (Str × Bool)) (i : Nat) (th : Addr → Addr → DS) (D : DEnds) : Xc → Gm → List Ob → Prop := fun x Γ1 O1 => match sub.lookup (xName x) with
  | some true => match x with
    | .fld _ fs => ∀ a d, th a d (hEnds D i) (Γ1.set i (some (.exc a d fs))) O1
    | .plain _ => False
  | some false => D.ex x Γ1 O1
  | none => False
theorem x_tryAs {sub : List (Str × Bool)} {i : Nat} {tb : DS} {th : Addr → Addr → DS} (h : tb { D with ex := trAs sub i th D } Γ O) : dTryAs sub i tb th D Γ O := h
theorem x_caught {sub : List (Str × Bool)} {i : Nat} {th : Addr → Addr → DS} {nm : Str} {fs : List (Str × PyData)} (e : sub.lookup nm = some true) (h : ∀ a d, th a d (hEnds D i) (Γ.set i (some (.exc a d fs))) O) : trAs sub i th D (.fld nm fs) Γ O := by
  unfold trAs
  rw [show xName (.fld nm fs) = nm from rfl, e]
  exact h
def trNo (sub : List (Str × Bool)) (th : DS) (D : DEnds) : Xc → Gm → List Ob → Prop := fun x Γ1 O1 => match sub.lookup (xName x) with
  | some true => th { D with ex := fun _ _ _ => False } Γ1 O1
  | some false => D.ex x Γ1 O1
  | none => False
theorem x_try {sub : List (Str × Bool)} {tb th : DS} (h : tb { D with ex := trNo sub th D } Γ O) : dTry sub tb th D Γ O := h
theorem x_caught0 {sub : List (Str × Bool)} {th : DS} {x : Xc} (e : sub.lookup (xName x) = some true) (h : th { D with ex := fun _ _ _ => False } Γ O) : trNo sub th D x Γ O := by
  unfold trNo
  rw [e]
  exact h
theorem x_xf {a d : Addr} {f : Str} (h : t Γ O (fun w O1 => match w with
  | .exc a' d' fs => a' = a ∧ d' = d ∧ ∃ y, fs.lookup f = some y ∧ Q (.d y) O1
  | _ => False) E) : dXf a d f t Γ O Q E := h
theorem x_gl {x : Str} (h : Q (.gl x) O) : dGl x Γ O Q E := h
def kGl (fs : List (Str × DSp)) (u : DA) (Γ : Gm) (Q : DQ) (E : DX) : DQ := fun w O1 => match w with
  | .gl x => match fs.lookup x with
    | some sp => u Γ O1 (fun ws O2 => sp ws O2 Q E) E
    | none => False
  | _ => False
theorem x_callE {fs : List (Str × DSp)} {u : DA} (h : t Γ O (kGl fs u Γ Q E) E) : dCallE fs t u Γ O Q E := h
theorem x_kGl {fs : List (Str × DSp)} {u : DA} {x : Str} {sp : DSp} (e : fs.lookup x = some sp) (h : u Γ O (fun ws O2 => sp ws O2 Q E) E) : kGl fs u Γ Q E (.gl x) O := by
  show (match fs.lookup x with | some sp => u Γ O (fun ws O2 => sp ws O2 Q E) E | none => False)
  rw [e]; exact h
theorem x_newD (h : Q (.o O.length) (O ++ [.dK []])) : dNewD Γ O Q E := h
theorem x_dget {ti : DE} (h : t Γ O (fun x O1 => ti Γ O1 (fun y O2 => ∃ ws k w, dv O2 x = some ws ∧ keyW y = some k ∧ lkW ws k = some w ∧ Q w O2) E) E) : dDG t ti Γ O Q E := h
theorem x_get2 {ti tf : DE} (h : t Γ O (fun x O1 => (dv O1 x).isSome = true ∧ ti Γ O1 (fun y O2 => tf Γ O2 (fun z O3 => ∃ ws k, dv O3 x = some ws ∧ keyW y = some k ∧ Q ((lkW ws k).getD z) O3) E) E) E) : dGet2 t ti tf Γ O Q E := h
theorem x_put {ti tv : DE} (h : tv Γ O (fun v O1 => t Γ O1 (fun x O2 => ti Γ O2 (fun y O3 => ∃ m ws k, x = .o m ∧ O3[m]? = some (.dK ws) ∧ keyW y = some k ∧ ws.length < sizeLine ∧ D.nx Γ (O3.set m (.dK (ptW ws k v)))) fun x O' => D.ex x Γ O') fun x O' => D.ex x Γ O') fun x O' => D.ex x Γ O') : dPut t ti tv D Γ O := h
theorem x_disp {ds : List (DE × DE)} (h : dPrs ds Γ O (fun ps O1 => ps.length ≤ 15 ∧ (ps.map (·.1)).Nodup ∧ ps ≠ [] ∧ Q (.d (.dict (ps.map fun p => (keyD p.1, p.2)))) O1) E) : dDisp ds Γ O Q E := h
theorem x_prs {tk tv : DE} {r : List (DE × DE)} {R : List (Key × PyData) → List Ob → Prop} (h : tk Γ O (fun y O1 => tv Γ O1 (fun z O2 => ∃ k x, keyW y = some k ∧ z = .d x ∧ dPrs r Γ O2 (fun ps O3 => R ((k, x) :: ps) O3) E) E) E) : dPrs ((tk, tv) :: r) Γ O R E := h
theorem x_prn {R : List (Key × PyData) → List Ob → Prop} (h : R [] O) : dPrs [] Γ O R E := h
theorem dv_o {k : Nat} {ws : List (Key × W)} (e : O[k]? = some (.dK ws)) : dv O (.o k) = some ws := by
  show (match O[k]? with | some (.dK ws) => some ws | _ => none) = some ws
  rw [e]
theorem x_sortD {x : W} {kws : List (Key × W)} {ks : List Str} (e : dv O x = some kws) (hk : kws.map (·.1) = ks.map Sum.inr) (hl : ks.length < 64) (h : ∀ ys : List Str, ys.Perm ks → sortedS ys = true → Q (.d (.list (ys.map .str))) O) : fSortD [x] O Q := ⟨x, kws, ks, rfl, e, hk, hl, h⟩
theorem x_repL {xs : List PyData} {n : Nat} (h1 : n ≤ 1000) (h2 : xs.length ≤ 1000) (h : Q (.d (.list (List.replicate n xs).flatten)) O) : fRepL (.d (.list xs)) (.d (.int n)) O Q := by
  refine ⟨_, _, _, rfl, rfl, by omega, by omega, ?_, ?_, h⟩
  · rw [List.length_map, show ((n : Int)).toNat = n from rfl]
    exact Nat.le_trans (Nat.mul_le_mul h2 h1) (by decide)
  · rw [show ((n : Int)).toNat = n from rfl, ← List.map_replicate, ← List.map_flatten, allD_map]
theorem x_abs {i : Int} (h : Q (.d (.int i.natAbs)) O) : fAbs [.d (.int i)] O Q := by
  show Q (.d (.int (if i < 0 then -i else i))) O
  rw [show (if i < 0 then -i else i) = (i.natAbs : Int) by split <;> omega]
  exact h
end
end UZ
/-! UZ, part W: facts about own exception classes, as checks. -/
namespace UZ
open PySem PySem.Spec PyProof.Rows L2 PySem.W
def oexB (K : PySem.W.Frag) (C : Addr) : Bool := match K.lookup C with
  | some ⟨.type "type", _, .cls cd, sl⟩ => (match cd.mro, sl.toList with
    | .ref C' :: bm, [_, _, _, _, some (.builtin n), _] => C' == C && (n == "ValueError.__new__" && (!cd.hasDel && (cd.hasDict && PySem.HandSPX.refsVE bm)))
    | _, _ => false)
  | _ => false
theorem oexB_ok {K : PySem.W.Frag} {C : Addr} (q : oexB K C = true) : ∃ nm q N bs bm sn sub ab col dd k0 k1 k2 k3 k5, K.lookup C = some (excClassObj nm q C N bs bm true sn sub ab col dd k0 k1 k2 k3 k5 "ValueError.__new__") ∧ PySem.HandSPX.refsVE bm = true := by
  unfold oexB at q
  split at q
  · rename_i dd cd sl ho
    split at q
    · rename_i C' bm k0 k1 k2 k3 n k5 hm hs
      simp only [Bool.and_eq_true, beq_iff_eq, Bool.not_eq_true'] at q
      obtain ⟨rfl, rfl, hdel, hdict, ht⟩ := q
      obtain ⟨nm, bs, mro, ns, qn, hd, sn, sub, ab, col, del⟩ := cd
      dsimp only at hm hdel hdict
      subst hm hdel hdict
      have hsl : sl = #[k0, k1, k2, k3, some (.builtin "ValueError.__new__"), k5] := by
        obtain ⟨l⟩ := sl
        simp only at hs
        rw [hs]
      subst hsl
      exact ⟨nm, qn, ns, bs, bm, sn, sub, ab, col, dd, k0, k1, k2, k3, k5, ho, ht⟩
    · cases q
  · cases q
def fileB (K : PySem.W.Frag) (P : Program) (cd : Value) : Bool := match cd with
  | .ref a => (match K.lookup a with
    | some ⟨_, _, .fields vs, _⟩ => (match (vs[2]? : Option Value) with
      | some (.str file _) => (P.main.file : Str) == file
      | _ => false)
    | _ => false)
  | _ => false
theorem fileB_ok {K : PySem.W.Frag} {P : Program} {cd : Value} (q : fileB K P cd = true) : ∃ (a : Addr) (oc : Value) (od : Option Addr) (vs : Array Value) (sl : Array (Option Value)) (file : Str) (tf : Tok), cd = .ref a ∧ K.lookup a = some ⟨oc, od, .fields vs, sl⟩ ∧ vs[2]? = some (.str file tf) ∧ ((P.main.file : Str) == file) = true := by
  unfold fileB at q
  split at q
  · split at q
    · rename_i h
      split at q
      · rename_i h2
        exact ⟨_, _, _, _, _, _, _, rfl, h, h2, q⟩
      · cases q
    · cases q
  · cases q
def cellB (K : PySem.W.Frag) (cc C : Addr) : Bool := match K.lookup cc with
  | some ⟨_, _, .cell (some (.ref C')), _⟩ => C' == C
  | _ => false
theorem cellB_ok {K : PySem.W.Frag} {cc C : Addr} (q : cellB K cc C = true) : ∃ (oc : Value) (od : Option Addr) (sl : Array (Option Value)), K.lookup cc = some ⟨oc, od, .cell (some (.ref C)), sl⟩ := by
  unfold cellB at q
  split at q
  · rename_i h
    have := eq_of_beq q
    subst this
    exact ⟨_, _, _, h⟩
  · cases q
/-- all that is asked of a class, in one check -/
def exB (K : PySem.W.Frag) (P : Program) (C f cc : Addr) (cd : Value) (fs : List Str) : Bool :=
  oexB K C && (decide (PySem.W.findIn K (.ref C) "__setattr__" = some (some (.builtin "object.__setattr__"))) && (decide (PySem.W.subIn K (.ref C) (.type "BaseException") = some true) && (decide (PySem.W.typeIn K (.ref C) = some (.type "type")) && (PySem.W.keepIn K (.ref C) &&
  (fileB K P cd && (cellB K cc C && (decide (PySem.W.mroIn K C (.ref C) = some true) && (decide (PySem.W.nsIn K cStatics "thirdparty.any" = some none) && (decide (PySem.W.ks_superIn K C C "__init__" = some (some (.builtin "ValueError.__init__"))) &&
  (decide (PySem.W.subIn K (.ref C) (.type "ValueError") = some true) && (decide (PySem.W.nsIn K mainGlobals "super" = some none) && (!(P.main.scope.names.lookup ("super" : Str)).isSome && (decide (PySem.W.findIn K (.ref C) "__init__" = some (some (.ref f))) &&
  (decide (PySem.W.typeIn K (.ref f) = some (.type "function")) && (xfB K C && fs.all fun g => decide (PySem.W.findIn K (.ref C) g = some none))))))))))))))))
structure ExOk (K : PySem.W.Frag) (P : Program) (C f cc : Addr) (cd : Value) (fs : List Str) : Prop where
  sup : SupC P K C f cc cd
  ini : PySem.W.findIn K (.ref C) "__init__" = some (some (.ref f))
  ty : PySem.W.typeIn K (.ref f) = some (.type "function")
  xf : XfC K C
  no : ∀ g ∈ fs, PySem.W.findIn K (.ref C) g = some none
theorem exB_ok {K : PySem.W.Frag} {P : Program} {C f cc : Addr} {cd : Value} {fs : List Str} (h : exB K P C f cc cd fs = true) : ExOk K P C f cc cd fs := by
  unfold exB at h
  simp only [Bool.and_eq_true, decide_eq_true_eq, Bool.not_eq_true', List.all_eq_true] at h
  obtain ⟨h1, h2, h3, h4, h5, h6, h7, h8, h9, h10, h11, h12, h13, h14, h15, h16, h17⟩ := h
  exact ⟨⟨⟨oexB_ok h1, h2, h3, h4, h5⟩, fileB_ok h6, cellB_ok h7, h8, h9, h10, h11, h12, h13⟩, h14, h15, xfB_ok h16, h17⟩
/-- the initialiser within a class -/
def clsDef (st : Stmt) (i : Nat) : Stmt := match st with
  | .ClassDef (body := b) .. => b.getD i (.Pass ⟨0, 0, 0, 0⟩)
  | _ => .Pass ⟨0, 0, 0, 0⟩
end UZ
/-! Words over letters with inverses: free reduction. -/
namespace FG
section
variable {α : Type} [DecidableEq α] (inv : α → α)
def push (st : List α) (p : α) : List α := match st with
  | [] => [p]
  | q :: r => if q = inv p then r else p :: q :: r
def act (st : List α) (l : List α) : List α := l.foldl (push inv) st
def short (l : List α) : List α := (act inv [] l).reverse
def opp (l : List α) : List α := (l.map inv).reverse
/-- no two neighbours cancel (read either way, the map being its own inverse) -/
def Red : List α → Prop
  | [] => True
  | [_] => True
  | p :: q :: r => q ≠ inv p ∧ Red (q :: r)
variable {inv} (hi : ∀ p, inv (inv p) = p)
theorem act_nil (st : List α) : act inv st [] = st := rfl
theorem act_cons (st : List α) (p : α) (l : List α) : act inv st (p :: l) = act inv (push inv st p) l := rfl
theorem act_app (st a b : List α) : act inv st (a ++ b) = act inv (act inv st a) b := List.foldl_append
theorem act_snoc (st a : List α) (p : α) : act inv st (a ++ [p]) = push inv (act inv st a) p := by rw [act_app]; rfl
theorem Red.tail {p : α} {l : List α} (h : Red inv (p :: l)) : Red inv l := by
  cases l with
  | nil => trivial
  | cons q r => exact h.2
include hi in
theorem push_red {st : List α} (p : α) (h : Red inv st) : Red inv (push inv st p) := by
  cases st with
  | nil => trivial
  | cons q r =>
    unfold push
    dsimp only
    split
    · exact h.tail
    · rename_i hn
      exact ⟨hn, h⟩
include hi in
theorem act_red {st : List α} (l : List α) (h : Red inv st) : Red inv (act inv st l) := by
  induction l generalizing st with
  | nil => exact h
  | cons p l ih => exact ih (push_red hi p h)
include hi in
theorem push_push {st : List α} (p : α) (h : Red inv st) : push inv (push inv st p) (inv p) = st := by
  cases st with
  | nil => simp [push, hi]
  | cons q r =>
    by_cases e : q = inv p
    · have : push inv (q :: r) p = r := by unfold push; dsimp only; rw [if_pos e]
      rw [this]
      cases r with
      | nil => rw [e]; rfl
      | cons s r =>
        have hs : s ≠ inv q := h.1
        unfold push
        dsimp only
        rw [hi, if_neg (by rw [e, hi] at hs; exact hs), e]
    · have : push inv (q :: r) p = p :: q :: r := by unfold push; dsimp only; rw [if_neg e]
      rw [this]
      unfold push
      dsimp only
      rw [hi, if_pos rfl]
include hi in
theorem push_push' {st : List α} (p : α) (h : Red inv st) : push inv (push inv st (inv p)) p = st := by
  have := push_push hi (inv p) h
  rwa [hi] at this
variable (inv) in
def Eqv (a b : List α) : Prop := ∀ st, Red inv st → act inv st a = act inv st b
theorem Eqv.refl (a : List α) : Eqv inv a a := fun _ _ => rfl
theorem Eqv.symm {a b : List α} (h : Eqv inv a b) : Eqv inv b a := fun st r => (h st r).symm
theorem Eqv.trans {a b c : List α} (h : Eqv inv a b) (g : Eqv inv b c) : Eqv inv a c := fun st r => (h st r).trans (g st r)
include hi in
theorem Eqv.app {a b c d : List α} (h : Eqv inv a b) (g : Eqv inv c d) : Eqv inv (a ++ c) (b ++ d) := fun st r => by
  rw [act_app, act_app, h st r]
  exact g _ (act_red hi b r)
theorem Eqv.short {a b : List α} (h : Eqv inv a b) : short inv a = short inv b := by unfold FG.short; rw [h [] trivial]
theorem opp_app (a b : List α) : opp inv (a ++ b) = opp inv b ++ opp inv a := by unfold opp; rw [List.map_append, List.reverse_append]
include hi in
theorem opp_opp (a : List α) : opp inv (opp inv a) = a := by
  unfold opp
  rw [← List.map_reverse, List.reverse_reverse, List.map_map]
  have : (inv ∘ inv) = id := funext hi
  rw [this, List.map_id]
theorem opp_len (a : List α) : (opp inv a).length = a.length := by unfold opp; rw [List.length_reverse, List.length_map]
include hi in
theorem eqv_cancel (a : List α) : Eqv inv (a ++ opp inv a) [] := by
  induction a with
  | nil => exact .refl _
  | cons p a ih =>
    intro st r
    rw [show p :: a ++ opp inv (p :: a) = [p] ++ ((a ++ opp inv a) ++ [inv p]) by unfold opp; simp]
    rw [act_app, act_snoc, ih _ (act_red hi [p] r)]
    exact push_push hi p r
include hi in
theorem eqv_cancel' (a : List α) : Eqv inv (opp inv a ++ a) [] := by
  have := eqv_cancel hi (opp inv a)
  rwa [opp_opp hi] at this
include hi in
theorem eqv_short (l : List α) : Eqv inv (short inv l) l := by
  unfold FG.short
  intro st r
  have main : ∀ n (l : List α), l.length = n → act inv st (act inv [] l).reverse = act inv st l := by
    intro n
    induction n with
    | zero => intro l e; rw [List.eq_nil_of_length_eq_zero e]; rfl
    | succ n ih =>
      intro l e
      obtain ⟨a, p, rfl⟩ : ∃ a p, l = a ++ [p] := ⟨l.dropLast, l.getLast (by intro z; rw [z] at e; cases e), (List.dropLast_concat_getLast _).symm⟩
      have ha : a.length = n := by rw [List.length_append, List.length_singleton] at e; omega
      have h := ih a ha
      rw [act_snoc, act_snoc, ← h]
      have rs : Red inv (act inv [] a) := act_red hi a trivial
      cases hs : act inv [] a with
      | nil => rfl
      | cons q s =>
        unfold push
        dsimp only
        split
        · rename_i eq
          rw [List.reverse_cons, act_snoc, eq]
          exact (push_push' hi p (act_red hi _ r)).symm
        · rw [List.reverse_cons, act_snoc]
          rfl
  exact main _ l rfl
include hi in
theorem short_short (l : List α) : short inv (short inv l) = short inv l := (eqv_short hi l).short
include hi in
theorem act_of_red (l st : List α) (h : Red inv (st.reverse ++ l)) : act inv st l = l.reverse ++ st := by
  induction l generalizing st with
  | nil => rfl
  | cons p l ih =>
    rw [act_cons]
    have e : push inv st p = p :: st := by
      cases st with
      | nil => rfl
      | cons q r =>
        have hq : q ≠ inv p := by
          rw [List.reverse_cons, List.append_assoc] at h
          have : ∀ s : List α, Red inv (s ++ ([q] ++ p :: l)) → p ≠ inv q := by
            intro s
            induction s with
            | nil => exact fun h => h.1
            | cons x s ih2 => exact fun h => ih2 (Red.tail h)
          have h2 := this _ h
          intro z
          exact h2 (by rw [z, hi])
        unfold push
        dsimp only
        rw [if_neg hq]
    rw [e, ih (p :: st) (by rw [List.reverse_cons, List.append_assoc]; exact h), List.reverse_cons, List.append_assoc]
    rfl
include hi in
theorem short_of_red {l : List α} (h : Red inv l) : short inv l = l := by
  unfold FG.short
  rw [act_of_red hi l [] h, List.append_nil, List.reverse_reverse]
theorem Red.app1 {a b : List α} (h : Red inv (a ++ b)) : Red inv a := by
  induction a with
  | nil => trivial
  | cons p a ih =>
    cases a with
    | nil => trivial
    | cons q r => exact ⟨h.1, ih h.2⟩
theorem Red.app2 {a b : List α} (h : Red inv (a ++ b)) : Red inv b := by
  induction a with
  | nil => exact h
  | cons p a ih => exact ih h.tail
/-- one more at the end -/
theorem Red.snoc {a : List α} {p q : α} (h : Red inv (a ++ [p])) (hq : q ≠ inv p) : Red inv (a ++ [p, q]) := by
  induction a with
  | nil => exact ⟨hq, trivial⟩
  | cons x a ih =>
    cases a with
    | nil => exact ⟨h.1, hq, trivial⟩
    | cons y r => exact ⟨h.1, ih h.2⟩
theorem short_len (l : List α) : (short inv l).length ≤ l.length := by
  unfold FG.short
  rw [List.length_reverse]
  have : ∀ (l st : List α), (act inv st l).length ≤ st.length + l.length := by
    intro l
    induction l with
    | nil => intro st; exact Nat.le_refl _
    | cons p l ih =>
      intro st
      refine Nat.le_trans (ih _) ?_
      have : (push inv st p).length ≤ st.length + 1 := by
        unfold push
        split
        · simp
        · split <;> simp <;> omega
      rw [List.length_cons]; omega
  simpa using this l []
theorem short_mem {l : List α} {x : α} (h : x ∈ short inv l) : x ∈ l := by
  unfold FG.short at h
  rw [List.mem_reverse] at h
  have : ∀ (l st : List α), x ∈ act inv st l → x ∈ st ∨ x ∈ l := by
    intro l
    induction l with
    | nil => intro st h; exact .inl h
    | cons p l ih =>
      intro st h
      rcases ih _ h with h | h
      · unfold push at h
        split at h
        · rw [List.mem_singleton] at h; exact .inr (h ▸ List.mem_cons_self ..)
        · split at h
          · exact .inl (List.mem_cons_of_mem _ h)
          · rcases List.mem_cons.mp h with h | h
            · exact .inr (h ▸ List.mem_cons_self ..)
            · exact .inl h
      · exact .inr (List.mem_cons_of_mem _ h)
  rcases this l [] h with h | h
  · cases h
  · exact h

/-! ### the core of a word -/
variable (inv) in
/-- the k-th letter meets the k-th from behind, and they cancel -/
def meets (l : List α) (k : Nat) : Bool := decide (2 * k + 1 < l.length) && decide (l[k]? = (l[l.length - 1 - k]?).map inv)
variable (inv) in
def coreGo (l : List α) : Nat → Nat → Nat
  | 0, k => k
  | n + 1, k => if meets inv l k = true then coreGo l n (k + 1) else k
variable (inv) in
def coreK (l : List α) : Nat := coreGo inv l l.length 0
def around (k : Nat) (l : List α) : List α := l.take k
def middle (k : Nat) (l : List α) : List α := (l.drop k).take (l.length - 2 * k)
theorem coreK_eq {l : List α} {k : Nat} (h : ∀ j, j < k → meets inv l j = true) (hk : meets inv l k = false) : coreK inv l = k := by
  unfold coreK
  have hl : k ≤ l.length := by
    cases k with
    | zero => exact Nat.zero_le _
    | succ k =>
      have := h k (Nat.lt_succ_self _)
      unfold meets at this
      rw [Bool.and_eq_true] at this
      have := of_decide_eq_true this.1
      omega
  have : ∀ n j, j ≤ k → k ≤ j + n → coreGo inv l n j = k := by
    intro n
    induction n with
    | zero => intro j h1 h2; show j = k; omega
    | succ n ih =>
      intro j h1 h2
      show (if meets inv l j = true then coreGo inv l n (j + 1) else j) = k
      by_cases e : j = k
      · rw [e, hk]; rfl
      · rw [if_pos (h j (by omega))]
        exact ih _ (by omega) (by omega)
  exact this _ _ (Nat.zero_le _) (by omega)
theorem coreK_all {l : List α} : ∀ j, j < coreK inv l → meets inv l j = true := by
  unfold coreK
  have : ∀ n i, ∀ j, i ≤ j → j < coreGo inv l n i → meets inv l j = true := by
    intro n
    induction n with
    | zero => intro i j h1 h2; exact absurd h2 (by show ¬ j < i; omega)
    | succ n ih =>
      intro i j h1 h2
      change j < (if meets inv l i = true then coreGo inv l n (i + 1) else i) at h2
      split at h2
      · rename_i e
        by_cases hj : j = i
        · rw [hj]; exact e
        · exact ih (i + 1) j (by omega) h2
      · omega
  exact fun j h => this _ 0 j (Nat.zero_le _) h
theorem coreK_two {l : List α} : 2 * coreK inv l ≤ l.length := by
  cases h : coreK inv l with
  | zero => omega
  | succ k =>
    have := coreK_all (inv := inv) (l := l) k (by omega)
    unfold meets at this
    rw [Bool.and_eq_true] at this
    have := of_decide_eq_true this.1
    omega
include hi in
theorem core_split {l : List α} {k : Nat} (h : ∀ j, j < k → meets inv l j = true) (hk : 2 * k ≤ l.length) : l = around k l ++ middle k l ++ opp inv (around k l) := by
  have e : l.drop (l.length - k) = opp inv (around k l) := by
    unfold opp around
    apply List.ext_getElem?
    intro i
    rw [List.getElem?_drop]
    by_cases hik : i < k
    · have hm := h (k - 1 - i) (by omega)
      unfold meets at hm
      rw [Bool.and_eq_true] at hm
      have h2 := of_decide_eq_true hm.2
      rw [show l.length - 1 - (k - 1 - i) = l.length - k + i by omega] at h2
      have hlen : (List.map inv (List.take k l)).length = k := by rw [List.length_map, List.length_take]; omega
      rw [List.getElem?_reverse (by rw [hlen]; exact hik), hlen, List.getElem?_map, List.getElem?_take_of_lt (by omega), h2]
      rw [Option.map_map, show (inv ∘ inv) = id from funext hi, Option.map_id, id]
    · rw [List.getElem?_eq_none (by omega), List.getElem?_eq_none (by rw [List.length_reverse, List.length_map, List.length_take]; omega)]
  rw [← e]
  unfold around middle
  rw [show l.drop (l.length - k) = (l.drop k).drop (l.length - 2 * k) by rw [List.drop_drop]; congr 1; omega]
  rw [List.append_assoc, List.take_append_drop, List.take_append_drop]
/-! ### turning -/
def turn (k : Nat) (l : List α) : List α := l.drop k ++ l.take k
def turnK (a b : List α) : Option Nat := (List.range (max 1 a.length)).find? fun k => decide (turn k b = a)
/-! ### the root -/
def isRoot (c : List α) (s : Nat) : Bool := decide (c.length % s = 0) && decide ((List.replicate (c.length / s) (c.take s)).flatten = c)
/-! ### two words that turn into each other -/
include hi in
theorem act_back {st : List α} (a : List α) (h : Red inv st) : act inv (act inv st a) (opp inv a) = st := by
  rw [← act_app]
  exact eqv_cancel hi a st h
include hi in
theorem act_forth {st : List α} (a : List α) (h : Red inv st) : act inv (act inv st (opp inv a)) a = st := by
  rw [← act_app]
  exact eqv_cancel' hi a st h
include hi in
theorem Eqv.opp {a b : List α} (h : Eqv inv a b) : Eqv inv (opp inv a) (opp inv b) := fun st r => by
  have h1 : act inv (act inv (act inv st (FG.opp inv a)) b) (FG.opp inv b) = act inv st (FG.opp inv a) := act_back hi b (act_red hi _ r)
  rw [← h _ (act_red hi _ r), act_forth hi a r] at h1
  exact h1.symm
include hi in
theorem conj_ok {one two f c s o found : List α} {k : Nat} (e1 : short inv one = f ++ c ++ opp inv f) (e2 : short inv two = s ++ o ++ opp inv s) (et : turn k o = c) (ef : found = short inv (f ++ opp inv (o.take k) ++ opp inv s)) :
    short inv (found ++ two ++ opp inv found) = short inv one := by
  have q1 : Eqv inv found (f ++ opp inv (o.take k) ++ opp inv s) := by rw [ef]; exact eqv_short hi _
  have q2 : Eqv inv two (s ++ o ++ opp inv s) := by rw [← e2]; exact (eqv_short hi _).symm
  have q3 : Eqv inv one (f ++ c ++ opp inv f) := by rw [← e1]; exact (eqv_short hi _).symm
  refine Eqv.short (((q1.app hi q2).app hi (q1.opp hi)).trans (Eqv.trans ?_ q3.symm))
  intro st r
  have eo : opp inv (f ++ opp inv (o.take k) ++ opp inv s) = s ++ (o.take k ++ opp inv f) := by rw [opp_app, opp_app, opp_opp hi, opp_opp hi]
  rw [eo]
  rw [act_app, act_app, act_app, act_app, act_app, act_app, act_app, act_app]
  have r1 : Red inv (act inv st f) := act_red hi f r
  have r2 : Red inv (act inv (act inv st f) (opp inv (o.take k))) := act_red hi _ r1
  rw [act_forth hi s r2]
  have eo2 : act inv (act inv (act inv st f) (opp inv (o.take k))) o = act inv (act inv st f) (o.drop k) := by
    have : act inv (act inv (act inv st f) (opp inv (o.take k))) (o.take k ++ o.drop k) = act inv (act inv st f) (o.drop k) := by rw [act_app, act_forth hi _ r1]
    rwa [List.take_append_drop] at this
  rw [eo2, act_forth hi s (act_red hi _ r1), act_app, act_app, ← et, turn, act_app]
/-! ### a pointer that walks along and takes pairs out -/
structure Ptr (l : List α) (left : List α) (k : Nat) : Prop where
  eqv : Eqv inv left l
  red : Red inv (left.take (k + 1))
  le : k ≤ left.length
theorem Ptr.start (l : List α) : Ptr (inv := inv) l l 0 where
  eqv := .refl _
  red := by
    cases l with
    | nil => trivial
    | cons p l => trivial
  le := Nat.zero_le _
theorem take_two {l : List α} {k : Nat} {x y : α} (e1 : l[k]? = some x) (e2 : l[k + 1]? = some y) : l.take (k + 2) = l.take k ++ [x, y] ∧ l.take (k + 1) = l.take k ++ [x] := by
  obtain ⟨h1, e1⟩ := List.getElem?_eq_some_iff.mp e1
  obtain ⟨h2, e2⟩ := List.getElem?_eq_some_iff.mp e2
  have a : l.take (k + 1) = l.take k ++ [x] := by rw [List.take_succ_eq_append_getElem h1, e1]
  refine ⟨?_, a⟩
  rw [List.take_succ_eq_append_getElem h2, e2, a, List.append_assoc]
  rfl
include hi in
theorem Ptr.cut {l left : List α} {k : Nat} {x y : α} (h : Ptr (inv := inv) l left k) (e1 : left[k]? = some x) (e2 : left[k + 1]? = some y) (e : y = inv x) : Ptr (inv := inv) l (left.take k ++ left.drop (k + 2)) (k - 1) := by
  obtain ⟨t2, t1⟩ := take_two e1 e2
  have hk : k + 1 < left.length := (List.getElem?_eq_some_iff.mp e2).1
  refine ⟨?_, ?_, ?_⟩
  · refine Eqv.trans ?_ h.eqv
    intro st r
    have : left = left.take (k + 2) ++ left.drop (k + 2) := (List.take_append_drop _ _).symm
    rw [congrArg (act inv st) this, t2, act_app, act_app, act_app, e]
    have : act inv (act inv st (left.take k)) [x, inv x] = act inv st (left.take k) := push_push hi x (act_red hi _ r)
    rw [this]
  · cases k with
    | zero =>
      cases hd : (left.take 0 ++ left.drop (0 + 2)) with
      | nil => trivial
      | cons p q => trivial
    | succ k =>
      have hr := h.red
      rw [t1] at hr
      have := hr.app1
      have hl : (left.take (k + 1)).length = k + 1 := by rw [List.length_take]; omega
      rw [show k + 1 - 1 + 1 = k + 1 from rfl, List.take_append_of_le_length (by omega), List.take_of_length_le (by omega)]
      exact this
  · rw [List.length_append, List.length_take, List.length_drop]; omega
theorem Ptr.next {l left : List α} {k : Nat} {x y : α} (h : Ptr (inv := inv) l left k) (e1 : left[k]? = some x) (e2 : left[k + 1]? = some y) (e : y ≠ inv x) : Ptr (inv := inv) l left (k + 1) := by
  obtain ⟨t2, t1⟩ := take_two e1 e2
  have hk : k + 1 < left.length := (List.getElem?_eq_some_iff.mp e2).1
  refine ⟨h.eqv, ?_, by omega⟩
  rw [show k + 1 + 1 = k + 2 from rfl, t2]
  have hr := h.red
  rw [t1] at hr
  exact hr.snoc e
include hi in
theorem Ptr.done {l left : List α} {k : Nat} (h : Ptr (inv := inv) l left k) (hk : left.length ≤ k + 1) : left = short inv l := by
  have hr := h.red
  rw [List.take_of_length_le hk] at hr
  rw [← h.eqv.short, short_of_red hi hr]
end
end FG
/-! k70: what each def answers. -/
namespace K70
open PySem PySem.W L2 UZ FG
abbrev P := Str × Int
abbrev inv (p : P) : P := (p.1, -p.2)
theorem inv_inv (p : P) : inv (inv p) = p := by
  obtain ⟨a, b⟩ := p
  show (a, - -b) = (a, b)
  rw [Int.neg_neg]
def Ltr (s : Str) : Prop := s = Str.ofString "x" ∨ s = Str.ofString "y" ∨ s = Str.ofString "w" ∨ s = Str.ofString "a3"
def OkP (p : P) : Prop := Ltr p.1 ∧ (p.2 = 1 ∨ p.2 = -1)
def OkL (l : List P) : Prop := ∀ p ∈ l, OkP p
def big : Nat := 100000
abbrev sh (l : List P) : List P := short inv l
abbrev op (l : List P) : List P := opp inv l
/-- what is no letter with a sign -/
def wrongs : List PyData := [.tuple [.str "x", .int 2], .tuple [.str "x", .bool true], .tuple [.str "X", .int 1], .tuple [.str "x"], .str "x", .tuple [.str "x", .int 1, .int 1], .list [.str "x", .int 1], .tuple [.str "x", .int 0], .tuple [.int 1, .str "x"], .tuple [.str "x1y", .int 1]]
def Bad (xs : List PyData) (n : Nat) : Prop := ∃ (a b : List P) (y : PyData), xs = a.map Datum.toD ++ y :: b.map Datum.toD ∧ OkL a ∧ y ∈ wrongs ∧ a.length = n ∧ n ≤ 1000
def xi (n : Nat) : Xc := .fld "InvalidWord" [("place", .int n)]
def rep (n : Nat) (l : List P) : List P := (List.replicate n l).flatten
def powF (l : List P) (c : Int) : List P := if 0 ≤ c then sh (rep c.natAbs (sh l)) else sh (rep c.natAbs (op (sh l)))
def putF (kws : List (Str × List P)) (l : List P) : List P := (l.map fun p => if p.2 = 1 then (lkW kws p.1).getD [(p.1, 1)] else op ((lkW kws p.1).getD [(p.1, 1)])).flatten
def Shp : Nat → PyData → Prop
  | 0, _ => False
  | n + 1, x => match x with
    | .none => True
    | .bool _ => True
    | .int _ => True
    | .str _ => True
    | .list xs => xs.length ≤ big ∧ ∀ y ∈ xs, Shp n y
    | .tuple xs => xs.length ≤ big ∧ ∀ y ∈ xs, Shp n y
    | .dict _ => False

def tabL : List (PyData × Bool) := [(.str "x", true), (.str "y", true), (.str "w", true), (.str "a3", true), (.str "X", false), (.int 1, false), (.str "x1y", false)]
def tabS : List (PyData × Bool) := [(.int 1, true), (.int (-1), true), (.int 2, false), (.bool true, false), (.int 0, false)]
def sp_is_letter_name : DSp := fun ws O Q _ => ∃ x b, ws = [.d x] ∧ (x, b) ∈ tabL ∧ Q (.d (.bool b)) O
def sp_is_sign : DSp := fun ws O Q _ => ∃ x b, ws = [.d x] ∧ (x, b) ∈ tabS ∧ Q (.d (.bool b)) O
def sp_is_pair : DSp := fun ws O Q _ => ∃ x, ws = [.d x] ∧ ((∃ p : P, OkP p ∧ x = Datum.toD p ∧ Q (.d (.bool true)) O) ∨ (x ∈ wrongs ∧ Q (.d (.bool false)) O))
def sp_check_group_word : DSp := fun ws O Q E => ∃ xs, ws = [.d (.tuple xs)] ∧ ((∃ l : List P, xs = l.map Datum.toD ∧ OkL l ∧ Q (.d .none) O) ∨ ∃ n, Bad xs n ∧ E (xi n) O)
def sp_shortened : DSp := fun ws O Q _ => ∃ l : List P, ws = [.d (tD l)] ∧ l.length ≤ big ∧ Q (.d (tD (sh l))) O
def sp_reduced : DSp := fun ws O Q E => ∃ xs, ws = [.d (.tuple xs)] ∧ ((∃ l : List P, xs = l.map Datum.toD ∧ OkL l ∧ l.length ≤ big ∧ Q (.d (tD (sh l))) O) ∨ ∃ n, Bad xs n ∧ E (xi n) O)
def sp_opposite : DSp := fun ws O Q _ => ∃ l : List P, ws = [.d (tD l)] ∧ l.length ≤ big ∧ Q (.d (tD (op l))) O
def sp_group_product : DSp := fun ws O Q E => ∃ rows, ws = [.d (.list rows)] ∧ ((∃ ls : List (List P), rows = ls.map tD ∧ (∀ l ∈ ls, OkL l) ∧ ls.flatten.length ≤ big ∧ Q (.d (tD (sh ls.flatten))) O) ∨ ∃ (a : List P) (xs : List PyData) (n : Nat), rows = [tD a, .tuple xs] ∧ OkL a ∧ a.length ≤ 1000 ∧ Bad xs n ∧ E (xi n) O)
def sp_group_inverse : DSp := fun ws O Q E => ∃ xs, ws = [.d (.tuple xs)] ∧ ((∃ l : List P, xs = l.map Datum.toD ∧ OkL l ∧ l.length ≤ big ∧ Q (.d (tD (op (sh l)))) O) ∨ ∃ n, Bad xs n ∧ E (xi n) O)
def sp_group_power : DSp := fun ws O Q E => ∃ (xs : List PyData) (c : Int), ws = [.d (.tuple xs), .d (.int c)] ∧ -10 ≤ c ∧ c ≤ 10 ∧ ((∃ l : List P, xs = l.map Datum.toD ∧ OkL l ∧ l.length ≤ 1000 ∧ Q (.d (tD (powF l c))) O) ∨ ∃ n, Bad xs n ∧ E (xi n) O)
def sp_commutator_word : DSp := fun ws O Q E => ∃ (a : List P) (xs : List PyData), ws = [.d (tD a), .d (.tuple xs)] ∧ OkL a ∧ a.length ≤ 1000 ∧ ((∃ b : List P, xs = b.map Datum.toD ∧ OkL b ∧ b.length ≤ 1000 ∧ Q (.d (tD (sh (a ++ b ++ op a ++ op b)))) O) ∨ ∃ n, Bad xs n ∧ E (xi n) O)
def tabW (kws : List (Str × List P)) : List (Key × W) := kws.map fun p => (.inr p.1, .d (tD p.2))
def sp_group_put : DSp := fun ws O Q E => ∃ (a : List P) (t : W), ws = [.d (tD a), t] ∧ OkL a ∧ a.length ≤ 1000 ∧ ((∃ (k : Nat) (kws : List (Str × List P)), t = .o k ∧ O[k]? = some (.dK (tabW kws)) ∧ kws.length < 64 ∧ (∀ p ∈ kws, OkL p.2 ∧ p.2.length ≤ 10) ∧ Q (.d (tD (sh (putF kws a)))) O) ∨
  ∃ (b : List P) (xs : List PyData) (n : Nat), t = .d (.dict [(.str "a", tD b), (.str "x", .tuple xs)]) ∧ OkL b ∧ Bad xs n ∧ E (xi n) O)
def sp_law_cell : DSp := fun ws O Q _ => ∃ (ns : List Int) (k : Nat), ws = [.rl (ns.map .int), .d (.int k)] ∧ k ≤ 1000 ∧ ∀ v : Int, Q (.d (.int v)) O
def sp_law_big : DSp := fun ws O Q _ => ∃ ns : List Int, ws = [.rl (ns.map .int), .d (.int 0), .d (.int 60)] ∧ ∀ v : Int, Q (.o O.length) (O ++ [.lst [.d (.int v)]])
def sp_law_take : DSp := fun ws O Q _ => ∃ (k : Nat) (n v : Int), ws = [.o k, .d (.int n)] ∧ 0 < n ∧ n < 1000 ∧ O[k]? = some (.lst [.d (.int v)]) ∧ ∀ r v' : Int, 0 ≤ r → r < n → Q (.d (.int r)) (O.set k (.lst [.d (.int v')]))
def sp_law_same (n : Nat) : DSp := fun ws O Q _ => ∃ x, ws = [.d x, .d x] ∧ Shp n x ∧ Q (.d (.bool true)) O
def sp_law_group_word : DSp := fun ws O Q _ => ∃ (k : Nat) (v : Int) (names : List Str) (n : Nat), ws = [.o k, .d (lD names), .d (.int n)] ∧ O[k]? = some (.lst [.d (.int v)]) ∧ names ≠ [] ∧ names.length ≤ 3 ∧ (∀ s ∈ names, Ltr s) ∧ n ≤ 100 ∧
  ∀ (l : List P) (v' : Int), OkL l → l.length ≤ n → Q (.d (tD l)) (O.set k (.lst [.d (.int v')]))
def sp_law_reduced : DSp := fun ws O Q _ => ∃ l : List P, ws = [.d (tD l)] ∧ OkL l ∧ l.length ≤ big ∧ Q (.d (tD (sh l))) O
def sp_law_opposite : DSp := sp_opposite
def sp_law_told : DSp := fun ws O Q _ => ∃ (k : Nat) (xs : List PyData) (b : List P) (n : Nat), ws = [.d (.int k), .d (.tuple xs), .d (tD b)] ∧ k < 7 ∧ OkL b ∧ b.length ≤ 1000 ∧ Bad xs n ∧ Q (.d (.list [.str "wrong", .int n])) O
def sp_law : DSp := fun ws O Q _ => ∃ ns : List Int, ws = [.rl (ns.map .int)] ∧ Q (.d (.bool true)) O
def t_is_letter_name : DS :=
  (dSeq (dIf (dOrT (dNotT (dTst (dCB fIsi (dCons (dV 0) (dCons (dCw (.v (.ty "str"))) dNil))))) (dOrT (dNotT (dTst (dChain fLe fLe (dC (.int 1)) (dCB fLen (dCons (dV 0) dNil)) (dC (.int 2))))) (dTst (dOp (fInS true) (dOp fIxS (dV 0) (dC (.int 0))) (dC (.str "abcdefghijklmnopqrstuvwxyz")))))) (dRet (dC (.bool false))) dNext)
    (dRet (dOrV (dOp fEq (dCB fLen (dCons (dV 0) dNil)) (dC (.int 1))) (dOp (fInS false) (dOp fIxS (dV 0) (dC (.int 1))) (dC (.str "0123456789"))))))
def t_is_sign : DS :=
  (dRet (dAndV (dCB fIsi (dCons (dV 0) (dCons (dCw (.v (.ty "int"))) dNil))) (dAndV (dNotV (dCB fIsi (dCons (dV 0) (dCons (dCw (.v (.ty "bool"))) dNil)))) (dOp fInD (dV 0) (dLst (dCons (dC (.int 1)) (dCons (dUn fNeg (dC (.int 1))) dNil)))))))
def t_is_pair : DS :=
  (dRet (dAndV (dCB fIsi (dCons (dV 0) (dCons (dCw (.v (.ty "tuple"))) dNil))) (dAndV (dOp fEq (dCB fLen (dCons (dV 0) dNil)) (dC (.int 2))) (dAndV (dCall sp_is_letter_name (dCons (dOp fIxT (dV 0) (dC (.int 0))) dNil)) (dCall sp_is_sign (dCons (dOp fIxT (dV 0) (dC (.int 1))) dNil))))))
def t_check_group_word : DS :=
  (dFor (dItEn (dCons (dV 0) dNil)) (gTp 2 (gCs (gNm 1) (gCs (gNm 2) gEnd))) (dIf (dNotT (dTst (dCall sp_is_pair (dCons (dV 2) dNil)))) (dRaise "InvalidWord" ["place"] (dCons (dV 1) dNil)) dNext))
def t_shortened : DS :=
  (dSeq (dSet 1 (dLstO dNil))
    (dSeq (dFor (dItT (dV 0)) (gTp 2 (gCs (gNm 2) (gCs (gNm 3) gEnd))) (dIf (dAndT (dTst (dOp fNeD (dV 1) (dLst dNil))) (dTst (dOp fEqD (dOp fIxL (dV 1) (dUn fNeg (dC (.int 1)))) (dTup (dCons (dV 2) (dCons (dUn fNeg (dV 3)) dNil)))))) (dDrop (dMt0 mPop (dV 1))) (dDrop (dMt mAppend (dV 1) (dCons (dTup (dCons (dV 2) (dCons (dV 3) dNil))) dNil)))))
    (dRet (dCB fTuple (dCons (dV 1) dNil)))))
def t_reduced : DS :=
  (dSeq (dDrop (dCall sp_check_group_word (dCons (dV 0) dNil)))
    (dRet (dCall sp_shortened (dCons (dV 0) dNil))))
def t_opposite : DS :=
  (dRet (dCB fTuple (dCons (dLc (dItRv (dV 0)) (.many [1, 2]) dYes (dTup (dCons (dV 1) (dCons (dUn fNeg (dV 2)) dNil))) ([("name", 1), ("sign", 2)].map (·.2))) dNil)))
def t_group_product : DS :=
  (dSeq (dSet 1 (dTup dNil))
    (dSeq (dFor (dItL (dV 0)) (gNm 2) (dSeq (dDrop (dCall sp_check_group_word (dCons (dV 2) dNil)))
    (dSet 1 (dOp fAddT (dV 1) (dV 2)))))
    (dRet (dCall sp_shortened (dCons (dV 1) dNil)))))
def t_group_inverse : DS :=
  (dRet (dCall sp_opposite (dCons (dCall sp_reduced (dCons (dV 0) dNil)) dNil)))
def t_group_power : DS :=
  (dSeq (dSet 2 (dIfE (dTst (dOp fGe (dV 1) (dC (.int 0)))) (dCall sp_reduced (dCons (dV 0) dNil)) (dCall sp_group_inverse (dCons (dV 0) dNil))))
    (dRet (dCall sp_shortened (dCons (dOp fRepT (dV 2) (dCB fAbs (dCons (dV 1) dNil))) dNil))))
def t_commutator_word : DS :=
  (dSeq (dDrop (dCall sp_check_group_word (dCons (dV 0) dNil)))
    (dSeq (dDrop (dCall sp_check_group_word (dCons (dV 1) dNil)))
    (dRet (dCall sp_shortened (dCons (dOp fAddT (dOp fAddT (dOp fAddT (dV 0) (dV 1)) (dCall sp_opposite (dCons (dV 0) dNil))) (dCall sp_opposite (dCons (dV 1) dNil))) dNil)))))
def t_group_put : DS :=
  (dSeq (dDrop (dCall sp_check_group_word (dCons (dV 0) dNil)))
    (dSeq (dFor (dItL (dCB fSortD (dCons (dV 1) dNil))) (gNm 2) (dDrop (dCall sp_check_group_word (dCons (dDG (dV 1) (dV 2)) dNil))))
    (dSeq (dSet 3 (dTup dNil))
    (dSeq (dFor (dItT (dV 0)) (gTp 2 (gCs (gNm 2) (gCs (gNm 4) gEnd))) (dSeq (dSet 5 (dGet2 (dV 1) (dV 2) (dTup (dCons (dTup (dCons (dV 2) (dCons (dC (.int 1)) dNil))) dNil))))
    (dSet 3 (dOp fAddT (dV 3) (dIfE (dTst (dOp fEq (dV 4) (dC (.int 1)))) (dV 5) (dCall sp_opposite (dCons (dV 5) dNil)))))))
    (dRet (dCall sp_shortened (dCons (dV 3) dNil)))))))
def t_law_cell : DS :=
  (dSeq (dIf (dAndT (dTst (dOp fLt (dV 1) (dCB fLen (dCons (dV 0) dNil)))) (dTst (dOp fGe (dOp fIxL (dV 0) (dV 1)) (dOp fPow (dC (.int 10)) (dC (.int 9)))))) (dRet (dOp fIxL (dV 0) (dV 1))) dNext)
    (dSeq (dSet 2 (dOp fAdd (dOp fMul (dC (.int 7)) (dV 1)) (dC (.int 1))))
    (dSeq (dIf (dTst (dOp fGt (dCB fLen (dCons (dV 0) dNil)) (dC (.int 0)))) (dSet 2 (dOp fAdd (dV 2) (dOp fMul (dC (.int 31)) (dOp fIxL (dV 0) (dOp fMod (dCB fInt (dCons (dV 1) dNil)) (dCB fLen (dCons (dV 0) dNil))))))) dNext)
    (dSeq (dSet 2 (dOp fMod (dCB fInt (dCons (dOp fAdd (dOp fMul (dV 2) (dC (.int 48271))) (dOp fMul (dC (.int 69621)) (dV 1))) dNil)) (dC (.int 2147483647))))
    (dRet (dOp fMod (dCB fInt (dCons (dOp fAdd (dOp fMul (dV 2) (dV 2)) (dOp fMul (dC (.int 48271)) (dOp fDiv (dV 2) (dC (.int 1000))))) dNil)) (dC (.int 2147483629))))))))
def t_law_big : DS :=
  (dSeq (dSet 3 (dC (.int 0)))
    (dSeq (dFor (dItR1 (dCons (dV 2) dNil)) (gNm 4) (dSet 3 (dOp fAdd (dOp fMul (dV 3) (dC (.int 2147483648))) (dCall sp_law_cell (dCons (dV 0) (dCons (dOp fAdd (dV 1) (dV 4)) dNil))))))
    (dRet (dLstO (dCons (dV 3) dNil)))))
def t_law_take : DS :=
  (dSeq (dSet 2 (dOp fMod (dCB fInt (dCons (dOp fIxL (dV 0) (dC (.int 0))) dNil)) (dV 1)))
    (dSeq (dAsg (dCB fInt (dCons (dOp fDiv (dOp fIxL (dV 0) (dC (.int 0))) (dV 1)) dNil)) (gSubD (dV 0) (dC (.int 0)) fSetL))
    (dRet (dV 2))))
def t_law_same (n : Nat) : DS :=
  (dSeq (dIf (dOrT (dTst (dCB fIsi (dCons (dV 0) (dCons (dCw (.v (.ty "bool"))) dNil)))) (dTst (dCB fIsi (dCons (dV 1) (dCons (dCw (.v (.ty "bool"))) dNil))))) (dRet (dAndV (dCB fIsi (dCons (dV 0) (dCons (dCw (.v (.ty "bool"))) dNil))) (dAndV (dCB fIsi (dCons (dV 1) (dCons (dCw (.v (.ty "bool"))) dNil))) (dOp fEqD (dV 0) (dV 1))))) dNext)
    (dSeq (dIf (dOrT (dTst (dCB fIsi (dCons (dV 0) (dCons (dTup (dCons (dCw (.v (.ty "list"))) (dCons (dCw (.v (.ty "tuple"))) dNil))) dNil)))) (dTst (dCB fIsi (dCons (dV 1) (dCons (dTup (dCons (dCw (.v (.ty "list"))) (dCons (dCw (.v (.ty "tuple"))) dNil))) dNil))))) (dSeq (dIf (dOrT (dTst (dOp fNe (dCB fIsi (dCons (dV 0) (dCons (dCw (.v (.ty "list"))) dNil))) (dCB fIsi (dCons (dV 1) (dCons (dCw (.v (.ty "list"))) dNil))))) (dOrT (dTst (dOp fNe (dCB fIsi (dCons (dV 0) (dCons (dCw (.v (.ty "tuple"))) dNil))) (dCB fIsi (dCons (dV 1) (dCons (dCw (.v (.ty "tuple"))) dNil))))) (dTst (dOp fNe (dCB fLen (dCons (dV 0) dNil)) (dCB fLen (dCons (dV 1) dNil)))))) (dRet (dC (.bool false))) dNext)
    (dRet (dOp fEqD (dLc (dItR1 (dCons (dCB fLen (dCons (dV 0) dNil)) dNil)) (.one 2) (dNotT (dTst (dCall (sp_law_same n) (dCons (dOp fIxQ (dV 0) (dV 2)) (dCons (dOp fIxQ (dV 1) (dV 2)) dNil))))) (dV 2) ([("k", 2)].map (·.2))) (dLst dNil)))) dNext)
    (dSeq (dIf (dOrT (dTst (dCB fIsi (dCons (dV 0) (dCons (dCw (.v (.ty "dict"))) dNil)))) (dTst (dCB fIsi (dCons (dV 1) (dCons (dCw (.v (.ty "dict"))) dNil))))) dNever dNext)
    (dSeq (dIf (dOrT (dTst (dOp fNe (dCB fIsi (dCons (dV 0) (dCons (dCw (.v (.ty "int"))) dNil))) (dCB fIsi (dCons (dV 1) (dCons (dCw (.v (.ty "int"))) dNil))))) (dOrT (dTst (dOp fNe (dCB fIsi (dCons (dV 0) (dCons (dCw (.v (.ty "str"))) dNil))) (dCB fIsi (dCons (dV 1) (dCons (dCw (.v (.ty "str"))) dNil))))) (dTst (dOp fNe (dOp fIsN (dV 0) (dC .none)) (dOp fIsN (dV 1) (dC .none)))))) (dRet (dC (.bool false))) dNext)
    (dRet (dOp fEqD (dV 0) (dV 1)))))))
def t_law_group_word : DS :=
  (dRet (dCB fTuple (dCons (dLc (dItR1 (dCons (dCall sp_law_take (dCons (dV 0) (dCons (dOp fAdd (dV 2) (dC (.int 1))) dNil))) dNil)) (.one 3) dYes (dTup (dCons (dOp fIxL (dV 1) (dCall sp_law_take (dCons (dV 0) (dCons (dCB fLen (dCons (dV 1) dNil)) dNil)))) (dCons (dOp fSub (dC (.int 1)) (dOp fMul (dC (.int 2)) (dCall sp_law_take (dCons (dV 0) (dCons (dC (.int 2)) dNil))))) dNil))) ([("turn", 3)].map (·.2))) dNil)))
def t_law_reduced : DS :=
  (dSeq (dSet 1 (dCB fListL (dCons (dV 0) dNil)))
    (dSeq (dSet 2 (dC (.int 0)))
    (dSeq (dFor (dItR1 (dCons (dOp fAdd (dOp fMul (dC (.int 3)) (dCB fLen (dCons (dV 0) dNil))) (dC (.int 3))) dNil)) (gNm 3) (dSeq (dIf (dTst (dOp fGe (dOp fAdd (dV 2) (dC (.int 1))) (dCB fLen (dCons (dV 1) dNil)))) dBreak dNext)
    (dIf (dAndT (dTst (dOp fEq (dOp fIxT (dOp fIxL (dV 1) (dV 2)) (dC (.int 0))) (dOp fIxT (dOp fIxL (dV 1) (dOp fAdd (dV 2) (dC (.int 1)))) (dC (.int 0))))) (dTst (dOp fNe (dOp fIxT (dOp fIxL (dV 1) (dV 2)) (dC (.int 1))) (dOp fIxT (dOp fIxL (dV 1) (dOp fAdd (dV 2) (dC (.int 1)))) (dC (.int 1)))))) (dSeq (dSet 1 (dOp fAddL (dSl fSlL (dV 1) dNoP (dPart (dV 2))) (dSl fSlL (dV 1) (dPart (dOp fAdd (dV 2) (dC (.int 2)))) dNoP)))
    (dSet 2 (dCB fMax (dCons (dC (.int 0)) (dCons (dOp fSub (dV 2) (dC (.int 1))) dNil))))) (dSet 2 (dOp fAdd (dV 2) (dC (.int 1)))))))
    (dRet (dCB fTuple (dCons (dV 1) dNil))))))
def t_law_opposite : DS :=
  (dRet (dCB fTuple (dCons (dLc (dItT (dUn fRev (dV 0))) (.many [1, 2]) dYes (dTup (dCons (dV 1) (dCons (dUn fNeg (dV 2)) dNil))) ([("name", 1), ("sign", 2)].map (·.2))) dNil)))
def t_law_told : DS :=
  (dTryAs [("InvalidWord", true)] 3 (dSeq (dIf (dTst (dOp fLt (dV 0) (dC (.int 3)))) (dRet (dCallE [("check_group_word", sp_check_group_word), ("reduced", sp_reduced), ("group_inverse", sp_group_inverse)] (dOp fIxL (dLstO (dCons (dGl "check_group_word") (dCons (dGl "reduced") (dCons (dGl "group_inverse") dNil)))) (dV 0)) (dCons (dV 1) dNil))) dNext)
    (dSeq (dIf (dTst (dOp fEq (dV 0) (dC (.int 3)))) (dRet (dCall sp_group_product (dCons (dLst (dCons (dV 2) (dCons (dV 1) dNil))) dNil))) dNext)
    (dSeq (dIf (dTst (dOp fEq (dV 0) (dC (.int 4)))) (dRet (dCall sp_group_power (dCons (dV 1) (dCons (dUn fNeg (dC (.int 2))) dNil)))) dNext)
    (dRet (dIfE (dTst (dOp fEq (dV 0) (dC (.int 5)))) (dCall sp_commutator_word (dCons (dV 2) (dCons (dV 1) dNil))) (dCall sp_group_put (dCons (dV 2) (dCons (dDisp [((dC (.str "a")), (dV 2)), ((dC (.str "x")), (dV 1))]) dNil)))))))) (fun a d => (dRet (dLst (dCons (dC (.str "wrong")) (dCons (dXf a d "place" (dV 3)) dNil))))))
def t_law : DS :=
  (dSeq (dSet 1 (dCall sp_law_big (dCons (dV 0) (dCons (dC (.int 0)) (dCons (dC (.int 60)) dNil)))))
    (dSeq (dSet 2 (dSl fSlL (dLst (dCons (dC (.str "x")) (dCons (dC (.str "y")) (dCons (dC (.str "a3")) dNil)))) dNoP (dPart (dOp fAdd (dC (.int 1)) (dCall sp_law_take (dCons (dV 1) (dCons (dC (.int 3)) dNil)))))))
    (dSeq (dSet 3 (dLc (dItR1 (dCons (dOp fAdd (dC (.int 1)) (dCall sp_law_take (dCons (dV 1) (dCons (dC (.int 3)) dNil)))) dNil)) (.one 20) dYes (dCall sp_law_group_word (dCons (dV 1) (dCons (dV 2) (dCons (dC (.int 8)) dNil)))) ([("turn", 20)].map (·.2))))
    (dSeq (dSet 4 (dOp fIxL (dV 3) (dC (.int 0))))
    (dSeq (dSet 5 (dOp fIxL (dV 3) (dUn fNeg (dC (.int 1)))))
    (dSeq (dSet 6 (dOp fSub (dCall sp_law_take (dCons (dV 1) (dCons (dC (.int 9)) dNil))) (dC (.int 4))))
    (dSeq (dSet 7 (dTup dNil))
    (dSeq (dFor (dItL (dV 3)) (gNm 8) (dSet 7 (dOp fAddT (dV 7) (dV 8))))
    (dSeq (dSet 9 (dIfE (dTst (dOp fGe (dV 6) (dC (.int 0)))) (dOp fRepT (dV 4) (dV 6)) (dOp fRepT (dCall sp_law_opposite (dCons (dV 4) dNil)) (dUn fNeg (dV 6)))))
    (dSeq (dSet 10 (dLst (dCons (dCall sp_law_reduced (dCons (dV 4) dNil)) (dCons (dCall sp_law_reduced (dCons (dV 7) dNil)) (dCons (dCall sp_law_opposite (dCons (dCall sp_law_reduced (dCons (dV 4) dNil)) dNil)) (dCons (dCall sp_law_reduced (dCons (dV 9) dNil)) dNil))))))
    (dSeq (dSet 11 (dLst (dCons (dCall sp_reduced (dCons (dV 4) dNil)) (dCons (dCall sp_group_product (dCons (dV 3) dNil)) (dCons (dCall sp_group_inverse (dCons (dV 4) dNil)) (dCons (dCall sp_group_power (dCons (dV 4) (dCons (dV 6) dNil))) dNil))))))
    (dSeq (dIf (dOrT (dNotT (dTst (dCall (sp_law_same 8) (dCons (dV 11) (dCons (dV 10) dNil))))) (dNotT (dTst (dCall (sp_law_same 8) (dCons (dLst (dCons (dCall sp_group_product (dCons (dLst dNil) dNil)) (dCons (dCall sp_check_group_word (dCons (dV 4) dNil)) dNil))) (dCons (dLst (dCons (dTup dNil) (dCons (dC .none) dNil))) dNil)))))) (dRet (dC (.bool false))) dNext)
    (dSeq (dIf (dNotT (dTst (dCall (sp_law_same 8) (dCons (dCall sp_commutator_word (dCons (dV 4) (dCons (dV 5) dNil))) (dCons (dCall sp_law_reduced (dCons (dOp fAddT (dOp fAddT (dOp fAddT (dV 4) (dV 5)) (dCall sp_law_opposite (dCons (dV 4) dNil))) (dCall sp_law_opposite (dCons (dV 5) dNil))) dNil)) dNil))))) (dRet (dC (.bool false))) dNext)
    (dSeq (dSet 12 dNewD)
    (dSeq (dFor (dItL (dV 2)) (gNm 13) (dIf (dTst (dOp fGt (dCall sp_law_take (dCons (dV 1) (dCons (dC (.int 3)) dNil))) (dC (.int 0)))) (dPut (dV 12) (dV 13) (dCall sp_law_group_word (dCons (dV 1) (dCons (dLst (dCons (dC (.str "x")) (dCons (dC (.str "y")) (dCons (dC (.str "w")) dNil)))) (dCons (dC (.int 4)) dNil))))) dNext))
    (dSeq (dSet 14 (dTup dNil))
    (dSeq (dFor (dItT (dV 4)) (gTp 2 (gCs (gNm 13) (gCs (gNm 18) gEnd))) (dSeq (dSet 19 (dGet2 (dV 12) (dV 13) (dTup (dCons (dTup (dCons (dV 13) (dCons (dC (.int 1)) dNil))) dNil))))
    (dSet 14 (dOp fAddT (dV 14) (dIfE (dTst (dOp fEq (dV 18) (dC (.int 1)))) (dV 19) (dCall sp_law_opposite (dCons (dV 19) dNil)))))))
    (dSeq (dIf (dNotT (dTst (dCall (sp_law_same 8) (dCons (dCall sp_group_put (dCons (dV 4) (dCons (dV 12) dNil))) (dCons (dCall sp_law_reduced (dCons (dV 14) dNil)) dNil))))) (dRet (dC (.bool false))) dNext)
    (dSeq (dSet 15 (dLst (dCons (dTup (dCons (dC (.str "x")) (dCons (dC (.int 2)) dNil))) (dCons (dTup (dCons (dC (.str "x")) (dCons (dC (.bool true)) dNil))) (dCons (dTup (dCons (dC (.str "X")) (dCons (dC (.int 1)) dNil))) (dCons (dTup (dCons (dC (.str "x")) dNil)) (dCons (dC (.str "x")) (dCons (dTup (dCons (dC (.str "x")) (dCons (dC (.int 1)) (dCons (dC (.int 1)) dNil)))) (dCons (dLst (dCons (dC (.str "x")) (dCons (dC (.int 1)) dNil))) (dCons (dTup (dCons (dC (.str "x")) (dCons (dC (.int 0)) dNil))) (dCons (dTup (dCons (dC (.int 1)) (dCons (dC (.str "x")) dNil))) (dCons (dTup (dCons (dC (.str "x1y")) (dCons (dC (.int 1)) dNil))) dNil))))))))))))
    (dSeq (dSet 16 (dCall sp_law_take (dCons (dV 1) (dCons (dOp fAdd (dCB fLen (dCons (dV 4) dNil)) (dC (.int 1))) dNil))))
    (dSeq (dSet 17 (dOp fAddT (dOp fAddT (dSl fSlT (dV 4) dNoP (dPart (dV 16))) (dTup (dCons (dOp fIxL (dV 15) (dCall sp_law_take (dCons (dV 1) (dCons (dCB fLen (dCons (dV 15) dNil)) dNil)))) dNil))) (dSl fSlT (dV 4) (dPart (dV 16)) dNoP)))
    (dRet (dCall (sp_law_same 8) (dCons (dLc (dItR1 (dCons (dC (.int 7)) dNil)) (.one 21) dYes (dCall sp_law_told (dCons (dV 21) (dCons (dV 17) (dCons (dV 5) dNil)))) ([("which", 21)].map (·.2))) (dCons (dOp fRepL (dLst (dCons (dLst (dCons (dC (.str "wrong")) (dCons (dV 16) dNil))) dNil)) (dC (.int 7))) dNil)))))))))))))))))))))))))
end K70
namespace K70
open PySem PySem.W L2 UZ FG
local macro_rules
  | `(tactic| walk_at "isk") => `(tactic| first | with_reducible refine k_I_int ?_ | with_reducible refine k_I_bool ?_ | with_reducible refine k_I_str ?_ | with_reducible refine k_I_list ?_ | with_reducible refine k_I_tuple ?_ | with_reducible refine k_I_dict ?_ | with_reducible refine k_I_lt ?_ | with_reducible refine k_S_int ?_ | with_reducible refine k_S_bool ?_ | with_reducible refine k_S_str ?_ | with_reducible refine k_S_list ?_ | with_reducible refine k_S_tuple ?_ | with_reducible refine k_S_dict ?_ | with_reducible refine k_S_lt ?_ | with_reducible refine k_B_int ?_ | with_reducible refine k_B_bool ?_ | with_reducible refine k_B_str ?_ | with_reducible refine k_B_list ?_ | with_reducible refine k_B_tuple ?_ | with_reducible refine k_B_dict ?_ | with_reducible refine k_B_lt ?_ | with_reducible refine k_N_int ?_ | with_reducible refine k_N_bool ?_ | with_reducible refine k_N_str ?_ | with_reducible refine k_N_list ?_ | with_reducible refine k_N_tuple ?_ | with_reducible refine k_N_dict ?_ | with_reducible refine k_N_lt ?_ | with_reducible refine k_T_int ?_ | with_reducible refine k_T_bool ?_ | with_reducible refine k_T_str ?_ | with_reducible refine k_T_list ?_ | with_reducible refine k_T_tuple ?_ | with_reducible refine k_T_dict ?_ | with_reducible refine k_T_lt ?_ | with_reducible refine k_L_int ?_ | with_reducible refine k_L_bool ?_ | with_reducible refine k_L_str ?_ | with_reducible refine k_L_list ?_ | with_reducible refine k_L_tuple ?_ | with_reducible refine k_L_dict ?_ | with_reducible refine k_L_lt ?_ | with_reducible refine k_D_int ?_ | with_reducible refine k_D_bool ?_ | with_reducible refine k_D_str ?_ | with_reducible refine k_D_list ?_ | with_reducible refine k_D_tuple ?_ | with_reducible refine k_D_dict ?_ | with_reducible refine k_D_lt ?_)
local macro_rules
  | `(tactic| walk_at "isi") => `(tactic| first
    | ((with_reducible apply x_isi (a := "int") true); (exact rfl); decide +kernel) | ((with_reducible apply x_isi (a := "int") false); (exact rfl); decide +kernel)
    | ((with_reducible apply x_isi (a := "str") true); (exact rfl); decide +kernel) | ((with_reducible apply x_isi (a := "str") false); (exact rfl); decide +kernel)
    | ((with_reducible apply x_isi (a := "tuple") true); (exact rfl); decide +kernel) | ((with_reducible apply x_isi (a := "tuple") false); (exact rfl); decide +kernel)
    | ((with_reducible apply x_isi (a := "list") true); (exact rfl); decide +kernel) | ((with_reducible apply x_isi (a := "list") false); (exact rfl); decide +kernel)
    | ((with_reducible apply x_isi (a := "bool") true); (exact rfl); decide +kernel) | ((with_reducible apply x_isi (a := "bool") false); (exact rfl); decide +kernel)
    | ((with_reducible apply x_isi (a := "NoneType") true); (exact rfl); decide +kernel) | ((with_reducible apply x_isi (a := "NoneType") false); (exact rfl); decide +kernel)
    | ((with_reducible apply x_isis (a := "int") true); (exact rfl); decide +kernel) | ((with_reducible apply x_isis (a := "int") false); (exact rfl); decide +kernel)
    | ((with_reducible apply x_isis (a := "str") true); (exact rfl); decide +kernel) | ((with_reducible apply x_isis (a := "str") false); (exact rfl); decide +kernel)
    | ((with_reducible apply x_isis (a := "tuple") true); (exact rfl); decide +kernel) | ((with_reducible apply x_isis (a := "tuple") false); (exact rfl); decide +kernel)
    | ((with_reducible apply x_isis (a := "list") true); (exact rfl); decide +kernel) | ((with_reducible apply x_isis (a := "list") false); (exact rfl); decide +kernel)
    | ((with_reducible apply x_isis (a := "bool") true); (exact rfl); decide +kernel) | ((with_reducible apply x_isis (a := "bool") false); (exact rfl); decide +kernel)
    | ((with_reducible apply x_isis (a := "NoneType") true); (exact rfl); decide +kernel) | ((with_reducible apply x_isis (a := "NoneType") false); (exact rfl); decide +kernel))
local macro_rules
  | `(tactic| walk_at "uz") => `(tactic| repeat (first
    | with_reducible refine x_seq ?_ | with_reducible refine x_next ?_ | with_reducible refine x_ret ?_ | with_reducible refine x_drop ?_ | with_reducible refine x_if ?_ | with_reducible refine x_par ?_
    | with_reducible refine x_set ?_ | with_reducible refine x_asg ?_ | with_reducible refine x_break ?_ | with_reducible refine x_cont ?_ | with_reducible refine x_nm ?_ | with_reducible refine x_cs ?_ | with_reducible refine x_end ?_
    | ((with_reducible apply x_tp2); exact rfl)
    | ((with_reducible apply x_v); exact rfl)
    | with_reducible refine x_c ?_ | with_reducible refine x_cw ?_ | with_reducible refine x_op ?_ | with_reducible refine x_un ?_ | with_reducible refine x_tst ?_ | with_reducible refine x_onB ?_ | with_reducible refine x_not ?_
    | with_reducible refine x_and ?_ | with_reducible refine x_or ?_ | with_reducible refine x_andV ?_ | with_reducible refine x_orV ?_ | with_reducible refine x_notV ?_ | with_reducible refine x_ifE ?_ | with_reducible refine x_chain ?_
    | with_reducible refine x_nil ?_ | with_reducible refine x_cons ?_ | with_reducible refine x_tup ?_ | with_reducible refine x_lst ?_ | with_reducible refine x_lstO ?_ | with_reducible refine x_sl ?_ | with_reducible refine x_nop ?_ | with_reducible refine x_part ?_
    | with_reducible refine x_cb ?_ | with_reducible refine x_call ?_ | with_reducible refine x_call0 ?_ | with_reducible refine x_yes ?_ | with_reducible refine x_itT ?_ | with_reducible refine x_itF ?_
    | with_reducible refine x_itT1 ?_ | with_reducible refine x_itRv ?_ | with_reducible refine x_itL ?_ | with_reducible refine x_itR1 ?_ | with_reducible refine x_itR2 ?_ | with_reducible refine x_itEn ?_ | with_reducible refine x_for ?_ | with_reducible refine x_lc ?_ | with_reducible refine x_lcO ?_
    | with_reducible refine x_I0 ?_ | with_reducible refine x_neg ?_ | with_reducible refine x_int ?_ | with_reducible refine x_max ?_ | ((with_reducible apply x_isN true); exact rfl) | ((with_reducible apply x_isN false); exact rfl) | ((with_reducible apply x_notN true); exact rfl) | ((with_reducible apply x_notN false); exact rfl)
    | ((with_reducible apply x_eq); exact rfl) | ((with_reducible apply x_ne); exact rfl)
    | walk_at "isk" | walk_at "isi" | ((with_reducible apply x_mkT); (exact rfl); (exact Nat.le_of_ble_eq_true rfl)) | ((with_reducible apply x_mkN); (exact rfl); (exact Nat.le_of_ble_eq_true rfl)) | ((with_reducible apply x_mkL); (exact rfl); (exact Nat.le_of_ble_eq_true rfl)) | ((with_reducible apply x_ixT); exact rfl) | ((with_reducible apply x_ixL); exact rfl)
    | with_reducible refine x_inS ?_ | with_reducible refine x_ninS ?_ | with_reducible refine x_ixS1 ?_ | with_reducible refine x_lenS1 ?_ | with_reducible refine x_wlkT ?_ | with_reducible refine x_wlkL ?_ | with_reducible refine x_slTt ?_ | with_reducible refine x_slLt ?_ | with_reducible refine x_lenTt ?_ | with_reducible refine x_lenLt ?_ | with_reducible refine x_revt ?_ | with_reducible refine x_lenT ?_ | with_reducible refine x_lenL ?_ | with_reducible refine x_lenR ?_ | with_reducible refine x_rev ?_ | with_reducible refine x_slT ?_ | with_reducible refine x_slL ?_ | with_reducible refine x_slR ?_
    | with_reducible refine x_listT ?_ | with_reducible refine x_listL ?_ | with_reducible refine x_tupL ?_ | with_reducible refine x_tupT ?_
    | with_reducible refine x_nT ?_ | with_reducible refine x_nF ?_ | ((with_reducible apply x_decT); first | (decide) | (exact rfl)) | ((with_reducible apply x_decF); (decide)) | ((with_reducible apply x_ndecT); (decide)) | ((with_reducible apply x_ndecF); (decide))
    | with_reducible refine x_raise ?_ | with_reducible refine x_raise0 ?_ | with_reducible refine x_tryAs ?_ | with_reducible refine x_try ?_ | with_reducible refine x_xf ?_ | with_reducible refine x_gl ?_ | with_reducible refine x_callE ?_ | with_reducible refine x_newD ?_ | with_reducible refine x_dget ?_ | with_reducible refine x_get2 ?_ | with_reducible refine x_put ?_ | with_reducible refine x_disp ?_ | with_reducible refine x_prs ?_ | with_reducible refine x_prn ?_ | with_reducible refine x_abs ?_
    | dsimp only))
theorem okD_int (i : Int) : okD (.int i) := okD_datum i
theorem act_take {l : List P} {i : Nat} {p : P} (e : l[i]? = some p) : act inv [] (l.take (i + 1)) = push inv (act inv [] (l.take i)) p := by
  obtain ⟨h, e⟩ := List.getElem?_eq_some_iff.mp e
  rw [List.take_succ_eq_append_getElem h, e, act_snoc]
theorem mapd_get {l : List P} {i : Nat} {w : W} (e : ((l.map Datum.toD).map W.d)[i]? = some w) : ∃ p, l[i]? = some p ∧ w = wD p := by
  rw [List.getElem?_map, List.getElem?_map] at e
  cases h : l[i]? with
  | none => rw [h] at e; cases e
  | some p => rw [h] at e; cases e; exact ⟨p, rfl, rfl⟩
theorem r_shortened : ∀ ws O Q E, sp_shortened ws O Q E → t_shortened (endsD O Q E) (startD ["word", "found", "name", "sign"] ws) O := by
  rintro ws O Q E ⟨l, rfl, hl, q⟩
  unfold t_shortened
  walk_at "uz"
  refine ⟨by decide, ?_⟩
  walk_at "uz"
  refine ⟨_, rfl, ?_⟩
  refine forL_inv (fun i Γ O' => (∃ a b, Γ = [some (.d (tD l)), some (.o O.length), a, b]) ∧ O' = O ++ [oL (act inv [] (l.take i)).reverse]) ⟨⟨_, _, rfl⟩, rfl⟩ (fun _ _ _ _ _ => trivial) (fun i w Γ O' e h => ?_) fun Γ O' h => ?_
  · obtain ⟨⟨a, b, rfl⟩, rfl⟩ := h
    obtain ⟨⟨nm, sg⟩, ep, rfl⟩ := mapd_get e
    rw [act_take ep]
    change gTp 2 _ (.d (.tuple [.str nm, .int sg])) _ _ _
    walk_at "uz"
    have hst : (act inv [] (l.take i)).length ≤ i := by
      have := short_len (inv := inv) (l.take i)
      unfold short at this
      rw [List.length_reverse, List.length_take] at this
      omega
    have hil : i < l.length := (List.getElem?_eq_some_iff.mp ep).1
    generalize act inv [] (l.take i) = st at hst
    refine x_neNil get_app (by decide) ?_
    walk_at "uz"
    cases st with
    | nil =>
      walk_at "uz"
      refine x_mt1 rfl get_app ?_
      walk_at "uz"
      refine ⟨_, get_app, x_append (by decide) ?_⟩
      rw [set_app]
      exact ⟨⟨_, _, rfl⟩, rfl⟩
    | cons t st =>
      refine x_ndec (fun _ => ?_) (fun z => absurd z (by simp))
      walk_at "uz"
      refine x_ixO get_app (y := wD t) (ati_last (by simp)) ?_
      walk_at "uz"
      refine x_eqTy (a := t) (b := (nm, -sg)) (by decide) ?_
      walk_at "uz"
      refine x_dec (fun z => ?_) (fun z => ?_)
      · walk_at "uz"
        refine x_mt00 rfl get_app (x_pop (y := wD t) (by simp) ?_)
        rw [set_app]
        refine ⟨⟨_, _, rfl⟩, ?_⟩
        have : push inv (t :: st) (nm, sg) = st := by unfold push; dsimp only; rw [if_pos z]
        rw [this]
        simp [oL]
      · walk_at "uz"
        refine x_mt1 rfl get_app ?_
        walk_at "uz"
        refine ⟨_, get_app, x_append (by rw [List.length_map, List.length_reverse]; unfold big at hl; unfold sizeLine; omega) ?_⟩
        rw [set_app]
        refine ⟨⟨_, _, rfl⟩, ?_⟩
        have : push inv (t :: st) (nm, sg) = (nm, sg) :: t :: st := by unfold push; dsimp only; rw [if_neg z]
        rw [this]
        simp [oL]; rfl
  · obtain ⟨⟨a, b, rfl⟩, rfl⟩ := h
    walk_at "uz"
    rw [List.length_map, List.length_map, List.take_length]
    exact x_tupOt get_app (x_fret (x_finT q))
theorem r_opposite : ∀ ws O Q E, sp_opposite ws O Q E → t_opposite (endsD O Q E) (startD ["word", "name", "sign"] ws) O := by
  rintro ws O Q E ⟨l, rfl, hl, q⟩
  unfold t_opposite
  walk_at "uz"
  refine ⟨_, rfl, ?_⟩
  refine lcL_map l.reverse wD (fun p => wD (inv p)) (by rw [map_dd, List.map_reverse]) (by rw [List.length_reverse]; unfold big at hl; unfold sizeLine; omega) trivial (fun x hx N hN => ?_) ?_
  · obtain ⟨a, b⟩ := x
    change tgD _ (.d (.tuple [.str a, .int b])) _ _
    refine x_tg2 rfl ?_
    walk_at "uz"
    exact hN
  · refine x_alldt (a := op l) (by unfold op opp; rw [← List.map_reverse, List.map_map]; rfl) ?_
    walk_at "uz"
    exact x_fret (x_fin q)
theorem rng_get {lo : Int} {n i : Nat} {w : W} (e : (rng lo n)[i]? = some w) : i < n ∧ w = .d (.int (lo + (i : Int))) := by
  unfold rng at e
  rw [List.getElem?_map] at e
  by_cases h : i < n
  · rw [List.getElem?_range h] at e; cases e; exact ⟨h, rfl⟩
  · rw [List.getElem?_eq_none (by rw [List.length_range]; omega)] at e; cases e
theorem rng_len {lo : Int} {n : Nat} : (rng lo n).length = n := by unfold rng; rw [List.length_map, List.length_range]
theorem sh_len {l : List P} {n : Nat} (h : l.length ≤ n) : (sh l).length ≤ n := Nat.le_trans (short_len l) h
theorem OkL.sub {l m : List P} (h : OkL l) (s : ∀ x ∈ m, x ∈ l) : OkL m := fun p hp => h p (s p hp)
theorem OkL.sh {l : List P} (h : OkL l) : OkL (sh l) := h.sub fun _ hx => short_mem hx
theorem OkL.take {l : List P} (k : Nat) (h : OkL l) : OkL (l.take k) := h.sub fun _ hx => List.mem_of_mem_take hx
theorem OkP.inv {p : P} (h : OkP p) : OkP (inv p) := ⟨h.1, by
  show -p.2 = 1 ∨ -p.2 = -1
  rcases h.2 with h | h <;> rw [h] <;> decide⟩
theorem OkL.op {l : List P} (h : OkL l) : OkL (op l) := fun p hp => by
  unfold K70.op opp at hp
  rw [List.mem_reverse] at hp
  obtain ⟨x, hx, rfl⟩ := List.mem_map.mp hp
  exact (h x hx).inv
theorem OkL.app {a b : List P} (h : OkL a) (g : OkL b) : OkL (a ++ b) := fun p hp => (List.mem_append.mp hp).elim (h p) (g p)
theorem op_len (l : List P) : (op l).length = l.length := opp_len l
theorem r_law_cell : ∀ ws O Q E, sp_law_cell ws O Q E → t_law_cell (endsD O Q E) (startD ["script", "k", "cell"] ws) O := by
  rintro ws O Q E ⟨ns, k, rfl, hk, q⟩
  have rest : dSeq (dSet 2 (dOp fAdd (dOp fMul (dC (.int 7)) (dV 1)) (dC (.int 1)))) (dSeq (dIf (dTst (dOp fGt (dCB fLen (dCons (dV 0) dNil)) (dC (.int 0)))) (dSet 2 (dOp fAdd (dV 2) (dOp fMul (dC (.int 31)) (dOp fIxL (dV 0) (dOp fMod (dCB fInt (dCons (dV 1) dNil)) (dCB fLen (dCons (dV 0) dNil))))))) dNext) (dSeq (dSet 2 (dOp fMod (dCB fInt (dCons (dOp fAdd (dOp fMul (dV 2) (dC (.int 48271))) (dOp fMul (dC (.int 69621)) (dV 1))) dNil)) (dC (.int 2147483647)))) (dRet (dOp fMod (dCB fInt (dCons (dOp fAdd (dOp fMul (dV 2) (dV 2)) (dOp fMul (dC (.int 48271)) (dOp fDiv (dV 2) (dC (.int 1000))))) dNil)) (dC (.int 2147483629)))))) (endsD O Q E) [some (.rl (ns.map .int)), some (.d (.int k)), none] O := by
    walk_at "uz"
    refine x_mulL (by decide) ?_
    walk_at "uz"
    have tail : ∀ v : Int, dSeq (dSet 2 (dOp fMod (dCB fInt (dCons (dOp fAdd (dOp fMul (dV 2) (dC (.int 48271))) (dOp fMul (dC (.int 69621)) (dV 1))) dNil)) (dC (.int 2147483647)))) (dRet (dOp fMod (dCB fInt (dCons (dOp fAdd (dOp fMul (dV 2) (dV 2)) (dOp fMul (dC (.int 48271)) (dOp fDiv (dV 2) (dC (.int 1000))))) dNil)) (dC (.int 2147483629)))) (endsD O Q E) [some (.rl (ns.map .int)), some (.d (.int k)), some (.d (.int v))] O := fun v => by
      walk_at "uz"
      refine x_mulR (by decide) ?_
      walk_at "uz"
      refine x_mulL (by decide) ?_
      walk_at "uz"
      refine x_mod (by decide) ?_
      have h1 := Int.emod_nonneg (v * 48271 + 69621 * (k : Int)) (b := 2147483647) (by decide)
      have h2 := Int.emod_lt_of_pos (v * 48271 + 69621 * (k : Int)) (b := 2147483647) (by decide)
      generalize (v * 48271 + 69621 * (k : Int)) % 2147483647 = u at *
      walk_at "uz"
      refine x_mulL (by omega) ?_
      walk_at "uz"
      refine x_div (by decide) (by decide) ?_
      refine x_mulL (by decide) ?_
      walk_at "uz"
      refine x_mod (by decide) ?_
      exact x_fret (x_fin (q _))
    refine x_dec (fun h => ?_) (fun h => ?_)
    · walk_at "uz"
      refine x_mod (by omega) ?_
      have hlen : (0 : Int) < ((ns.map PyData.int).length : Int) := h
      rw [List.length_map] at hlen ⊢
      have b1 := Int.emod_nonneg (k : Int) (b := ns.length) (by omega)
      have b2 := Int.emod_lt_of_pos (k : Int) hlen
      obtain ⟨m, em⟩ : ∃ m : Nat, (k : Int) % (ns.length : Int) = m := ⟨((k : Int) % (ns.length : Int)).toNat, by omega⟩
      rw [em] at b2 ⊢
      refine x_ixR (y := .int (ns[m]'(by omega))) (ati_nat (by rw [List.getElem?_map, List.getElem?_eq_getElem (by omega)]; rfl)) ?_
      refine x_mulL (by decide) ?_
      walk_at "uz"
      exact tail _
    · walk_at "uz"
      exact tail _
  unfold t_law_cell
  walk_at "uz"
  refine x_dec (fun h => ?_) (fun h => ?_)
  · rw [List.length_map] at h
    have hk2 : k < ns.length := by omega
    have e1 : (ns.map PyData.int)[k]? = some (.int ns[k]) := by rw [List.getElem?_map, List.getElem?_eq_getElem hk2]; rfl
    walk_at "uz"
    refine x_ixR (ati_nat e1) ?_
    walk_at "uz"
    refine x_pow (by refine ⟨by decide, by decide, by decide⟩) ?_
    walk_at "uz"
    refine x_dec (fun h => ?_) (fun h => ?_)
    · walk_at "uz"
      refine x_ixR (ati_nat e1) ?_
      exact x_fret (x_fin (q _))
    · walk_at "uz"
      exact rest
  · walk_at "uz"
    exact rest
theorem r_law_big : ∀ ws O Q E, sp_law_big ws O Q E → t_law_big (endsD O Q E) (startD ["script", "at", "count", "found", "k"] ws) O := by
  rintro ws O Q E ⟨ns, rfl, q⟩
  unfold t_law_big
  walk_at "uz"
  refine ⟨by decide, by decide, ?_⟩
  refine forL_inv (fun i Γ O' => (∃ (v : Int) (b : Option W), Γ = [some (.rl (ns.map .int)), some (.d (.int 0)), some (.d (.int 60)), some (.d (.int v)), b]) ∧ O' = O) ⟨⟨0, _, rfl⟩, rfl⟩ (fun _ _ _ _ _ => trivial) (fun i w Γ O' e h => ?_) fun Γ O' h => ?_
  · obtain ⟨⟨v, b, rfl⟩, rfl⟩ := h
    obtain ⟨hi, rfl⟩ := rng_get e
    rw [Int.zero_add]
    walk_at "uz"
    refine x_mulR (by decide) ?_
    walk_at "uz"
    rw [Int.zero_add]
    have : i < 60 := hi
    refine ⟨ns, i, rfl, by omega, fun u => ?_⟩
    walk_at "uz"
    exact ⟨⟨_, _, rfl⟩, rfl⟩
  · obtain ⟨⟨v, b, rfl⟩, rfl⟩ := h
    walk_at "uz"
    refine ⟨by show 1 ≤ sizeLine; decide, ?_⟩
    exact x_fret (x_fin (q v))
theorem r_law_take : ∀ ws O Q E, sp_law_take ws O Q E → t_law_take (endsD O Q E) (startD ["state", "m", "x"] ws) O := by
  rintro ws O Q E ⟨k, n, v, rfl, h0, h1, e, q⟩
  unfold t_law_take
  walk_at "uz"
  refine x_ixO e (y := .d (.int v)) rfl ?_
  walk_at "uz"
  refine x_mod h0 ?_
  walk_at "uz"
  refine x_ixO e (y := .d (.int v)) rfl ?_
  walk_at "uz"
  refine x_div h0 (by omega) ?_
  walk_at "uz"
  refine x_sub ?_
  walk_at "uz"
  refine x_setL e (m := 0) rfl ?_
  walk_at "uz"
  exact x_fret (x_fin (q _ _ (Int.emod_nonneg _ (by omega)) (Int.emod_lt_of_pos _ h0)))
theorem r_law_opposite : ∀ ws O Q E, sp_law_opposite ws O Q E → t_law_opposite (endsD O Q E) (startD ["word", "name", "sign"] ws) O := by
  rintro ws O Q E ⟨l, rfl, hl, q⟩
  unfold t_law_opposite
  walk_at "uz"
  refine ⟨_, rfl, ?_⟩
  refine lcL_map l.reverse wD (fun p => wD (inv p)) (by rw [map_dd]) (by rw [List.length_reverse]; unfold big at hl; unfold sizeLine; omega) trivial (fun x hx N hN => ?_) ?_
  · obtain ⟨a, b⟩ := x
    change tgD _ (.d (.tuple [.str a, .int b])) _ _
    refine x_tg2 rfl ?_
    walk_at "uz"
    exact hN
  · refine x_alldt (a := op l) (by unfold op opp; rw [← List.map_reverse, List.map_map]; rfl) ?_
    walk_at "uz"
    exact x_fret (x_fin q)
theorem inv_ne {x y : P} (hx : OkP x) (hy : OkP y) : (x.1 = y.1 ∧ x.2 ≠ y.2) ↔ y = inv x := by
  obtain ⟨a, b⟩ := x
  obtain ⟨c, d⟩ := y
  have hx : b = 1 ∨ b = -1 := hx.2
  have hy : d = 1 ∨ d = -1 := hy.2
  constructor
  · rintro ⟨h1, h2⟩
    have h1 : a = c := h1
    have h2 : b ≠ d := h2
    show (c, d) = (a, -b)
    rw [h1]
    congr 1
    omega
  · intro h
    have : (c, d) = (a, -b) := h
    injection this with h1 h2
    refine ⟨h1.symm, ?_⟩
    show b ≠ d
    omega
theorem r_law_reduced : ∀ ws O Q E, sp_law_reduced ws O Q E → t_law_reduced (endsD O Q E) (startD ["word", "left", "at", "turn"] ws) O := by
  rintro ws O Q E ⟨l, rfl, ol, hl, q⟩
  unfold big at hl
  unfold t_law_reduced
  walk_at "uz"
  refine x_mulL (by decide) ?_
  walk_at "uz"
  refine ⟨by omega, by omega, ?_⟩
  have en : ((3 : Int) * (l.length : Int) + 3).toNat = 3 * l.length + 3 := by omega
  rw [en]
  refine forL_inv (fun i Γ O' => ∃ (left : List P) (k : Nat) (c : Option W), Γ = [some (.d (tD l)), some (.d (lD left)), some (.d (.int k)), c] ∧ O' = O ∧ Ptr (inv := inv) l left k ∧ OkL left ∧ 2 * left.length + i ≤ k + 2 * l.length) ⟨l, 0, _, rfl, rfl, .start l, ol, by omega⟩ (fun _ _ _ _ _ => trivial) (fun i w Γ O' e h => ?_) fun Γ O' h => ?_
  · obtain ⟨left, k, c, rfl, rfl, hp, ok, hm⟩ := h
    walk_at "uz"
    refine x_dec (fun z => ?_) (fun z => ?_)
    · walk_at "uz"
      have e3 := hp.done inv_inv (by omega)
      subst e3
      exact x_fret (x_fin q)
    · have hk : k + 1 < left.length := by omega
      have hlk := hp.le
      obtain ⟨x, ex⟩ : ∃ x, left[k]? = some x := ⟨_, List.getElem?_eq_getElem (by omega)⟩
      obtain ⟨y, ey⟩ : ∃ y, left[k + 1]? = some y := ⟨_, List.getElem?_eq_getElem (by omega)⟩
      have okx := ok x (List.mem_of_getElem? ex)
      have oky := ok y (List.mem_of_getElem? ey)
      have hinv := inv_ne okx oky
      have advance : y ≠ inv x → dSet 2 (dOp fAdd (dV 2) (dC (.int 1))) { (endsD O' Q E) with nx := fun Γ O1 => ∃ (left : List P) (k : Nat) (c : Option W), Γ = [some (.d (tD l)), some (.d (lD left)), some (.d (.int k)), c] ∧ O1 = O' ∧ Ptr (inv := inv) l left k ∧ OkL left ∧ 2 * left.length + (i + 1) ≤ k + 2 * l.length } [some (.d (tD l)), some (.d (lD left)), some (.d (.int k)), some w] O' := fun hne => by
        walk_at "uz"
        exact ⟨left, k + 1, _, rfl, rfl, hp.next ex ey hne, ok, by omega⟩
      obtain ⟨x1, x2⟩ := x
      obtain ⟨y1, y2⟩ := y
      have ix1 : ∀ Q' : DQ, Q' (.d (.tuple [.str x1, .int x2])) O' → fIxL (.d (lD left)) (.d (.int k)) O' Q' := fun Q' h => x_ixLt (ati_nat ex) h
      have iy1 : ∀ Q' : DQ, Q' (.d (.tuple [.str y1, .int y2])) O' → fIxL (.d (lD left)) (.d (.int ((k : Int) + 1))) O' Q' := fun Q' h => x_ixLt (i := ((k + 1 : Nat) : Int)) (ati_nat ey) h
      walk_at "uz"
      refine ix1 _ ?_
      walk_at "uz"
      refine iy1 _ ?_
      walk_at "uz"
      refine x_dec (fun z1 => ?_) (fun z1 => ?_)
      · walk_at "uz"
        refine ix1 _ ?_
        walk_at "uz"
        refine iy1 _ ?_
        walk_at "uz"
        refine x_ndec (fun z2 => ?_) (fun z2 => ?_)
        · have hyx := hinv.mp ⟨z1, z2⟩
          walk_at "uz"
          rw [cut_to, show (k : Int) + 2 = ((k + 2 : Nat) : Int) by omega, cut_from]
          refine x_addLt (by rw [List.length_take, List.length_drop]; unfold sizeLine; omega) ?_
          walk_at "uz"
          have e2 : (if (k : Int) - 1 > 0 then (k : Int) - 1 else 0) = ((k - 1 : Nat) : Int) := by
            by_cases h : (k : Int) - 1 > 0
            · rw [if_pos h]; omega
            · rw [if_neg h]; omega
          rw [e2]
          refine ⟨left.take k ++ left.drop (k + 2), k - 1, _, rfl, rfl, hp.cut inv_inv ex ey hyx, fun p hp => ok p ((List.mem_append.mp hp).elim List.mem_of_mem_take List.mem_of_mem_drop), ?_⟩
          rw [List.length_append, List.length_take, List.length_drop]
          omega
        · walk_at "uz"
          exact advance fun h => (hinv.mpr h).2 z2
      · walk_at "uz"
        exact advance fun h => z1 (hinv.mpr h).1
  · obtain ⟨left, k, c, rfl, rfl, hp, ok, hm⟩ := h
    rw [rng_len] at hm
    have := hp.le
    omega
theorem same_seq {n : Nat} {O : List Ob} (a : PyData) (xs : List PyData) (hx : ∀ i : Nat, ∀ y, xs[i]? = some y → ∀ R : DQ, R (.d y) O → fIxQ (.d a) (.d (.int i)) O R) (hl : xs.length ≤ big) (hs : ∀ y ∈ xs, Shp n y)
    (F : DQ) (q : F (.d (.list [])) O) :
    dLcL (.one 2) (dNotT (dTst (dCall (sp_law_same n) (dCons (dOp fIxQ (dV 0) (dV 2)) (dCons (dOp fIxQ (dV 1) (dV 2)) dNil))))) (dV 2) tt0 [some (.d a), some (.d a), none, none] (rng 0 xs.length) [] O fun acc O2 => kLc acc O2 F := by
  unfold big at hl
  refine lcL_filter (List.range xs.length) (fun i => .d (.int (0 + (i : Int)))) (fun _ => none) rfl (by rw [List.length_range]; unfold sizeLine; omega) trivial (fun i hi N M hN => ?_) ?_
  · rw [List.mem_range] at hi
    have hN : M O := hN
    obtain ⟨y, ey⟩ : ∃ y, xs[i]? = some y := ⟨_, List.getElem?_eq_getElem hi⟩
    rw [Int.zero_add]
    refine x_tg1 ?_
    walk_at "uz"
    refine hx i y ey _ ?_
    walk_at "uz"
    refine hx i y ey _ ?_
    refine ⟨y, rfl, hs y (List.mem_of_getElem? ey), ?_⟩
    walk_at "uz"
    exact hN
  · have e : (List.range xs.length).filterMap (fun _ => (none : Option W)) = [] := by
      rw [List.filterMap_eq_nil_iff]; intros; rfl
    rw [e]
    exact x_alld (xs := []) rfl q
theorem eqv_int (i : Int) : PyData.eqv (.int i) (.int i) = true := by
  have := Datum.eqv i i
  rw [show decide (i = i) = true from decide_eq_true rfl] at this
  exact this
theorem eqv_str (i : Str) : PyData.eqv (.str i) (.str i) = true := by
  have := Datum.eqv i i
  rw [show decide (i = i) = true from decide_eq_true rfl] at this
  exact this
theorem eqv_bool (i : Bool) : PyData.eqv (.bool i) (.bool i) = true := by cases i <;> decide +kernel
theorem r_law_same (n : Nat) : ∀ ws O Q E, sp_law_same (n + 1) ws O Q E → t_law_same n (endsD O Q E) (startD ["one", "two", "k", "key"] ws) O := by
  rintro ws O Q E ⟨x, rfl, hs, q⟩
  unfold t_law_same
  cases x with
  | none =>
    walk_at "uz"
    refine x_eqD ⟨by decide +kernel, by decide +kernel⟩ ⟨by decide +kernel, by decide +kernel⟩ ?_
    exact x_fret (x_fin q)
  | bool b =>
    walk_at "uz"
    refine x_eqD ⟨rfl, by cases b <;> decide +kernel⟩ ⟨rfl, by cases b <;> decide +kernel⟩ ?_
    rw [eqv_bool]
    exact x_fret (x_fin q)
  | int b =>
    walk_at "uz"
    refine x_eqD (okD_datum b) (okD_datum b) ?_
    rw [eqv_int]
    exact x_fret (x_fin q)
  | str b =>
    walk_at "uz"
    refine x_eqD (okD_datum b) (okD_datum b) ?_
    rw [eqv_str]
    exact x_fret (x_fin q)
  | list xs =>
    obtain ⟨hl, hs⟩ := hs
    have hl2 := hl
    unfold big at hl2
    walk_at "uz"
    refine x_ndecT rfl ?_
    walk_at "uz"
    refine ⟨by omega, by omega, ?_⟩
    rw [Int.toNat_natCast]
    refine same_seq (.list xs) xs (fun i y ey R h => .inl ?_) hl hs _ ?_
    rotate_left
    · walk_at "uz"
      refine x_eqD (okD_l ([] : List Int)) (okD_l ([] : List Int)) ?_
      exact x_fret (x_fin q)
    exact x_ixL (ati_nat ey) h
  | tuple xs =>
    obtain ⟨hl, hs⟩ := hs
    have hl2 := hl
    unfold big at hl2
    walk_at "uz"
    refine x_ndecT rfl ?_
    walk_at "uz"
    refine ⟨by omega, by omega, ?_⟩
    rw [Int.toNat_natCast]
    refine same_seq (.tuple xs) xs (fun i y ey R h => .inr ?_) hl hs _ ?_
    rotate_left
    · walk_at "uz"
      refine x_eqD (okD_l ([] : List Int)) (okD_l ([] : List Int)) ?_
      exact x_fret (x_fin q)
    exact x_ixT (ati_nat ey) h
  | dict xs => exact hs.elim
theorem set_get {O : List Ob} {k : Nat} {a b : Ob} (e : O[k]? = some a) : (O.set k b)[k]? = some b := by
  have := (List.getElem?_eq_some_iff.mp e).1
  rw [List.getElem?_set_self this]
theorem r_law_group_word : ∀ ws O Q E, sp_law_group_word ws O Q E → t_law_group_word (endsD O Q E) (startD ["state", "names", "most", "turn"] ws) O := by
  rintro ws O Q E ⟨k, v, names, n, rfl, e, hn, h3, hL, hm, q⟩
  have hpos : 0 < names.length := List.length_pos_iff.mpr hn
  unfold t_law_group_word
  walk_at "uz"
  refine ⟨k, _, v, rfl, by omega, by omega, e, fun r v1 hr0 hr1 => ?_⟩
  walk_at "uz"
  refine ⟨by omega, by omega, ?_⟩
  refine lcL_inv (fun i acc O' => ∃ (l : List P) (v' : Int), acc = (l.map fun x => .d (Datum.toD x)) ∧ OkL l ∧ l.length = i ∧ O' = O.set k (.lst [.d (.int v')])) ⟨[], v1, rfl, fun p hp => absurd hp (List.not_mem_nil), rfl, rfl⟩ (fun _ _ _ _ _ => trivial) (fun i w acc O' e' h => ?_) fun acc O' h => ?_
  · obtain ⟨l, v', rfl, ol, rfl, rfl⟩ := h
    obtain ⟨hi, rfl⟩ := rng_get e'
    refine x_tg1 ?_
    walk_at "uz"
    refine ⟨k, _, v', rfl, by omega, by omega, set_get e, fun r1 v2 h4 h5 => ?_⟩
    walk_at "uz"
    rw [List.set_set]
    obtain ⟨m, rfl⟩ : ∃ m : Nat, r1 = (m : Int) := ⟨r1.toNat, by omega⟩
    have hmn : m < names.length := by omega
    refine x_ixLt (ati_nat (List.getElem?_eq_getElem hmn)) ?_
    walk_at "uz"
    refine ⟨k, _, v2, rfl, by omega, by omega, set_get e, fun r2 v3 h6 h7 => ?_⟩
    refine x_mulL (by decide) ?_
    walk_at "uz"
    rw [List.set_set]
    refine ⟨?_, l ++ [(names[m], 1 - 2 * r2)], v3, ?_, ?_, ?_, rfl⟩
    · rw [List.length_map]; unfold sizeLine; omega
    · rw [List.map_append]; rfl
    · refine ol.app fun p hp => ?_
      rw [List.mem_singleton] at hp
      subst hp
      refine ⟨hL _ (List.getElem_mem _), ?_⟩
      show 1 - 2 * r2 = 1 ∨ 1 - 2 * r2 = -1
      omega
    · rw [List.length_append]; rfl
  · obtain ⟨l, v', rfl, ol, hl, rfl⟩ := h
    rw [rng_len] at hl
    refine x_alldt rfl ?_
    walk_at "uz"
    exact x_fret (x_fin (q l v' ol (by omega)))
theorem rep_ok {l : List P} (h : OkL l) (n : Nat) : OkL (List.replicate n l).flatten := fun p hp => by
  obtain ⟨m, hm, hp⟩ := List.mem_flatten.mp hp
  rw [(List.mem_replicate.mp hm).2] at hp
  exact h p hp
theorem rep_len (l : List P) (n : Nat) : (List.replicate n l).flatten.length = n * l.length := by
  rw [List.length_flatten, List.map_replicate, List.sum_replicate_nat]
theorem str_x : Str.ofString "x" = ⟨#[120]⟩ := by decide +kernel
theorem str_y : Str.ofString "y" = ⟨#[121]⟩ := by decide +kernel
theorem str_w : Str.ofString "w" = ⟨#[119]⟩ := by decide +kernel
theorem str_X : Str.ofString "X" = ⟨#[88]⟩ := by decide +kernel
theorem str_a3 : Str.ofString "a3" = ⟨#[97, 51]⟩ := by decide +kernel
theorem str_x1y : Str.ofString "x1y" = ⟨#[120, 49, 121]⟩ := by decide +kernel
theorem len_2 {O : List Ob} {Q : DQ} {a b : Nat} (h : Q (.d (.int 2)) O) : fLen [.d (.str ⟨#[a, b]⟩)] O Q := ⟨by show 2 ≤ sizeLine; decide, h⟩
theorem len_3 {O : List Ob} {Q : DQ} {a b c : Nat} (h : Q (.d (.int 3)) O) : fLen [.d (.str ⟨#[a, b, c]⟩)] O Q := ⟨by show 3 ≤ sizeLine; decide, h⟩
theorem ix_20 {O : List Ob} {Q : DQ} {a b : Nat} (h : Q (.d (.str ⟨#[a]⟩)) O) : fIxS (.d (.str ⟨#[a, b]⟩)) (.d (.int 0)) O Q := ⟨by show 2 ≤ sizeLine; decide, a, rfl, h⟩
theorem ix_21 {O : List Ob} {Q : DQ} {a b : Nat} (h : Q (.d (.str ⟨#[b]⟩)) O) : fIxS (.d (.str ⟨#[a, b]⟩)) (.d (.int 1)) O Q := ⟨by show 2 ≤ sizeLine; decide, b, rfl, h⟩
theorem r_is_letter_name : ∀ ws O Q E, sp_is_letter_name ws O Q E → t_is_letter_name (endsD O Q E) (startD ["name"] ws) O := by
  rintro ws O Q E ⟨x, b, rfl, hm, q⟩
  unfold t_is_letter_name
  simp only [tabL, List.mem_cons, Prod.mk.injEq, List.not_mem_nil, or_false] at hm
  rcases hm with ⟨rfl, rfl⟩ | ⟨rfl, rfl⟩ | ⟨rfl, rfl⟩ | ⟨rfl, rfl⟩ | ⟨rfl, rfl⟩ | ⟨rfl, rfl⟩ | ⟨rfl, rfl⟩
  · rw [str_x]; walk_at "uz"; exact x_fret (x_fin q)
  · rw [str_y]; walk_at "uz"; exact x_fret (x_fin q)
  · rw [str_w]; walk_at "uz"; exact x_fret (x_fin q)
  · rw [str_a3]
    walk_at "uz"
    refine len_2 ?_
    walk_at "uz"
    refine ix_20 ?_
    walk_at "uz"
    refine len_2 ?_
    walk_at "uz"
    refine ix_21 ?_
    walk_at "uz"
    have e : decide (51 ∈ (Str.ofString "0123456789").cps.toList) = true := by decide +kernel
    rw [e]
    exact x_fret (x_fin q)
  · rw [str_X]; walk_at "uz"; exact x_fret (x_fin q)
  · walk_at "uz"; exact x_fret (x_fin q)
  · rw [str_x1y]
    walk_at "uz"
    refine len_3 ?_
    walk_at "uz"
    exact x_fret (x_fin q)
theorem r_is_sign : ∀ ws O Q E, sp_is_sign ws O Q E → t_is_sign (endsD O Q E) (startD ["value"] ws) O := by
  rintro ws O Q E ⟨x, b, rfl, hm, q⟩
  unfold t_is_sign
  simp only [tabS, List.mem_cons, Prod.mk.injEq, List.not_mem_nil, or_false] at hm
  have ok : ∀ i : Int, okD (.int i) := fun i => okD_datum i
  have go : ∀ (i : Int) (b : Bool), ([PyData.int 1, PyData.int (-1)].any fun z => PyData.eqv z (.int i)) = b → Q (.d (.bool b)) O → fInD (.d (.int i)) (.d (.list [.int 1, .int (-1)])) O (endsD O Q E).rt := fun i b e q => by
    refine x_inD (ok i) (okD_l [(1 : Int), -1]) ?_
    rw [e]
    exact x_fret (x_fin q)
  rcases hm with ⟨rfl, rfl⟩ | ⟨rfl, rfl⟩ | ⟨rfl, rfl⟩ | ⟨rfl, rfl⟩ | ⟨rfl, rfl⟩
  · walk_at "uz"; exact go _ _ (by decide +kernel) q
  · walk_at "uz"; exact go _ _ (by decide +kernel) q
  · walk_at "uz"; exact go _ _ (by decide +kernel) q
  · walk_at "uz"; exact x_fret (x_fin q)
  · walk_at "uz"; exact go _ _ (by decide +kernel) q
theorem ltr_tab {s : Str} (h : Ltr s) : (PyData.str s, true) ∈ tabL := by
  rcases h with rfl | rfl | rfl | rfl <;> simp [tabL]
theorem sgn_tab {i : Int} (h : i = 1 ∨ i = -1) : (PyData.int i, true) ∈ tabS := by
  rcases h with rfl | rfl <;> simp [tabS]
theorem r_is_pair : ∀ ws O Q E, sp_is_pair ws O Q E → t_is_pair (endsD O Q E) (startD ["value"] ws) O := by
  rintro ws O Q E ⟨x, rfl, h⟩
  unfold t_is_pair
  rcases h with ⟨⟨a, b⟩, ⟨h1, h2⟩, rfl, q⟩ | ⟨hm, q⟩
  · change dRet _ _ (startD _ [.d (.tuple [.str a, .int b])]) O
    walk_at "uz"
    refine ⟨_, _, rfl, ltr_tab h1, ?_⟩
    walk_at "uz"
    refine ⟨_, _, rfl, sgn_tab h2, ?_⟩
    exact x_fret (x_fin q)
  · have out : ∀ {O1 : List Ob}, O1 = O → (endsD O Q E).rt (.d (.bool false)) O1 := fun e => by rw [e]; exact x_fret (x_fin q)
    simp only [wrongs, List.mem_cons, List.not_mem_nil, or_false] at hm
    have tl : ∀ {y : PyData} {b : Bool}, (y, b) ∈ [(PyData.str "x", true), (.str "X", false), (.int 1, false), (.str "x1y", false)] → (y, b) ∈ tabL := fun h => by
      simp only [List.mem_cons, Prod.mk.injEq, List.not_mem_nil, or_false] at h
      rcases h with ⟨rfl, rfl⟩ | ⟨rfl, rfl⟩ | ⟨rfl, rfl⟩ | ⟨rfl, rfl⟩ <;> simp [tabL]
    rcases hm with rfl | rfl | rfl | rfl | rfl | rfl | rfl | rfl | rfl | rfl
    · walk_at "uz"
      refine ⟨_, true, rfl, tl (by simp), ?_⟩
      walk_at "uz"
      refine ⟨_, false, rfl, by simp [tabS], ?_⟩
      exact out rfl
    · walk_at "uz"
      refine ⟨_, true, rfl, tl (by simp), ?_⟩
      walk_at "uz"
      refine ⟨_, false, rfl, by simp [tabS], ?_⟩
      exact out rfl
    · walk_at "uz"
      refine ⟨_, false, rfl, tl (by simp), ?_⟩
      walk_at "uz"
      exact out rfl
    · walk_at "uz"
      exact out rfl
    · walk_at "uz"
      exact out rfl
    · walk_at "uz"
      exact out rfl
    · walk_at "uz"
      exact out rfl
    · walk_at "uz"
      refine ⟨_, true, rfl, tl (by simp), ?_⟩
      walk_at "uz"
      refine ⟨_, false, rfl, by simp [tabS], ?_⟩
      exact out rfl
    · walk_at "uz"
      refine ⟨_, false, rfl, tl (by simp), ?_⟩
      walk_at "uz"
      exact out rfl
    · walk_at "uz"
      refine ⟨_, false, rfl, tl (by simp), ?_⟩
      walk_at "uz"
      exact out rfl
theorem enum_get {xs : List PyData} {i : Nat} {w : W} (e : (enumW 0 (xs.map W.d))[i]? = some w) : ∃ x, xs[i]? = some x ∧ w = .d (.tuple [.int i, x]) := by
  rw [enumW_get, List.getElem?_map] at e
  cases h : xs[i]? with
  | none => rw [h] at e; cases e
  | some x =>
    rw [h] at e
    cases e
    refine ⟨x, rfl, ?_⟩
    rw [Nat.zero_add]; rfl
theorem log_le {n : Nat} (h : n ≤ 1000) : (n : Int).natAbs.log2 < 1920 := by
  rw [Int.natAbs_natCast]
  exact Nat.lt_of_lt_of_le (PySem.Flt.log2_lt_of (k := 10) (by decide) (by omega)) (by decide)
theorem Bad.before {xs : List PyData} {n : Nat} (h : Bad xs n) : (∀ i x, i < n → xs[i]? = some x → ∃ p : P, OkP p ∧ x = Datum.toD p) ∧ (∃ y, xs[n]? = some y ∧ y ∈ wrongs) ∧ n < xs.length ∧ n ≤ 1000 := by
  obtain ⟨a, b, y, rfl, ha, hy, rfl, hn⟩ := h
  refine ⟨fun i x hi e => ?_, ⟨y, ?_, hy⟩, ?_, hn⟩
  · rw [List.getElem?_append_left (by rw [List.length_map]; exact hi), List.getElem?_map] at e
    cases h : a[i]? with
    | none => rw [h] at e; cases e
    | some p => rw [h] at e; cases e; exact ⟨p, ha p (List.mem_of_getElem? h), rfl⟩
  · rw [List.getElem?_append_right (by rw [List.length_map]; exact Nat.le_refl _), List.length_map, Nat.sub_self]; rfl
  · rw [List.length_append, List.length_map, List.length_cons]; omega
theorem r_check_group_word : ∀ ws O Q E, sp_check_group_word ws O Q E → t_check_group_word (endsD O Q E) (startD ["word", "place", "pair"] ws) O := by
  rintro ws O Q E ⟨xs, rfl, h⟩
  unfold t_check_group_word
  rcases h with ⟨l, rfl, hs, q⟩ | ⟨n, hb, q⟩
  · walk_at "uz"
    refine forL_inv (fun _ Γ O' => (∃ a b, Γ = [some (.d (tD l)), a, b]) ∧ O' = O) ⟨⟨_, _, rfl⟩, rfl⟩ (fun _ _ _ _ _ => trivial) (fun i w Γ O' e h => ?_) fun Γ O' h => by
      rw [h.2]; exact x_finN q
    obtain ⟨⟨a, b, rfl⟩, rfl⟩ := h
    obtain ⟨x, ex, rfl⟩ := enum_get e
    rw [List.getElem?_map] at ex
    cases hp : l[i]? with
    | none => rw [hp] at ex; cases ex
    | some p =>
      rw [hp] at ex; cases ex
      walk_at "uz"
      refine ⟨_, rfl, .inl ⟨p, hs p (List.mem_of_getElem? hp), rfl, ?_⟩⟩
      walk_at "uz"
      exact ⟨⟨_, _, rfl⟩, rfl⟩
  · obtain ⟨b1, ⟨y, b2, b3⟩, b4, b5⟩ := hb.before
    walk_at "uz"
    refine forL_inv (fun i Γ O' => i ≤ n ∧ (∃ a b, Γ = [some (.d (.tuple xs)), a, b]) ∧ O' = O) ⟨Nat.zero_le _, ⟨_, _, rfl⟩, rfl⟩ (fun _ _ _ _ _ => trivial) (fun i w Γ O' e h => ?_) fun Γ O' h => ?_
    · obtain ⟨hi, ⟨a, b, rfl⟩, rfl⟩ := h
      obtain ⟨x, ex, rfl⟩ := enum_get e
      walk_at "uz"
      by_cases hin : i < n
      · obtain ⟨p, hp, rfl⟩ := b1 i x hin ex
        refine ⟨_, rfl, .inl ⟨p, hp, rfl, ?_⟩⟩
        walk_at "uz"
        exact ⟨hin, ⟨_, _, rfl⟩, rfl⟩
      · have ein : i = n := by omega
        subst ein
        rw [ex] at b2
        cases b2
        refine ⟨_, rfl, .inr ⟨b3, ?_⟩⟩
        walk_at "uz"
        refine ⟨[.int i], rfl, rfl, by decide, fun z hz => ?_, x_fex q⟩
        rw [List.mem_singleton] at hz
        subst hz
        exact log_le b5
    · have hl : (enumW 0 (xs.map W.d)).length = xs.length := by
        have : ∀ (ws : List W) (j : Nat), (enumW j ws).length = ws.length := by
          intro ws
          induction ws with
          | nil => intro j; rfl
          | cons w ws ih => intro j; show (enumW (j + 1) ws).length + 1 = _; rw [ih]; rfl
        rw [this, List.length_map]
      rw [hl] at h
      omega
theorem r_reduced : ∀ ws O Q E, sp_reduced ws O Q E → t_reduced (endsD O Q E) (startD ["word"] ws) O := by
  rintro ws O Q E ⟨xs, rfl, h⟩
  unfold t_reduced
  rcases h with ⟨l, rfl, ho, hl, q⟩ | ⟨n, hb, q⟩
  · walk_at "uz"
    refine ⟨_, rfl, .inl ⟨l, rfl, ho, ?_⟩⟩
    walk_at "uz"
    exact ⟨l, rfl, hl, x_fret (x_fin q)⟩
  · walk_at "uz"
    exact ⟨_, rfl, .inr ⟨n, hb, x_fex q⟩⟩
theorem r_group_inverse : ∀ ws O Q E, sp_group_inverse ws O Q E → t_group_inverse (endsD O Q E) (startD ["word"] ws) O := by
  rintro ws O Q E ⟨xs, rfl, h⟩
  unfold t_group_inverse
  rcases h with ⟨l, rfl, ho, hl, q⟩ | ⟨n, hb, q⟩
  · walk_at "uz"
    refine ⟨_, rfl, .inl ⟨l, rfl, ho, hl, ?_⟩⟩
    walk_at "uz"
    exact ⟨_, rfl, sh_len hl, x_fret (x_fin q)⟩
  · walk_at "uz"
    exact ⟨_, rfl, .inr ⟨n, hb, x_fex q⟩⟩
theorem rep_len2 (n : Nat) (l : List P) : (rep n l).length = n * l.length := by unfold rep; exact rep_len l n
theorem r_group_power : ∀ ws O Q E, sp_group_power ws O Q E → t_group_power (endsD O Q E) (startD ["word", "count", "one"] ws) O := by
  rintro ws O Q E ⟨xs, c, rfl, h1, h2, h⟩
  have hc : c.natAbs ≤ 10 := by omega
  have fits : ∀ {m : List P}, m.length ≤ 1000 → (rep c.natAbs m).length ≤ big := fun {m} hm => by
    rw [rep_len2]
    exact Nat.le_trans (Nat.mul_le_mul hc hm) (by decide)
  unfold t_group_power
  walk_at "uz"
  rcases h with ⟨l, rfl, ho, hl, q⟩ | ⟨n, hb, q⟩
  · unfold powF at q
    refine x_dec (fun z => ?_) (fun z => ?_)
    · rw [if_pos z] at q
      walk_at "uz"
      refine ⟨_, rfl, .inl ⟨l, rfl, ho, by unfold big; omega, ?_⟩⟩
      walk_at "uz"
      refine x_repTt (by omega) (sh_len hl) ?_
      walk_at "uz"
      exact ⟨rep c.natAbs (sh l), rfl, fits (sh_len hl), x_fret (x_fin q)⟩
    · rw [if_neg z] at q
      walk_at "uz"
      refine ⟨_, rfl, .inl ⟨l, rfl, ho, by unfold big; omega, ?_⟩⟩
      walk_at "uz"
      refine x_repTt (by omega) (by rw [op_len]; exact sh_len hl) ?_
      walk_at "uz"
      exact ⟨rep c.natAbs (op (sh l)), rfl, fits (by rw [op_len]; exact sh_len hl), x_fret (x_fin q)⟩
  · refine x_dec (fun z => ?_) (fun z => ?_)
    · walk_at "uz"
      exact ⟨_, rfl, .inr ⟨n, hb, x_fex q⟩⟩
    · walk_at "uz"
      exact ⟨_, rfl, .inr ⟨n, hb, x_fex q⟩⟩
theorem r_commutator_word : ∀ ws O Q E, sp_commutator_word ws O Q E → t_commutator_word (endsD O Q E) (startD ["one", "two"] ws) O := by
  rintro ws O Q E ⟨a, xs, rfl, oa, la, h⟩
  unfold t_commutator_word
  walk_at "uz"
  refine ⟨_, rfl, .inl ⟨a, rfl, oa, ?_⟩⟩
  walk_at "uz"
  rcases h with ⟨b, rfl, ob, lb, q⟩ | ⟨n, hb, q⟩
  · refine ⟨_, rfl, .inl ⟨b, rfl, ob, ?_⟩⟩
    walk_at "uz"
    refine x_addTt (by unfold sizeLine; omega) ?_
    walk_at "uz"
    refine ⟨a, rfl, by unfold big; omega, ?_⟩
    refine x_addTt (by rw [List.length_append, op_len]; unfold sizeLine; omega) ?_
    walk_at "uz"
    refine ⟨b, rfl, by unfold big; omega, ?_⟩
    refine x_addTt (by rw [List.length_append, List.length_append, op_len, op_len]; unfold sizeLine; omega) ?_
    walk_at "uz"
    exact ⟨_, rfl, by rw [List.length_append, List.length_append, List.length_append, op_len, op_len]; unfold big; omega, x_fret (x_fin q)⟩
  · exact ⟨_, rfl, .inr ⟨n, hb, x_fex q⟩⟩
theorem r_group_product : ∀ ws O Q E, sp_group_product ws O Q E → t_group_product (endsD O Q E) (startD ["rows", "whole", "word"] ws) O := by
  rintro ws O Q E ⟨rows, rfl, h⟩
  unfold t_group_product
  rcases h with ⟨ls, rfl, ho, hl, q⟩ | ⟨a, xs, n, rfl, oa, la, hb, q⟩
  · walk_at "uz"
    refine forL_inv (fun i Γ O' => (∃ b, Γ = [some (.d (.list (ls.map tD))), some (.d (tD (ls.take i).flatten)), b]) ∧ O' = O) ⟨⟨_, rfl⟩, rfl⟩ (fun _ _ _ _ _ => trivial) (fun i w Γ O' e h => ?_) fun Γ O' h => ?_
    · obtain ⟨⟨b, rfl⟩, rfl⟩ := h
      rw [List.getElem?_map, List.getElem?_map] at e
      cases h : ls[i]? with
      | none => rw [h] at e; cases e
      | some l =>
        rw [h] at e; cases e
        obtain ⟨hi, e⟩ := List.getElem?_eq_some_iff.mp h
        walk_at "uz"
        refine ⟨_, rfl, .inl ⟨l, rfl, ho l (List.mem_of_getElem? h), ?_⟩⟩
        walk_at "uz"
        have hf : (ls.take (i + 1)).flatten = (ls.take i).flatten ++ l := by rw [List.take_succ_eq_append_getElem hi, e]; simp
        have hf2 : (ls.take (i + 1)).flatten.length ≤ ls.flatten.length := by
          have : ls.flatten = (ls.take (i + 1)).flatten ++ (ls.drop (i + 1)).flatten := by rw [← List.flatten_append, List.take_append_drop]
          rw [this, List.length_append]; omega
        refine x_addTt ?_ ?_
        · rw [← List.length_append, ← hf]
          unfold big at hl; unfold sizeLine; omega
        · rw [← hf]
          walk_at "uz"
          exact ⟨⟨_, rfl⟩, rfl⟩
    · obtain ⟨⟨b, rfl⟩, rfl⟩ := h
      walk_at "uz"
      rw [List.length_map, List.length_map, List.take_length]
      exact ⟨_, rfl, hl, x_fret (x_fin q)⟩
  · walk_at "uz"
    refine forL_cons trivial ?_
    walk_at "uz"
    refine ⟨_, rfl, .inl ⟨a, rfl, oa, ?_⟩⟩
    walk_at "uz"
    refine x_addTt (a := ([] : List P)) (b := a) (by show 0 + _ ≤ _; unfold sizeLine; omega) ?_
    walk_at "uz"
    refine forL_cons trivial ?_
    walk_at "uz"
    exact ⟨_, rfl, .inr ⟨n, hb, x_fex q⟩⟩
theorem tab_keys (kws : List (Str × List P)) : (tabW kws).map (·.1) = (kws.map (·.1)).map Sum.inr := by
  unfold tabW
  rw [List.map_map, List.map_map]; rfl
theorem tab_look (kws : List (Str × List P)) (y : Str) : lkW (tabW kws) (.inr y) = (lkW kws y).map fun l => W.d (tD l) := by
  induction kws with
  | nil => rfl
  | cons p kws ih =>
    obtain ⟨k, l⟩ := p
    by_cases e : k = y
    · subst e
      show lkW ((Sum.inr k, W.d (tD l)) :: tabW kws) (.inr k) = _
      rw [lkW_pos rfl, lkW_pos rfl]; rfl
    · show lkW ((Sum.inr k, W.d (tD l)) :: tabW kws) (.inr y) = _
      rw [lkW_neg (fun z => e (by injection z)), lkW_neg e, ih]
theorem look_mem {kws : List (Str × List P)} {y : Str} {l : List P} (h : lkW kws y = some l) : (y, l) ∈ kws := by
  induction kws with
  | nil => cases h
  | cons p kws ih =>
    obtain ⟨k, m⟩ := p
    by_cases e : k = y
    · rw [lkW_pos e] at h
      cases h
      subst e
      exact List.mem_cons_self ..
    · rw [lkW_neg e] at h
      exact List.mem_cons_of_mem _ (ih h)
theorem look_has {kws : List (Str × List P)} {y : Str} (h : y ∈ kws.map (·.1)) : ∃ l, lkW kws y = some l := by
  induction kws with
  | nil => cases h
  | cons p kws ih =>
    obtain ⟨k, m⟩ := p
    by_cases e : k = y
    · exact ⟨m, lkW_pos e⟩
    · rw [lkW_neg e]
      rw [List.map_cons] at h
      rcases List.mem_cons.mp h with z | h
      · exact absurd z.symm e
      · exact ih h
theorem putF_take {kws : List (Str × List P)} {l : List P} {i : Nat} {p : P} (e : l[i]? = some p) : putF kws (l.take (i + 1)) = putF kws (l.take i) ++ (if p.2 = 1 then (lkW kws p.1).getD [(p.1, 1)] else op ((lkW kws p.1).getD [(p.1, 1)])) := by
  obtain ⟨hi, e⟩ := List.getElem?_eq_some_iff.mp e
  unfold putF
  rw [List.take_succ_eq_append_getElem hi, e, List.map_append, List.flatten_append]
  simp
theorem ne_ax : ¬ (Sum.inr (Str.ofString "a") : Key) = .inr (Str.ofString "x") := by
  intro z
  injection z with z
  exact absurd z (by decide +kernel)
theorem r_group_put : ∀ ws O Q E, sp_group_put ws O Q E → t_group_put (endsD O Q E) (startD ["word", "table", "name", "whole", "sign", "other"] ws) O := by
  rintro ws O Q E ⟨a, t, rfl, oa, la, h⟩
  unfold t_group_put
  walk_at "uz"
  refine ⟨_, rfl, .inl ⟨a, rfl, oa, ?_⟩⟩
  walk_at "uz"
  rcases h with ⟨k, kws, rfl, ek, hk, hw, q⟩ | ⟨b, xs, n, rfl, ob, hb, q⟩
  · refine x_sortD (dv_o ek) (tab_keys kws) (by rw [List.length_map]; exact hk) fun ys hp _ => ?_
    walk_at "uz"
    refine forL_inv (fun _ Γ O' => (∃ x, Γ = [some (.d (tD a)), some (.o k), x, none, none, none]) ∧ O' = O) ⟨⟨none, rfl⟩, rfl⟩ (fun _ _ _ _ _ => trivial) (fun i w Γ O' e h => ?_) fun Γ O' h => ?_
    · obtain ⟨⟨x, rfl⟩, rfl⟩ := h
      rw [List.getElem?_map, List.getElem?_map] at e
      cases hy : ys[i]? with
      | none => rw [hy] at e; cases e
      | some y =>
        rw [hy] at e; cases e
        obtain ⟨l, hl⟩ := look_has (hp.mem_iff.mp (List.mem_of_getElem? hy))
        walk_at "uz"
        refine ⟨_, _, _, dv_o ek, rfl, by rw [tab_look, hl]; rfl, ?_⟩
        walk_at "uz"
        refine ⟨_, rfl, .inl ⟨l, rfl, (hw _ (look_mem hl)).1, ?_⟩⟩
        walk_at "uz"
        exact ⟨⟨_, rfl⟩, rfl⟩
    · obtain ⟨⟨x, rfl⟩, rfl⟩ := h
      walk_at "uz"
      refine ⟨_, rfl, ?_⟩
      refine forL_inv (fun i Γ O1 => (∃ x y z, Γ = [some (.d (tD a)), some (.o k), x, some (.d (tD (putF kws (a.take i)))), y, z]) ∧ O1 = O' ∧ (putF kws (a.take i)).length ≤ 10 * i) ⟨⟨_, _, _, rfl⟩, rfl, Nat.le_refl _⟩ (fun _ _ _ _ _ => trivial) (fun i w Γ O1 e h => ?_) fun Γ O1 h => ?_
      · obtain ⟨⟨x, y, z, rfl⟩, rfl, hl⟩ := h
        obtain ⟨⟨nm, sg⟩, ep, rfl⟩ := mapd_get e
        have hi := (List.getElem?_eq_some_iff.mp ep).1
        have og := oa _ (List.mem_of_getElem? ep)
        rw [putF_take ep]
        change gTp 2 _ (.d (.tuple [.str nm, .int sg])) _ _ _
        walk_at "uz"
        refine ⟨by rw [dv_o ek]; rfl, ?_⟩
        walk_at "uz"
        refine ⟨_, _, dv_o ek, rfl, ?_⟩
        have eo : ((lkW (tabW kws) (.inr nm)).getD (.d (.tuple [.tuple [.str nm, .int 1]]))) = .d (tD ((lkW kws nm).getD [(nm, 1)])) := by
          rw [tab_look]
          cases lkW kws nm with
          | none => rfl
          | some l => rfl
        have lo : ((lkW kws nm).getD [(nm, 1)]).length ≤ 10 := by
          cases h : lkW kws nm with
          | none => show 1 ≤ 10; decide
          | some l => exact (hw _ (look_mem h)).2
        rw [eo]
        generalize (lkW kws nm).getD [(nm, 1)] = o at *
        walk_at "uz"
        refine x_dec (fun z => ?_) (fun z => ?_)
        · rw [if_pos z]
          walk_at "uz"
          refine x_addTt (by unfold sizeLine; omega) ?_
          walk_at "uz"
          exact ⟨⟨_, _, _, rfl⟩, rfl, by rw [List.length_append]; omega⟩
        · rw [if_neg z]
          walk_at "uz"
          refine ⟨o, rfl, by unfold big; omega, ?_⟩
          refine x_addTt (by rw [op_len]; unfold sizeLine; omega) ?_
          walk_at "uz"
          exact ⟨⟨_, _, _, rfl⟩, rfl, by rw [List.length_append, op_len]; omega⟩
      · obtain ⟨⟨x, y, z, rfl⟩, rfl, hl⟩ := h
        rw [List.length_map, List.length_map, List.take_length] at hl ⊢
        walk_at "uz"
        exact ⟨_, rfl, by unfold big; omega, x_fret (x_fin q)⟩
  · have ne : ¬ (Sum.inr (Str.ofString "a") : Key) = .inr (Str.ofString "x") := by
      intro z
      injection z with z
      exact absurd z (by decide +kernel)
    have dvx : dv O (.d (.dict [(.str "a", tD b), (.str "x", .tuple xs)])) = some [(.inr (Str.ofString "a"), .d (tD b)), (.inr (Str.ofString "x"), .d (.tuple xs))] := rfl
    refine x_sortD dvx (ks := [Str.ofString "a", Str.ofString "x"]) rfl (by decide) fun ys hp _ => ?_
    walk_at "uz"
    refine forL_inv (fun i Γ O' => (∃ x, Γ = [some (.d (tD a)), some (.d (.dict [(.str "a", tD b), (.str "x", .tuple xs)])), x, none, none, none]) ∧ O' = O ∧ Str.ofString "x" ∉ ys.take i) ⟨⟨none, rfl⟩, rfl, by simp⟩ (fun _ _ _ _ _ => trivial) (fun i w Γ O' e h => ?_) fun Γ O' h => ?_
    · obtain ⟨⟨x, rfl⟩, rfl, hx⟩ := h
      rw [List.getElem?_map, List.getElem?_map] at e
      cases hy : ys[i]? with
      | none => rw [hy] at e; cases e
      | some y =>
        rw [hy] at e; cases e
        obtain ⟨hi, ey⟩ := List.getElem?_eq_some_iff.mp hy
        have hm := hp.mem_iff.mp (List.mem_of_getElem? hy)
        simp only [List.mem_cons, List.not_mem_nil, or_false] at hm
        walk_at "uz"
        rcases hm with rfl | rfl
        · refine ⟨_, _, _, dvx, rfl, lkW_pos rfl, ?_⟩
          walk_at "uz"
          refine ⟨_, rfl, .inl ⟨b, rfl, ob, ?_⟩⟩
          walk_at "uz"
          refine ⟨⟨_, rfl⟩, rfl, ?_⟩
          rw [List.take_succ_eq_append_getElem hi, ey]
          intro z
          rcases List.mem_append.mp z with z | z
          · exact hx z
          · rw [List.mem_singleton] at z
            exact absurd z (by decide +kernel)
        · refine ⟨_, _, _, dvx, rfl, by rw [lkW_neg ne]; exact lkW_pos rfl, ?_⟩
          walk_at "uz"
          exact ⟨_, rfl, .inr ⟨n, hb, x_fex q⟩⟩
    · obtain ⟨⟨x, rfl⟩, rfl, hx⟩ := h
      rw [List.length_map, List.length_map, List.take_length] at hx
      exact absurd (hp.mem_iff.mpr (by simp)) hx
theorem r_law_told : ∀ ws O Q E, sp_law_told ws O Q E → t_law_told (endsD O Q E) (startD ["which", "word", "other", "e"] ws) O := by
  rintro ws O Q E ⟨k, xs, b, n, rfl, hk, ob, lb, hb, q⟩
  have hand : ∀ (X : List Ob) (D : DEnds), D.rt = (endsD O Q E).rt → ∀ a d, (dRet (dLst (dCons (dC (.str "wrong")) (dCons (dXf a d "place" (dV 3)) dNil)))) (hEnds D 3) (((startD ["which", "word", "other", "e"] [.d (.int k), .d (.tuple xs), .d (tD b)]).set 3 (some (.exc a d [("place", .int n)])))) (O ++ X) := fun X D hD a d => by
    walk_at "uz"
    refine ⟨rfl, rfl, _, rfl, ?_⟩
    walk_at "uz"
    show D.rt _ _
    rw [hD]
    exact x_fret (x_finT q)
  have hand0 : ∀ (D : DEnds), D.rt = (endsD O Q E).rt → ∀ a d, (dRet (dLst (dCons (dC (.str "wrong")) (dCons (dXf a d "place" (dV 3)) dNil)))) (hEnds D 3) (((startD ["which", "word", "other", "e"] [.d (.int k), .d (.tuple xs), .d (tD b)]).set 3 (some (.exc a d [("place", .int n)])))) O := fun D hD a d => by
    have := hand [] D hD a d
    rwa [List.append_nil] at this
  unfold t_law_told
  have : k = 0 ∨ k = 1 ∨ k = 2 ∨ k = 3 ∨ k = 4 ∨ k = 5 ∨ k = 6 := by omega
  rcases this with rfl | rfl | rfl | rfl | rfl | rfl | rfl
  · walk_at "uz"
    refine ⟨by show 3 ≤ sizeLine; decide, ?_⟩
    walk_at "uz"
    refine x_ixO get_app (y := .gl "check_group_word") rfl ?_
    refine x_kGl rfl ?_
    walk_at "uz"
    exact ⟨_, rfl, .inr ⟨n, hb, x_caught rfl (hand _ _ rfl)⟩⟩
  · walk_at "uz"
    refine ⟨by show 3 ≤ sizeLine; decide, ?_⟩
    walk_at "uz"
    refine x_ixO get_app (y := .gl "reduced") rfl ?_
    refine x_kGl rfl ?_
    walk_at "uz"
    exact ⟨_, rfl, .inr ⟨n, hb, x_caught rfl (hand _ _ rfl)⟩⟩
  · walk_at "uz"
    refine ⟨by show 3 ≤ sizeLine; decide, ?_⟩
    walk_at "uz"
    refine x_ixO get_app (y := .gl "group_inverse") rfl ?_
    refine x_kGl rfl ?_
    walk_at "uz"
    exact ⟨_, rfl, .inr ⟨n, hb, x_caught rfl (hand _ _ rfl)⟩⟩
  · walk_at "uz"
    exact ⟨_, rfl, .inr ⟨b, xs, n, rfl, ob, lb, hb, x_caught rfl (hand0 _ rfl)⟩⟩
  · walk_at "uz"
    exact ⟨_, _, rfl, by decide, by decide, .inr ⟨n, hb, x_caught rfl (hand0 _ rfl)⟩⟩
  · walk_at "uz"
    exact ⟨b, xs, rfl, ob, lb, .inr ⟨n, hb, x_caught rfl (hand0 _ rfl)⟩⟩
  · walk_at "uz"
    refine ⟨_, _, rfl, rfl, ?_⟩
    walk_at "uz"
    refine ⟨_, _, rfl, rfl, ?_⟩
    walk_at "uz"
    refine ⟨by show 2 ≤ 15; decide, ?_, by simp, ?_⟩
    · show ([Sum.inr (Str.ofString "a"), Sum.inr (Str.ofString "x")] : List Key).Nodup
      exact List.nodup_cons.mpr ⟨fun h => ne_ax (List.mem_singleton.mp h), by simp⟩
    · walk_at "uz"
      exact ⟨b, _, rfl, ob, lb, .inr ⟨b, xs, n, rfl, ob, hb, x_caught rfl (hand0 _ rfl)⟩⟩
theorem cut_names (m : Nat) : cutW [PyData.str (Str.ofString "x"), PyData.str (Str.ofString "y"), PyData.str (Str.ofString "a3")] none (some (1 + (m : Int))) = (([Str.ofString "x", Str.ofString "y", Str.ofString "a3"] : List Str).take (1 + m)).map Datum.toD := by
  rw [show (1 : Int) + (m : Int) = ((1 + m : Nat) : Int) by omega, cut_to, List.map_take]
  rfl
theorem names_ok (m : Nat) : (([Str.ofString "x", Str.ofString "y", Str.ofString "a3"] : List Str).take (1 + m)) ≠ [] ∧ (([Str.ofString "x", Str.ofString "y", Str.ofString "a3"] : List Str).take (1 + m)).length ≤ 3 ∧ ∀ s ∈ (([Str.ofString "x", Str.ofString "y", Str.ofString "a3"] : List Str).take (1 + m)), Ltr s := by
  refine ⟨?_, List.length_take_le' _ _, fun s hs => ?_⟩
  · rw [Nat.add_comm]; intro h; cases h
  · have := List.mem_of_mem_take hs
    simp only [List.mem_cons, List.not_mem_nil, or_false] at this
    rcases this with rfl | rfl | rfl
    · exact .inl rfl
    · exact .inr (.inl rfl)
    · exact .inr (.inr (.inr rfl))
theorem shp_w (n : Nat) {l : List P} (h : l.length ≤ big) : Shp (n + 3) (tD l) := ⟨by rw [List.length_map]; exact h, fun y hy => by
  obtain ⟨p, _, rfl⟩ := List.mem_map.mp hy
  refine ⟨by show 2 ≤ big; decide, fun y hy => ?_⟩
  have hy : y ∈ [PyData.str p.1, PyData.int p.2] := hy
  simp only [List.mem_cons, List.not_mem_nil, or_false] at hy
  rcases hy with rfl | rfl <;> trivial⟩
theorem shp_l {n : Nat} {xs : List PyData} (hl : xs.length ≤ big) (h : ∀ y ∈ xs, Shp n y) : Shp (n + 1) (.list xs) := ⟨hl, h⟩
theorem eqv_rep {a b : List P} (h : Eqv inv a b) (n : Nat) : Eqv inv (rep n a) (rep n b) := by
  induction n with
  | zero => exact .refl _
  | succ n ih =>
    show Eqv inv ((List.replicate (n + 1) a).flatten) ((List.replicate (n + 1) b).flatten)
    rw [List.replicate_succ, List.replicate_succ, List.flatten_cons, List.flatten_cons]
    exact h.app inv_inv ih
theorem pow_eq (l : List P) (c : Int) : powF l c = sh (if 0 ≤ c then rep c.natAbs l else rep c.natAbs (op l)) := by
  unfold powF
  by_cases h : 0 ≤ c
  · rw [if_pos h, if_pos h]
    exact (eqv_rep (eqv_short inv_inv l) _).short
  · rw [if_neg h, if_neg h]
    exact (eqv_rep ((eqv_short inv_inv l).opp inv_inv) _).short
theorem rep_ok2 {l : List P} (h : OkL l) (n : Nat) : OkL (rep n l) := rep_ok h n
theorem flat_ok {ls : List (List P)} (h : ∀ l ∈ ls, OkL l) : OkL ls.flatten := fun p hp => by
  obtain ⟨m, hm, hp⟩ := List.mem_flatten.mp hp
  exact h m hm p hp
theorem flat_len {ls : List (List P)} {c : Nat} (h : ∀ l ∈ ls, l.length ≤ c) : ls.flatten.length ≤ c * ls.length := by
  induction ls with
  | nil => exact Nat.zero_le _
  | cons l ls ih =>
    rw [List.flatten_cons, List.length_append, List.length_cons]
    have h1 := h l (List.mem_cons_self ..)
    have h2 := ih fun m hm => h m (List.mem_cons_of_mem _ hm)
    rw [Nat.mul_succ]; omega
theorem putF_ok {kws : List (Str × List P)} (hw : ∀ p ∈ kws, OkL p.2 ∧ p.2.length ≤ 10) {l : List P} (h : OkL l) : OkL (putF kws l) := flat_ok fun m hm => by
  obtain ⟨p, hp, rfl⟩ := List.mem_map.mp hm
  have o : OkL ((lkW kws p.1).getD [(p.1, 1)]) := by
    cases e : lkW kws p.1 with
    | none =>
      intro q hq
      have : q = (p.1, 1) := by simpa using hq
      rw [this]
      exact ⟨(h p hp).1, .inl rfl⟩
    | some l => exact (hw _ (look_mem e)).1
  split
  · exact o
  · exact o.op
theorem putF_len {kws : List (Str × List P)} (hw : ∀ p ∈ kws, OkL p.2 ∧ p.2.length ≤ 10) (l : List P) : (putF kws l).length ≤ 10 * l.length := by
  unfold putF
  refine Nat.le_trans (flat_len (c := 10) fun m hm => ?_) (by rw [List.length_map]; exact Nat.le_refl _)
  obtain ⟨p, hp, rfl⟩ := List.mem_map.mp hm
  have o : ((lkW kws p.1).getD [(p.1, 1)]).length ≤ 10 := by
    cases e : lkW kws p.1 with
    | none => show 1 ≤ 10; decide
    | some l => exact (hw _ (look_mem e)).2
  split
  · exact o
  · rw [op_len]; exact o
theorem x_join {ta tb : DE} {Γ : Gm} {O : List Ob} {Q : DQ} {E : DX} {p : Prop} [Decidable p] (w : W) (h1 : p → ∀ Q' : DQ, Q' w O → ta Γ O Q' E) (h2 : ¬p → ∀ Q' : DQ, Q' w O → tb Γ O Q' E) (h : Q w O) : if decide p = true then ta Γ O Q E else tb Γ O Q E := x_dec (fun z => h1 z Q h) fun z => h2 z Q h
theorem x_repTi {O : List Ob} {Q : DQ} {a : List P} {c : Int} (h0 : 0 ≤ c) (h1 : c ≤ 1000) (h2 : a.length ≤ 1000) (h : Q (.d (tD (rep c.toNat a))) O) : fRepT (.d (.tuple (a.map Datum.toD))) (.d (.int c)) O Q := by
  have e : c = ((c.toNat : Nat) : Int) := by omega
  have : fRepT (.d (.tuple (a.map Datum.toD))) (.d (.int ((c.toNat : Nat) : Int))) O Q := x_repTt (by omega) h2 h
  rwa [← e] at this
section
variable {O : List Ob} {a b c : Ob}
theorem get0 : (O ++ [a, b])[O.length]? = some a := by rw [List.getElem?_append_right (Nat.le_refl _), Nat.sub_self]; first | done | rfl
theorem get1 : (O ++ [a, b])[O.length + 1]? = some b := by rw [List.getElem?_append_right (by omega), show O.length + 1 - O.length = 1 by omega]; first | done | rfl
theorem set0 : (O ++ [a, b]).set O.length c = O ++ [c, b] := by rw [List.set_append_right _ _ (Nat.le_refl _), Nat.sub_self]; rfl
theorem set1 : (O ++ [a, b]).set (O.length + 1) c = O ++ [a, c] := by rw [List.set_append_right _ _ (by omega), show O.length + 1 - O.length = 1 by omega]; rfl
end
theorem tab_put (kws : List (Str × List P)) (y : Str) (l : List P) : ptW (tabW kws) (.inr y) (W.d (tD l)) = tabW (ptW kws y l) := by
  have ea : ((tabW kws).any fun kv => decide (kv.1 = (Sum.inr y : Key))) = (kws.any fun kv => decide (kv.1 = y)) := by
    unfold tabW
    rw [List.any_map]
    congr 1
    funext p
    exact decide_eq_decide.mpr ⟨fun e => (by injection e), fun e => congrArg Sum.inr e⟩
  unfold ptW
  rw [ea]
  split
  · unfold tabW
    rw [List.map_map, List.map_map]
    congr 1
    funext p
    show (if (Sum.inr p.1 : Key) = .inr y then ((Sum.inr p.1 : Key), W.d (tD l)) else (.inr p.1, .d (tD p.2))) = _
    by_cases e : p.1 = y
    · rw [if_pos (by rw [e])]
      show _ = (Sum.inr (if p.1 = y then (p.1, l) else p).1, W.d (tD (if p.1 = y then (p.1, l) else p).2))
      rw [if_pos e]
    · rw [if_neg (fun z => e (by injection z))]
      show _ = (Sum.inr (if p.1 = y then (p.1, l) else p).1, W.d (tD (if p.1 = y then (p.1, l) else p).2))
      rw [if_neg e]
  · unfold tabW
    rw [List.map_append]
    rfl
theorem pt_mem {kws : List (Str × List P)} {y : Str} {l : List P} {p : Str × List P} (h : p ∈ ptW kws y l) : p.2 = l ∨ p ∈ kws := by
  unfold ptW at h
  split at h
  · obtain ⟨q, hq, rfl⟩ := List.mem_map.mp h
    by_cases e : q.1 = y
    · rw [if_pos e]; exact .inl rfl
    · rw [if_neg e]; exact .inr hq
  · rcases List.mem_append.mp h with h | h
    · exact .inr h
    · rw [List.mem_singleton] at h
      rw [h]; exact .inl rfl
theorem pt_len (kws : List (Str × List P)) (y : Str) (l : List P) : (ptW kws y l).length ≤ kws.length + 1 := by
  unfold ptW
  split
  · rw [List.length_map]; omega
  · rw [List.length_append]; exact Nat.le_refl _
theorem r_law : ∀ ws O Q E, sp_law ws O Q E → t_law (endsD O Q E) (startD ["script", "state", "names", "rows", "one", "two", "count", "joined", "word", "power", "due", "told", "table", "name", "whole", "wrong", "place", "bad", "sign", "other", "turn", "which"] ws) O := by
  rintro ws O Q E ⟨ns, rfl, q⟩
  unfold t_law
  walk_at "uz"
  refine ⟨ns, rfl, fun v => ?_⟩
  walk_at "uz"
  refine ⟨O.length, _, v, rfl, by decide, by decide, get_app, fun r v1 h0 h1 => ?_⟩
  rw [set_app]
  obtain ⟨m, rfl⟩ : ∃ m : Nat, r = (m : Int) := ⟨r.toNat, by omega⟩
  walk_at "uz"
  rw [cut_names]
  obtain ⟨n1, n2, n3⟩ := names_ok m
  generalize (([Str.ofString "x", Str.ofString "y", Str.ofString "a3"] : List Str).take (1 + m)) = names at *
  walk_at "uz"
  refine ⟨O.length, _, v1, rfl, by decide, by decide, get_app, fun r v2 h2 h3 => ?_⟩
  rw [set_app]
  walk_at "uz"
  refine ⟨by omega, by omega, ?_⟩
  refine lcL_inv (fun i acc O' => ∃ (ls : List (List P)) (v' : Int), acc = ls.map (fun l => W.d (tD l)) ∧ ls.length = i ∧ (∀ l ∈ ls, OkL l ∧ l.length ≤ 8) ∧ O' = O ++ [.lst [.d (.int v')]]) ⟨[], v2, rfl, rfl, fun l hl => absurd hl (List.not_mem_nil), rfl⟩ (fun _ _ _ _ _ => trivial) (fun i w acc O' e' h => ?_) fun acc O' h => ?_
  · obtain ⟨ls, v', rfl, rfl, hls, rfl⟩ := h
    obtain ⟨hi, rfl⟩ := rng_get e'
    refine x_tg1 ?_
    walk_at "uz"
    refine ⟨O.length, v', names, 8, rfl, get_app, n1, n2, n3, by decide, fun l v3 ol ll => ?_⟩
    rw [set_app]
    refine ⟨by rw [List.length_map]; unfold sizeLine; omega, ls ++ [l], v3, by rw [List.map_append]; rfl, by rw [List.length_append]; rfl, fun l' hl' => ?_, rfl⟩
    rcases List.mem_append.mp hl' with z | z
    · exact hls l' z
    · rw [List.mem_singleton] at z
      rw [z]; exact ⟨ol, ll⟩
  obtain ⟨ls, v3, rfl, hl, hls, rfl⟩ := h
  rw [rng_len] at hl
  have hl3 : 1 ≤ ls.length ∧ ls.length ≤ 3 := by omega
  refine x_alld (xs := ls.map tD) (by rw [← allD_map, List.map_map]; rfl) ?_
  obtain ⟨one, e1⟩ : ∃ one, ls[0]? = some one := ⟨_, List.getElem?_eq_getElem (by omega)⟩
  obtain ⟨two, e2⟩ : ∃ two, ls[ls.length - 1]? = some two := ⟨_, List.getElem?_eq_getElem (by omega)⟩
  obtain ⟨o1, l1⟩ := hls _ (List.mem_of_getElem? e1)
  obtain ⟨o2, l2⟩ := hls _ (List.mem_of_getElem? e2)
  walk_at "uz"
  refine x_ixL (y := tD one) (atI_map tD (ati_nat (j := 0) e1)) ?_
  walk_at "uz"
  refine x_ixL (y := tD two) (atI_map tD (ati_last e2)) ?_
  walk_at "uz"
  refine ⟨O.length, _, v3, rfl, by decide, by decide, get_app, fun r v4 h4 h5 => ?_⟩
  rw [set_app]
  obtain ⟨c, hc⟩ : ∃ c : Int, c = r - 4 := ⟨_, rfl⟩
  walk_at "uz"
  rw [← hc]
  have c1 : -4 ≤ c := by omega
  have c2 : c ≤ 4 := by omega
  have fl : ls.flatten.length ≤ 24 := Nat.le_trans (flat_len (c := 8) fun l hl => (hls l hl).2) (by omega)
  refine forL_inv (fun i Γ O' => (∃ b, Γ = [some (.rl (ns.map .int)), some (.o O.length), some (.d (lD names)), some (.d (.list (ls.map tD))), some (.d (tD one)), some (.d (tD two)), some (.d (.int c)), some (.d (tD (ls.take i).flatten)), b, none, none, none, none, none, none, none, none, none, none, none, none, none]) ∧ O' = O ++ [.lst [.d (.int v4)]]) ⟨⟨_, rfl⟩, rfl⟩ (fun _ _ _ _ _ => trivial) (fun i w Γ O' e h => ?_) fun Γ O' h => ?_
  · obtain ⟨⟨b, rfl⟩, rfl⟩ := h
    rw [List.getElem?_map, List.getElem?_map] at e
    cases h : ls[i]? with
    | none => rw [h] at e; cases e
    | some l =>
      rw [h] at e; cases e
      obtain ⟨hi, e⟩ := List.getElem?_eq_some_iff.mp h
      walk_at "uz"
      have hf : (ls.take (i + 1)).flatten = (ls.take i).flatten ++ l := by rw [List.take_succ_eq_append_getElem hi, e]; simp
      have hf2 : (ls.take (i + 1)).flatten.length ≤ ls.flatten.length := by
        have : ls.flatten = (ls.take (i + 1)).flatten ++ (ls.drop (i + 1)).flatten := by rw [← List.flatten_append, List.take_append_drop]
        rw [this, List.length_append]; omega
      refine x_addTt (by rw [← List.length_append, ← hf]; unfold sizeLine; omega) ?_
      rw [← hf]
      exact ⟨⟨_, rfl⟩, rfl⟩
  obtain ⟨⟨b, rfl⟩, rfl⟩ := h
  rw [List.length_map, List.length_map, List.take_length]
  have rl : ∀ {l : List P}, l.length ≤ 8 → (rep c.natAbs l).length ≤ 32 := fun {l} h => by
    rw [rep_len2]
    exact Nat.le_trans (Nat.mul_le_mul (show c.natAbs ≤ 4 by omega) h) (by decide)
  walk_at "uz"
  refine x_join (.d (tD (if 0 ≤ c then rep c.natAbs one else rep c.natAbs (op one)))) (fun z Q' q' => ?_) (fun z Q' q' => ?_) ?_
  · rw [if_pos z] at q'
    walk_at "uz"
    refine x_repTi z (by omega) (by omega) ?_
    rw [show c.toNat = c.natAbs by omega]
    exact q'
  · rw [if_neg z] at q'
    walk_at "uz"
    refine ⟨one, rfl, by unfold big; omega, ?_⟩
    walk_at "uz"
    refine x_repTi (by omega) (by omega) (by rw [op_len]; omega) ?_
    rw [show (-c).toNat = c.natAbs by omega]
    exact q'
  have pw : OkL (if 0 ≤ c then rep c.natAbs one else rep c.natAbs (op one)) ∧ (if 0 ≤ c then rep c.natAbs one else rep c.natAbs (op one)).length ≤ 32 := by
    split
    · exact ⟨rep_ok2 o1 _, rl l1⟩
    · exact ⟨rep_ok2 o1.op _, rl (by rw [op_len]; exact l1)⟩
  have pe := pow_eq one c
  generalize (if 0 ≤ c then rep c.natAbs one else rep c.natAbs (op one)) = power at *
  obtain ⟨op1, lp⟩ := pw
  have fo := flat_ok fun l hl => (hls l hl).1
  have s1 := sh_len l1
  walk_at "uz"
  refine ⟨one, rfl, o1, by unfold big; omega, ?_⟩
  walk_at "uz"
  refine ⟨_, rfl, fo, by unfold big; omega, ?_⟩
  walk_at "uz"
  refine ⟨one, rfl, o1, by unfold big; omega, ?_⟩
  walk_at "uz"
  refine ⟨_, rfl, by unfold big; omega, ?_⟩
  walk_at "uz"
  refine ⟨_, rfl, op1, by unfold big; omega, ?_⟩
  walk_at "uz"
  rw [← pe]
  refine ⟨_, rfl, .inl ⟨one, rfl, o1, by unfold big; omega, ?_⟩⟩
  walk_at "uz"
  refine ⟨_, rfl, .inl ⟨ls, rfl, fun l hl => (hls l hl).1, by unfold big; omega, ?_⟩⟩
  walk_at "uz"
  refine ⟨_, rfl, .inl ⟨one, rfl, o1, by unfold big; omega, ?_⟩⟩
  walk_at "uz"
  refine ⟨_, c, rfl, by omega, by omega, .inl ⟨one, rfl, o1, by omega, ?_⟩⟩
  walk_at "uz"
  have four : ∀ {a b c d : List P}, a.length ≤ 1000 → b.length ≤ 1000 → c.length ≤ 1000 → d.length ≤ 1000 → Shp 8 (.list [tD a, tD b, tD c, tD d]) := fun ha hb hc hd => by
    refine shp_l (by show 4 ≤ big; decide) fun y hy => ?_
    simp only [List.mem_cons, List.not_mem_nil, or_false] at hy
    rcases hy with rfl | rfl | rfl | rfl <;> exact shp_w 4 (by unfold big; omega)
  refine ⟨_, rfl, four (by omega) (sh_len (by omega)) (by rw [op_len]; omega) (by rw [pe]; exact sh_len (by omega)), ?_⟩
  walk_at "uz"
  refine ⟨_, rfl, .inl ⟨[], rfl, fun l hl => absurd hl (List.not_mem_nil), by show 0 ≤ big; decide, ?_⟩⟩
  walk_at "uz"
  refine ⟨_, rfl, .inl ⟨one, rfl, o1, ?_⟩⟩
  walk_at "uz"
  refine ⟨.list [.tuple [], .none], rfl, shp_l (by show 2 ≤ big; decide) (fun y hy => ?_), ?_⟩
  · simp only [List.mem_cons, List.not_mem_nil, or_false] at hy
    rcases hy with rfl | rfl
    · exact ⟨by show 0 ≤ big; decide, fun y hy => absurd hy (List.not_mem_nil)⟩
    · trivial
  walk_at "uz"
  refine ⟨one, _, rfl, o1, by omega, .inl ⟨two, rfl, o2, by omega, ?_⟩⟩
  walk_at "uz"
  refine x_addTt (by unfold sizeLine; omega) ?_
  walk_at "uz"
  refine ⟨one, rfl, by unfold big; omega, ?_⟩
  refine x_addTt (by rw [List.length_append, op_len]; unfold sizeLine; omega) ?_
  walk_at "uz"
  refine ⟨two, rfl, by unfold big; omega, ?_⟩
  refine x_addTt (by rw [List.length_append, List.length_append, op_len, op_len]; unfold sizeLine; omega) ?_
  walk_at "uz"
  have lc : (one ++ two ++ op one ++ op two).length ≤ 100 := by rw [List.length_append, List.length_append, List.length_append, op_len, op_len]; omega
  refine ⟨_, rfl, ((o1.app o2).app o1.op).app o2.op, by unfold big; omega, ?_⟩
  walk_at "uz"
  refine ⟨_, rfl, shp_w 5 (by have := sh_len lc; unfold big; omega), ?_⟩
  walk_at "uz"
  have eO : (O ++ [Ob.lst [W.d (.int v4)]]).length = O.length + 1 := by rw [List.length_append]; rfl
  rw [eO, show O ++ [Ob.lst [W.d (.int v4)]] ++ [Ob.dK []] = O ++ [Ob.lst [W.d (.int v4)], Ob.dK (tabW [])] by rw [List.append_assoc]; rfl]
  refine forL_inv (fun i Γ O' => (∃ b, Γ = [some (.rl (ns.map .int)), some (.o O.length), some (.d (lD names)), some (.d (.list (ls.map tD))), some (.d (tD one)), some (.d (tD two)), some (.d (.int c)), some (.d (tD ls.flatten)), b.1, some (.d (tD power)), some (.d (.list [tD (sh one), tD (sh ls.flatten), tD (op (sh one)), tD (powF one c)])), some (.d (.list [tD (sh one), tD (sh ls.flatten), tD (op (sh one)), tD (powF one c)])), some (.o (O.length + 1)), b.2, none, none, none, none, none, none, none, none]) ∧ ∃ (kws : List (Str × List P)) (v' : Int), O' = O ++ [.lst [.d (.int v')], .dK (tabW kws)] ∧ kws.length ≤ i ∧ ∀ p ∈ kws, OkL p.2 ∧ p.2.length ≤ 10)
    ⟨⟨(_, _), rfl⟩, [], v4, rfl, Nat.le_refl _, fun p hp => absurd hp (List.not_mem_nil)⟩ (fun _ _ _ _ _ => trivial) (fun i w Γ O' e h => ?_) fun Γ O' h => ?_
  · obtain ⟨⟨⟨b1, b2⟩, rfl⟩, kws, v5, rfl, hk, hw⟩ := h
    rw [List.getElem?_map, List.getElem?_map] at e
    cases hn : names[i]? with
    | none => rw [hn] at e; cases e
    | some nm =>
      rw [hn] at e; cases e
      have hi := (List.getElem?_eq_some_iff.mp hn).1
      walk_at "uz"
      refine ⟨O.length, _, v5, rfl, by decide, by decide, get0, fun r v6 h6 h7 => ?_⟩
      rw [set0]
      walk_at "uz"
      refine x_dec (fun z => ?_) (fun z => ?_)
      · walk_at "uz"
        refine ⟨O.length, v6, [Str.ofString "x", Str.ofString "y", Str.ofString "w"], 4, rfl, get0, by simp, by show 3 ≤ 3; decide, fun s hs => ?_, by decide, fun l v7 ol ll => ?_⟩
        · simp only [List.mem_cons, List.not_mem_nil, or_false] at hs
          rcases hs with rfl | rfl | rfl
          · exact .inl rfl
          · exact .inr (.inl rfl)
          · exact .inr (.inr (.inl rfl))
        rw [set0]
        walk_at "uz"
        refine ⟨O.length + 1, tabW kws, _, rfl, get1, rfl, by unfold tabW; rw [List.length_map]; unfold sizeLine; omega, ?_⟩
        rw [set1]
        refine ⟨⟨(_, _), rfl⟩, ptW kws nm l, v7, by rw [← tab_put], by have := pt_len kws nm l; omega, fun p hp => ?_⟩
        rcases pt_mem hp with z | z
        · rw [z]; exact ⟨ol, by omega⟩
        · exact hw p z
      · walk_at "uz"
        exact ⟨⟨(_, _), rfl⟩, kws, v6, rfl, by omega, hw⟩
  obtain ⟨⟨⟨b1, b2⟩, rfl⟩, kws, v5, rfl, hk, hw⟩ := h
  rw [List.length_map, List.length_map] at hk
  walk_at "uz"
  refine ⟨_, rfl, ?_⟩
  refine forL_inv (fun i Γ O' => (∃ b : Option W × Option W × Option W, Γ = [some (.rl (ns.map .int)), some (.o O.length), some (.d (lD names)), some (.d (.list (ls.map tD))), some (.d (tD one)), some (.d (tD two)), some (.d (.int c)), some (.d (tD ls.flatten)), b1, some (.d (tD power)), some (.d (.list [tD (sh one), tD (sh ls.flatten), tD (op (sh one)), tD (powF one c)])), some (.d (.list [tD (sh one), tD (sh ls.flatten), tD (op (sh one)), tD (powF one c)])), some (.o (O.length + 1)), b.1, some (.d (tD (putF kws (one.take i)))), none, none, none, b.2.1, b.2.2, none, none]) ∧ O' = O ++ [.lst [.d (.int v5)], .dK (tabW kws)])
    ⟨⟨(_, _, _), rfl⟩, rfl⟩ (fun _ _ _ _ _ => trivial) (fun i w Γ O' e h => ?_) fun Γ O' h => ?_
  · obtain ⟨⟨⟨x1, x2, x3⟩, rfl⟩, rfl⟩ := h
    obtain ⟨⟨nm, sg⟩, ep, rfl⟩ := mapd_get e
    have hi := (List.getElem?_eq_some_iff.mp ep).1
    have lp2 := putF_len hw (one.take i)
    have lp3 : (one.take i).length ≤ 8 := by rw [List.length_take]; omega
    rw [putF_take ep]
    change gTp 2 _ (.d (.tuple [.str nm, .int sg])) _ _ _
    walk_at "uz"
    refine ⟨by rw [dv_o get1]; rfl, ?_⟩
    walk_at "uz"
    refine ⟨_, _, dv_o get1, rfl, ?_⟩
    have eo : ((lkW (tabW kws) (.inr nm)).getD (.d (.tuple [.tuple [.str nm, .int 1]]))) = .d (tD ((lkW kws nm).getD [(nm, 1)])) := by
      rw [tab_look]
      cases lkW kws nm with
      | none => rfl
      | some l => rfl
    have lo : ((lkW kws nm).getD [(nm, 1)]).length ≤ 10 := by
      cases h : lkW kws nm with
      | none => show 1 ≤ 10; decide
      | some l => exact (hw _ (look_mem h)).2
    rw [eo]
    generalize (lkW kws nm).getD [(nm, 1)] = o at *
    walk_at "uz"
    refine x_dec (fun z => ?_) (fun z => ?_)
    · rw [if_pos z]
      walk_at "uz"
      refine x_addTt (by unfold sizeLine; omega) ?_
      walk_at "uz"
      exact ⟨⟨(_, _, _), rfl⟩, rfl⟩
    · rw [if_neg z]
      walk_at "uz"
      refine ⟨o, rfl, by unfold big; omega, ?_⟩
      refine x_addTt (by rw [op_len]; unfold sizeLine; omega) ?_
      walk_at "uz"
      exact ⟨⟨(_, _, _), rfl⟩, rfl⟩
  obtain ⟨⟨⟨x1, x2, x3⟩, rfl⟩, rfl⟩ := h
  rw [List.length_map, List.length_map, List.take_length]
  have lpu := putF_len hw one
  walk_at "uz"
  refine ⟨one, _, rfl, o1, by omega, .inl ⟨_, kws, rfl, get1, by omega, hw, ?_⟩⟩
  walk_at "uz"
  refine ⟨_, rfl, putF_ok hw o1, by unfold big; omega, ?_⟩
  walk_at "uz"
  refine ⟨_, rfl, shp_w 5 (by have := sh_len (l := putF kws one) (n := 100) (by omega); unfold big; omega), ?_⟩
  walk_at "uz"
  refine ⟨O.length, _, v5, rfl, by omega, by omega, get0, fun r2 v6 h6 h7 => ?_⟩
  rw [set0]
  obtain ⟨pl, rfl⟩ : ∃ m : Nat, r2 = (m : Int) := ⟨r2.toNat, by omega⟩
  walk_at "uz"
  rw [cut_to]
  refine ⟨O.length, 10, v6, rfl, by decide, by decide, get0, fun r3 v7 h8 h9 => ?_⟩
  rw [set0]
  obtain ⟨y, ey, hy⟩ : ∃ y, atI wrongs r3 = some y ∧ y ∈ wrongs := by
    obtain ⟨j, rfl⟩ : ∃ m : Nat, r3 = (m : Int) := ⟨r3.toNat, by omega⟩
    have hj : j < wrongs.length := by show j < 10; omega
    exact ⟨wrongs[j], ati_nat (List.getElem?_eq_getElem hj), List.getElem_mem _⟩
  refine x_ixL (xs := wrongs) ey ?_
  walk_at "uz"
  have lt := List.length_take_le' pl one
  refine x_addT (xs := (one.take pl).map Datum.toD) (ys := [y]) (by rw [List.length_map]; show _ + 1 ≤ _; unfold sizeLine; omega) ?_
  walk_at "uz"
  rw [cut_from]
  have ld : (one.drop pl).length ≤ 8 := by rw [List.length_drop]; omega
  refine x_addT (ys := (one.drop pl).map Datum.toD) (by rw [List.length_append, List.length_map, List.length_map]; show _ + 1 + _ ≤ _; unfold sizeLine; omega) ?_
  have hb : Bad ((one.take pl).map Datum.toD ++ [y] ++ (one.drop pl).map Datum.toD) pl := by
    refine ⟨one.take pl, one.drop pl, y, by rw [List.append_assoc]; rfl, o1.take _, hy, ?_, by omega⟩
    rw [List.length_take]; omega
  generalize (one.take pl).map Datum.toD ++ [y] ++ (one.drop pl).map Datum.toD = xs at *
  walk_at "uz"
  refine ⟨by decide, by decide, ?_⟩
  refine lcL_map (List.range 7) (fun k => .d (.int (0 + (k : Int)))) (fun _ => .d (.list [.str "wrong", .int pl])) rfl (by show 7 ≤ sizeLine; decide) trivial (fun k hk N hN => ?_) ?_
  · rw [Int.zero_add]
    refine x_tg1 ?_
    walk_at "uz"
    exact ⟨k, xs, two, pl, rfl, List.mem_range.mp hk, o2, by omega, hb, hN⟩
  refine x_alld (xs := (List.replicate 7 [PyData.list [.str "wrong", .int pl]]).flatten) rfl ?_
  walk_at "uz"
  refine x_repL (n := 7) (by decide) (by show 1 ≤ 1000; decide) ?_
  walk_at "uz"
  refine ⟨_, rfl, shp_l (by show 7 ≤ big; decide) (fun z hz => ?_), ?_⟩
  · obtain ⟨l, hl, hz⟩ := List.mem_flatten.mp hz
    rw [(List.mem_replicate.mp hl).2, List.mem_singleton] at hz
    subst hz
    refine shp_l (by show 2 ≤ big; decide) fun u hu => ?_
    simp only [List.mem_cons, List.not_mem_nil, or_false] at hu
    rcases hu with rfl | rfl <;> trivial
  · exact x_fret (x_finT q)
end K70
namespace K70
open PySem PySem.Spec PyProof.Rows L2 UZ
def topS (i : Nat) : Stmt := PySem.Challenge.pw_unswapped_k70_words_of_free_groups.main.body.getD i (.Pass ⟨0, 0, 0, 0⟩)
section
variable {P : Program} {w : World} {K : PySem.W.Frag} {mg : Str → Option Value} {base : Heap}
/-! ### is_letter_name -/
def N_is_letter_name : List Str := ["name"]
abbrev s_is_letter_name : Stmt := topS 6
theorem sc_is_letter_name : FnScope N_is_letter_name ["name"] (defScope s_is_letter_name) := ⟨rfl, rfl, rfl, by decide +kernel, rfl, by decide +kernel, by decide +kernel⟩
theorem l_is_letter_name  (m_str : mg "str" = none) (m_isinstance : mg "isinstance" = none) (m_len : mg "len" = none) {tS : Tok} (m_SIGNS : mg "SIGNS" = some (.str "abcdefghijklmnopqrstuvwxyz" tS)) {tF : Tok} (m_FIGURES : mg "FIGURES" = some (.str "0123456789" tF)) {f : Addr} (cdv : Value) (A : Around) (outer : List Env) (s : Shared) (H : Hp) (E : XK) (hr : Room 0 (A.deeper (envOfC "is_letter_name" (defScope s_is_letter_name) s.heap.objs.size f cdv))) (bx : Bx (cxOf (L2.CX P w) P w K mg base N_is_letter_name "is_letter_name" (defScope s_is_letter_name) f cdv A outer s H E) (wE E)) :
    PDSs (cxOf (L2.CX P w) P w K mg base N_is_letter_name "is_letter_name" (defScope s_is_letter_name) f cdv A outer s H E) (wE E) (defBody s_is_letter_name) t_is_letter_name :=
  (s_cons (s_if (d_w (d_or (d_not (d_tst (d_cb c_isi m_isinstance b_isinstance (d_cons (d_v 0) (d_cons (d_ty m_str b_str) d_nil))))) (d_or (d_not (d_tchain o_le o_le d_int (d_cb c_len m_len b_len (d_cons (d_v 0) d_nil)) d_int)) (d_or1 (d_tcmp o_notInS (d_ix i_s (d_v 0) d_int) (d_gstr m_SIGNS)))))) (s_one (s_ret d_bl)) s_nil)
    (s_one (s_ret (d_orV (d_cmp o_eq (d_cb c_len m_len b_len (d_cons (d_v 0) d_nil)) d_int) (d_oneV (d_cmp o_inS (d_ix i_s (d_v 0) d_int) (d_gstr m_FIGURES)))))))
/-! ### is_sign -/
def N_is_sign : List Str := ["value"]
abbrev s_is_sign : Stmt := topS 8
theorem sc_is_sign : FnScope N_is_sign ["value"] (defScope s_is_sign) := ⟨rfl, rfl, rfl, by decide +kernel, rfl, by decide +kernel, by decide +kernel⟩
theorem l_is_sign  (m_int : mg "int" = none) (m_isinstance : mg "isinstance" = none) (m_bool : mg "bool" = none) {f : Addr} (cdv : Value) (A : Around) (outer : List Env) (s : Shared) (H : Hp) (E : XK) (hr : Room 0 (A.deeper (envOfC "is_sign" (defScope s_is_sign) s.heap.objs.size f cdv))) (bx : Bx (cxOf (L2.CX P w) P w K mg base N_is_sign "is_sign" (defScope s_is_sign) f cdv A outer s H E) (wE E)) :
    PDSs (cxOf (L2.CX P w) P w K mg base N_is_sign "is_sign" (defScope s_is_sign) f cdv A outer s H E) (wE E) (defBody s_is_sign) t_is_sign :=
  (s_one (s_ret (d_andV (d_cb c_isi m_isinstance b_isinstance (d_cons (d_v 0) (d_cons (d_ty m_int b_int) d_nil))) (d_andV (d_notV (d_cb c_isi m_isinstance b_isinstance (d_cons (d_v 0) (d_cons (d_ty m_bool b_bool) d_nil)))) (d_oneV (d_cmp (o_inD (hu_in hr)) (d_v 0) (d_lst (d_cons d_int (d_cons (d_un o_neg d_int) d_nil)))))))))
/-! ### is_pair -/
def N_is_pair : List Str := ["value"]
abbrev s_is_pair : Stmt := topS 9
theorem sc_is_pair : FnScope N_is_pair ["value"] (defScope s_is_pair) := ⟨rfl, rfl, rfl, by decide +kernel, rfl, by decide +kernel, by decide +kernel⟩
theorem l_is_pair  (m_tuple : mg "tuple" = none) (m_isinstance : mg "isinstance" = none) (m_len : mg "len" = none) (G_is_letter_name : FnD P w K mg base "is_letter_name" 1 ["name"] sp_is_letter_name) (G_is_sign : FnD P w K mg base "is_sign" 1 ["value"] sp_is_sign) {f : Addr} (cdv : Value) (A : Around) (outer : List Env) (s : Shared) (H : Hp) (E : XK) (hr : Room 1 (A.deeper (envOfC "is_pair" (defScope s_is_pair) s.heap.objs.size f cdv))) (bx : Bx (cxOf (L2.CX P w) P w K mg base N_is_pair "is_pair" (defScope s_is_pair) f cdv A outer s H E) (wE E)) :
    PDSs (cxOf (L2.CX P w) P w K mg base N_is_pair "is_pair" (defScope s_is_pair) f cdv A outer s H E) (wE E) (defBody s_is_pair) t_is_pair :=
  (s_one (s_ret (d_andV (d_cb c_isi m_isinstance b_isinstance (d_cons (d_v 0) (d_cons (d_ty m_tuple b_tuple) d_nil))) (d_andV (d_cmp o_eq (d_cb c_len m_len b_len (d_cons (d_v 0) d_nil)) d_int) (d_andV (d_call bx G_is_letter_name (hr.mono (by decide)) (d_cons (d_ix i_t (d_v 0) d_int) d_nil)) (d_oneV (d_call bx G_is_sign (hr.mono (by decide)) (d_cons (d_ix i_t (d_v 0) d_int) d_nil))))))))
/-! ### check_group_word -/
def N_check_group_word : List Str := ["word", "place", "pair"]
abbrev s_check_group_word : Stmt := topS 10
theorem sc_check_group_word : FnScope N_check_group_word ["word"] (defScope s_check_group_word) := ⟨rfl, rfl, rfl, by decide +kernel, rfl, by decide +kernel, by decide +kernel⟩
theorem l_check_group_word  (m_enumerate : mg "enumerate" = none) (X_InvalidWord : ExD P w K mg base "InvalidWord" 1 ["place"]) (G_is_pair : FnD P w K mg base "is_pair" 2 ["value"] sp_is_pair) {f : Addr} (cdv : Value) (A : Around) (outer : List Env) (s : Shared) (H : Hp) (E : XK) (hr : Room 2 (A.deeper (envOfC "check_group_word" (defScope s_check_group_word) s.heap.objs.size f cdv))) (bx : Bx (cxOf (L2.CX P w) P w K mg base N_check_group_word "check_group_word" (defScope s_check_group_word) f cdv A outer s H E) (wE E)) :
    PDSs (cxOf (L2.CX P w) P w K mg base N_check_group_word "check_group_word" (defScope s_check_group_word) f cdv A outer s H E) (wE E) (defBody s_check_group_word) t_check_group_word :=
  (s_one (s_for bx (it_en m_enumerate (d_cons (d_v 0) d_nil)) (g_tp bx.calm (g_cs (g_nm (i := 1) bx.nd) (g_cs (g_nm (i := 2) bx.nd) g_end))) (s_one (s_if (d_not (d_tst (d_call bx G_is_pair (hr.mono (by decide)) (d_cons (d_v 2) d_nil)))) (s_one (s_raise bx X_InvalidWord (hr.mono (by decide)) (d_cons (d_v 1) d_nil))) s_nil))))
/-! ### shortened -/
def N_shortened : List Str := ["word", "found", "name", "sign"]
abbrev s_shortened : Stmt := topS 11
theorem sc_shortened : FnScope N_shortened ["word"] (defScope s_shortened) := ⟨rfl, rfl, rfl, by decide +kernel, rfl, by decide +kernel, by decide +kernel⟩
theorem l_shortened  (m_tuple : mg "tuple" = none) {f : Addr} (cdv : Value) (A : Around) (outer : List Env) (s : Shared) (H : Hp) (E : XK) (hr : Room 0 (A.deeper (envOfC "shortened" (defScope s_shortened) s.heap.objs.size f cdv))) (bx : Bx (cxOf (L2.CX P w) P w K mg base N_shortened "shortened" (defScope s_shortened) f cdv A outer s H E) (wE E)) :
    PDSs (cxOf (L2.CX P w) P w K mg base N_shortened "shortened" (defScope s_shortened) f cdv A outer s H E) (wE E) (defBody s_shortened) t_shortened :=
  (s_cons (s_set (i := 1) bx (d_lstO d_nil))
    (s_cons (s_for bx (it_t (d_v 0)) (g_tp bx.calm (g_cs (g_nm (i := 2) bx.nd) (g_cs (g_nm (i := 3) bx.nd) g_end))) (s_one (s_if (d_w (d_and (d_tcmp (o_neD (hu_eq hr)) (d_v 1) (d_lst d_nil)) (d_and1 (d_tcmp (o_eqD (hu_eq hr)) (d_ix i_l (d_v 1) (d_un o_neg d_int)) (d_tup (d_cons (d_v 2) (d_cons (d_un o_neg (d_v 3)) d_nil))))))) (s_one (s_expr (d_pop (d_v 1)))) (s_one (s_expr (d_append (d_v 1) (d_cons (d_tup (d_cons (d_v 2) (d_cons (d_v 3) d_nil))) d_nil)))))))
    (s_one (s_ret (d_ct c_tuple m_tuple b_tuple (d_cons (d_v 1) d_nil))))))
/-! ### reduced -/
def N_reduced : List Str := ["word"]
abbrev s_reduced : Stmt := topS 12
theorem sc_reduced : FnScope N_reduced ["word"] (defScope s_reduced) := ⟨rfl, rfl, rfl, by decide +kernel, rfl, by decide +kernel, by decide +kernel⟩
theorem l_reduced  (G_check_group_word : FnD P w K mg base "check_group_word" 3 ["word"] sp_check_group_word) (G_shortened : FnD P w K mg base "shortened" 1 ["word"] sp_shortened) {f : Addr} (cdv : Value) (A : Around) (outer : List Env) (s : Shared) (H : Hp) (E : XK) (hr : Room 3 (A.deeper (envOfC "reduced" (defScope s_reduced) s.heap.objs.size f cdv))) (bx : Bx (cxOf (L2.CX P w) P w K mg base N_reduced "reduced" (defScope s_reduced) f cdv A outer s H E) (wE E)) :
    PDSs (cxOf (L2.CX P w) P w K mg base N_reduced "reduced" (defScope s_reduced) f cdv A outer s H E) (wE E) (defBody s_reduced) t_reduced :=
  (s_cons (s_expr (d_call bx G_check_group_word (hr.mono (by decide)) (d_cons (d_v 0) d_nil)))
    (s_one (s_ret (d_call bx G_shortened (hr.mono (by decide)) (d_cons (d_v 0) d_nil)))))
/-! ### opposite -/
def N_opposite : List Str := ["word", "name", "sign"]
abbrev s_opposite : Stmt := topS 13
theorem sc_opposite : FnScope N_opposite ["word"] (defScope s_opposite) := ⟨rfl, rfl, rfl, by decide +kernel, rfl, by decide +kernel, by decide +kernel⟩
theorem l_opposite  (m_reversed : mg "reversed" = none) (m_tuple : mg "tuple" = none) {f : Addr} (cdv : Value) (A : Around) (outer : List Env) (s : Shared) (H : Hp) (E : XK) (hr : Room 0 (A.deeper (envOfC "opposite" (defScope s_opposite) s.heap.objs.size f cdv))) (bx : Bx (cxOf (L2.CX P w) P w K mg base N_opposite "opposite" (defScope s_opposite) f cdv A outer s H E) (wE E)) :
    PDSs (cxOf (L2.CX P w) P w K mg base N_opposite "opposite" (defScope s_opposite) f cdv A outer s H E) (wE E) (defBody s_opposite) t_opposite :=
  (s_one (s_ret (d_ct c_tuple m_tuple b_tuple (d_cons (d_lc bx [("name", 1), ("sign", 2)] (.many [1, 2]) (it_rv m_reversed (d_v 0)) (blkOk_by (own := [("name", 1), ("sign", 2)]) (N := N_opposite) (by kernel_rfl)) (by decide) (fun _ _ _ _ _ => (pg_tup (bx.blk _ _ _ _ _).calm (pgs_cons (pg_name (i := 1) (bx.blk _ _ _ _ _).nd rfl (Or.inl rfl)) (pgs_cons (pg_name (i := 2) (bx.blk _ _ _ _ _).nd rfl (Or.inl rfl)) pgs_nil)))) (fun _ _ _ _ _ => ts_nil) (fun _ _ _ _ _ => (d_tup (d_cons (d_v 1) (d_cons (d_un o_neg (d_v 2)) d_nil))))) d_nil))))
/-! ### group_product -/
def N_group_product : List Str := ["rows", "whole", "word"]
abbrev s_group_product : Stmt := topS 14
theorem sc_group_product : FnScope N_group_product ["rows"] (defScope s_group_product) := ⟨rfl, rfl, rfl, by decide +kernel, rfl, by decide +kernel, by decide +kernel⟩
theorem l_group_product  (G_check_group_word : FnD P w K mg base "check_group_word" 3 ["word"] sp_check_group_word) (G_shortened : FnD P w K mg base "shortened" 1 ["word"] sp_shortened) {f : Addr} (cdv : Value) (A : Around) (outer : List Env) (s : Shared) (H : Hp) (E : XK) (hr : Room 3 (A.deeper (envOfC "group_product" (defScope s_group_product) s.heap.objs.size f cdv))) (bx : Bx (cxOf (L2.CX P w) P w K mg base N_group_product "group_product" (defScope s_group_product) f cdv A outer s H E) (wE E)) :
    PDSs (cxOf (L2.CX P w) P w K mg base N_group_product "group_product" (defScope s_group_product) f cdv A outer s H E) (wE E) (defBody s_group_product) t_group_product :=
  (s_cons (s_set (i := 1) bx (d_tup d_nil))
    (s_cons (s_for bx (it_l (d_v 0)) (g_nm (i := 2) bx.nd) (s_cons (s_expr (d_call bx G_check_group_word (hr.mono (by decide)) (d_cons (d_v 2) d_nil)))
    (s_one (s_set (i := 1) bx (d_op o_addT (d_v 1) (d_v 2))))))
    (s_one (s_ret (d_call bx G_shortened (hr.mono (by decide)) (d_cons (d_v 1) d_nil))))))
/-! ### group_inverse -/
def N_group_inverse : List Str := ["word"]
abbrev s_group_inverse : Stmt := topS 15
theorem sc_group_inverse : FnScope N_group_inverse ["word"] (defScope s_group_inverse) := ⟨rfl, rfl, rfl, by decide +kernel, rfl, by decide +kernel, by decide +kernel⟩
theorem l_group_inverse  (G_opposite : FnD P w K mg base "opposite" 1 ["word"] sp_opposite) (G_reduced : FnD P w K mg base "reduced" 4 ["word"] sp_reduced) {f : Addr} (cdv : Value) (A : Around) (outer : List Env) (s : Shared) (H : Hp) (E : XK) (hr : Room 4 (A.deeper (envOfC "group_inverse" (defScope s_group_inverse) s.heap.objs.size f cdv))) (bx : Bx (cxOf (L2.CX P w) P w K mg base N_group_inverse "group_inverse" (defScope s_group_inverse) f cdv A outer s H E) (wE E)) :
    PDSs (cxOf (L2.CX P w) P w K mg base N_group_inverse "group_inverse" (defScope s_group_inverse) f cdv A outer s H E) (wE E) (defBody s_group_inverse) t_group_inverse :=
  (s_one (s_ret (d_call bx G_opposite (hr.mono (by decide)) (d_cons (d_call bx G_reduced (hr.mono (by decide)) (d_cons (d_v 0) d_nil)) d_nil))))
/-! ### group_power -/
def N_group_power : List Str := ["word", "count", "one"]
abbrev s_group_power : Stmt := topS 16
theorem sc_group_power : FnScope N_group_power ["word", "count"] (defScope s_group_power) := ⟨rfl, rfl, rfl, by decide +kernel, rfl, by decide +kernel, by decide +kernel⟩
theorem l_group_power  (m_abs : mg "abs" = none) (G_reduced : FnD P w K mg base "reduced" 4 ["word"] sp_reduced) (G_group_inverse : FnD P w K mg base "group_inverse" 5 ["word"] sp_group_inverse) (G_shortened : FnD P w K mg base "shortened" 1 ["word"] sp_shortened) {f : Addr} (cdv : Value) (A : Around) (outer : List Env) (s : Shared) (H : Hp) (E : XK) (hr : Room 5 (A.deeper (envOfC "group_power" (defScope s_group_power) s.heap.objs.size f cdv))) (bx : Bx (cxOf (L2.CX P w) P w K mg base N_group_power "group_power" (defScope s_group_power) f cdv A outer s H E) (wE E)) :
    PDSs (cxOf (L2.CX P w) P w K mg base N_group_power "group_power" (defScope s_group_power) f cdv A outer s H E) (wE E) (defBody s_group_power) t_group_power :=
  (s_cons (s_set (i := 2) bx (d_ifE (d_tcmp o_ge (d_v 1) d_int) (d_call bx G_reduced (hr.mono (by decide)) (d_cons (d_v 0) d_nil)) (d_call bx G_group_inverse (hr.mono (by decide)) (d_cons (d_v 0) d_nil))))
    (s_one (s_ret (d_call bx G_shortened (hr.mono (by decide)) (d_cons (d_op o_repT (d_v 2) (d_cb c_abs m_abs b_abs (d_cons (d_v 1) d_nil))) d_nil)))))
/-! ### commutator_word -/
def N_commutator_word : List Str := ["one", "two"]
abbrev s_commutator_word : Stmt := topS 17
theorem sc_commutator_word : FnScope N_commutator_word ["one", "two"] (defScope s_commutator_word) := ⟨rfl, rfl, rfl, by decide +kernel, rfl, by decide +kernel, by decide +kernel⟩
theorem l_commutator_word  (G_check_group_word : FnD P w K mg base "check_group_word" 3 ["word"] sp_check_group_word) (G_shortened : FnD P w K mg base "shortened" 1 ["word"] sp_shortened) (G_opposite : FnD P w K mg base "opposite" 1 ["word"] sp_opposite) {f : Addr} (cdv : Value) (A : Around) (outer : List Env) (s : Shared) (H : Hp) (E : XK) (hr : Room 3 (A.deeper (envOfC "commutator_word" (defScope s_commutator_word) s.heap.objs.size f cdv))) (bx : Bx (cxOf (L2.CX P w) P w K mg base N_commutator_word "commutator_word" (defScope s_commutator_word) f cdv A outer s H E) (wE E)) :
    PDSs (cxOf (L2.CX P w) P w K mg base N_commutator_word "commutator_word" (defScope s_commutator_word) f cdv A outer s H E) (wE E) (defBody s_commutator_word) t_commutator_word :=
  (s_cons (s_expr (d_call bx G_check_group_word (hr.mono (by decide)) (d_cons (d_v 0) d_nil)))
    (s_cons (s_expr (d_call bx G_check_group_word (hr.mono (by decide)) (d_cons (d_v 1) d_nil)))
    (s_one (s_ret (d_call bx G_shortened (hr.mono (by decide)) (d_cons (d_op o_addT (d_op o_addT (d_op o_addT (d_v 0) (d_v 1)) (d_call bx G_opposite (hr.mono (by decide)) (d_cons (d_v 0) d_nil))) (d_call bx G_opposite (hr.mono (by decide)) (d_cons (d_v 1) d_nil))) d_nil))))))
/-! ### group_put -/
def N_group_put : List Str := ["word", "table", "name", "whole", "sign", "other"]
abbrev s_group_put : Stmt := topS 18
theorem sc_group_put : FnScope N_group_put ["word", "table"] (defScope s_group_put) := ⟨rfl, rfl, rfl, by decide +kernel, rfl, by decide +kernel, by decide +kernel⟩
theorem l_group_put  (m_sorted : mg "sorted" = none) (G_check_group_word : FnD P w K mg base "check_group_word" 3 ["word"] sp_check_group_word) (G_opposite : FnD P w K mg base "opposite" 1 ["word"] sp_opposite) (G_shortened : FnD P w K mg base "shortened" 1 ["word"] sp_shortened) {f : Addr} (cdv : Value) (A : Around) (outer : List Env) (s : Shared) (H : Hp) (E : XK) (hr : Room 3 (A.deeper (envOfC "group_put" (defScope s_group_put) s.heap.objs.size f cdv))) (bx : Bx (cxOf (L2.CX P w) P w K mg base N_group_put "group_put" (defScope s_group_put) f cdv A outer s H E) (wE E)) :
    PDSs (cxOf (L2.CX P w) P w K mg base N_group_put "group_put" (defScope s_group_put) f cdv A outer s H E) (wE E) (defBody s_group_put) t_group_put :=
  (s_cons (s_expr (d_call bx G_check_group_word (hr.mono (by decide)) (d_cons (d_v 0) d_nil)))
    (s_cons (s_for bx (it_l (d_cb (c_sortD bx.calm) m_sorted b_sorted (d_cons (d_v 1) d_nil))) (g_nm (i := 2) bx.nd) (s_one (s_expr (d_call bx G_check_group_word (hr.mono (by decide)) (d_cons (d_dget (hu_d hr) (fun _ _ => rfl) (d_v 1) (d_v 2)) d_nil)))))
    (s_cons (s_set (i := 3) bx (d_tup d_nil))
    (s_cons (s_for bx (it_t (d_v 0)) (g_tp bx.calm (g_cs (g_nm (i := 2) bx.nd) (g_cs (g_nm (i := 4) bx.nd) g_end))) (s_cons (s_set (i := 5) bx (d_get2 (hu_d hr) (d_v 1) (d_v 2) (d_tup (d_cons (d_tup (d_cons (d_v 2) (d_cons d_int d_nil))) d_nil)) ⟨rfl, rfl, rfl, rfl⟩))
    (s_one (s_set (i := 3) bx (d_op o_addT (d_v 3) (d_ifE (d_tcmp o_eq (d_v 4) d_int) (d_v 5) (d_call bx G_opposite (hr.mono (by decide)) (d_cons (d_v 5) d_nil))))))))
    (s_one (s_ret (d_call bx G_shortened (hr.mono (by decide)) (d_cons (d_v 3) d_nil))))))))
/-! ### _law_cell -/
def N_law_cell : List Str := ["script", "k", "cell"]
abbrev s_law_cell : Stmt := topS 20
theorem sc_law_cell : FnScope N_law_cell ["script", "k"] (defScope s_law_cell) := ⟨rfl, rfl, rfl, by decide +kernel, rfl, by decide +kernel, by decide +kernel⟩
theorem l_law_cell  (m_len : mg "len" = none) (m_int : mg "int" = none) {f : Addr} (cdv : Value) (A : Around) (outer : List Env) (s : Shared) (H : Hp) (E : XK) (hr : Room 0 (A.deeper (envOfC "_law_cell" (defScope s_law_cell) s.heap.objs.size f cdv))) (bx : Bx (cxOf (L2.CX P w) P w K mg base N_law_cell "_law_cell" (defScope s_law_cell) f cdv A outer s H E) (wE E)) :
    PDSs (cxOf (L2.CX P w) P w K mg base N_law_cell "_law_cell" (defScope s_law_cell) f cdv A outer s H E) (wE E) (defBody s_law_cell) t_law_cell :=
  (s_cons (s_if (d_w (d_and (d_tcmp o_lt (d_v 1) (d_cb c_len m_len b_len (d_cons (d_v 0) d_nil))) (d_and1 (d_tcmp o_ge (d_ix i_l (d_v 0) (d_v 1)) (d_op o_pow d_int d_int))))) (s_one (s_ret (d_ix i_l (d_v 0) (d_v 1)))) s_nil)
    (s_cons (s_set (i := 2) bx (d_op o_add (d_op o_mul d_int (d_v 1)) d_int))
    (s_cons (s_if (d_tcmp o_gt (d_cb c_len m_len b_len (d_cons (d_v 0) d_nil)) d_int) (s_one (s_set (i := 2) bx (d_op o_add (d_v 2) (d_op o_mul d_int (d_ix i_l (d_v 0) (d_op o_mod (d_ct c_int m_int b_int (d_cons (d_v 1) d_nil)) (d_cb c_len m_len b_len (d_cons (d_v 0) d_nil)))))))) s_nil)
    (s_cons (s_set (i := 2) bx (d_op o_mod (d_ct c_int m_int b_int (d_cons (d_op o_add (d_op o_mul (d_v 2) d_int) (d_op o_mul d_int (d_v 1))) d_nil)) d_int))
    (s_one (s_ret (d_op o_mod (d_ct c_int m_int b_int (d_cons (d_op o_add (d_op o_mul (d_v 2) (d_v 2)) (d_op o_mul d_int (d_op o_div (d_v 2) d_int))) d_nil)) d_int)))))))
/-! ### _law_big -/
def N_law_big : List Str := ["script", "at", "count", "found", "k"]
abbrev s_law_big : Stmt := topS 21
theorem sc_law_big : FnScope N_law_big ["script", "at", "count"] (defScope s_law_big) := ⟨rfl, rfl, rfl, by decide +kernel, rfl, by decide +kernel, by decide +kernel⟩
theorem l_law_big  (m_range : mg "range" = none) (G_law_cell : FnD P w K mg base "_law_cell" 1 ["script", "k"] sp_law_cell) {f : Addr} (cdv : Value) (A : Around) (outer : List Env) (s : Shared) (H : Hp) (E : XK) (hr : Room 1 (A.deeper (envOfC "_law_big" (defScope s_law_big) s.heap.objs.size f cdv))) (bx : Bx (cxOf (L2.CX P w) P w K mg base N_law_big "_law_big" (defScope s_law_big) f cdv A outer s H E) (wE E)) :
    PDSs (cxOf (L2.CX P w) P w K mg base N_law_big "_law_big" (defScope s_law_big) f cdv A outer s H E) (wE E) (defBody s_law_big) t_law_big :=
  (s_cons (s_set (i := 3) bx d_int)
    (s_cons (s_for bx (it_r1 m_range (d_cons (d_v 2) d_nil)) (g_nm (i := 4) bx.nd) (s_one (s_set (i := 3) bx (d_op o_add (d_op o_mul (d_v 3) d_int) (d_call bx G_law_cell (hr.mono (by decide)) (d_cons (d_v 0) (d_cons (d_op o_add (d_v 1) (d_v 4)) d_nil)))))))
    (s_one (s_ret (d_lstO (d_cons (d_v 3) d_nil))))))
/-! ### _law_take -/
def N_law_take : List Str := ["state", "m", "x"]
abbrev s_law_take : Stmt := topS 22
theorem sc_law_take : FnScope N_law_take ["state", "m"] (defScope s_law_take) := ⟨rfl, rfl, rfl, by decide +kernel, rfl, by decide +kernel, by decide +kernel⟩
theorem l_law_take  (m_int : mg "int" = none) {f : Addr} (cdv : Value) (A : Around) (outer : List Env) (s : Shared) (H : Hp) (E : XK) (hr : Room 0 (A.deeper (envOfC "_law_take" (defScope s_law_take) s.heap.objs.size f cdv))) (bx : Bx (cxOf (L2.CX P w) P w K mg base N_law_take "_law_take" (defScope s_law_take) f cdv A outer s H E) (wE E)) :
    PDSs (cxOf (L2.CX P w) P w K mg base N_law_take "_law_take" (defScope s_law_take) f cdv A outer s H E) (wE E) (defBody s_law_take) t_law_take :=
  (s_cons (s_set (i := 2) bx (d_op o_mod (d_ct c_int m_int b_int (d_cons (d_ix i_l (d_v 0) d_int) d_nil)) (d_v 1)))
    (s_cons (s_asg (d_ct c_int m_int b_int (d_cons (d_op o_div (d_ix i_l (d_v 0) d_int) (d_v 1)) d_nil)) (g_sub (Wx := wE E) set_l (d_v 0) d_int))
    (s_one (s_ret (d_v 2)))))
/-! ### _law_same -/
def N_law_same : List Str := ["one", "two", "k", "key"]
abbrev s_law_same : Stmt := topS 23
theorem sc_law_same : FnScope N_law_same ["one", "two"] (defScope s_law_same) := ⟨rfl, rfl, rfl, by decide +kernel, rfl, by decide +kernel, by decide +kernel⟩
theorem l_law_same {n : Nat} (m_bool : mg "bool" = none) (m_isinstance : mg "isinstance" = none) (m_list : mg "list" = none) (m_tuple : mg "tuple" = none) (m_len : mg "len" = none) (m_range : mg "range" = none) (m_dict : mg "dict" = none) (m_int : mg "int" = none) (m_str : mg "str" = none) (G_law_same : FnD P w K mg base "_law_same" n ["one", "two"] (sp_law_same n)) {f : Addr} (cdv : Value) (A : Around) (outer : List Env) (s : Shared) (H : Hp) (E : XK) (hr : Room n (A.deeper (envOfC "_law_same" (defScope s_law_same) s.heap.objs.size f cdv))) (bx : Bx (cxOf (L2.CX P w) P w K mg base N_law_same "_law_same" (defScope s_law_same) f cdv A outer s H E) (wE E)) :
    PDSs (cxOf (L2.CX P w) P w K mg base N_law_same "_law_same" (defScope s_law_same) f cdv A outer s H E) (wE E) (defBody s_law_same) (t_law_same n) :=
  (s_cons (s_if (d_w (d_or (d_tst (d_cb c_isi m_isinstance b_isinstance (d_cons (d_v 0) (d_cons (d_ty m_bool b_bool) d_nil)))) (d_or1 (d_tst (d_cb c_isi m_isinstance b_isinstance (d_cons (d_v 1) (d_cons (d_ty m_bool b_bool) d_nil))))))) (s_one (s_ret (d_andV (d_cb c_isi m_isinstance b_isinstance (d_cons (d_v 0) (d_cons (d_ty m_bool b_bool) d_nil))) (d_andV (d_cb c_isi m_isinstance b_isinstance (d_cons (d_v 1) (d_cons (d_ty m_bool b_bool) d_nil))) (d_oneV (d_cmp (o_eqD (hu_eq hr)) (d_v 0) (d_v 1))))))) s_nil)
    (s_cons (s_if (d_w (d_or (d_tst (d_cb c_isi m_isinstance b_isinstance (d_cons (d_v 0) (d_cons (d_tup (d_cons (d_ty m_list b_list) (d_cons (d_ty m_tuple b_tuple) d_nil))) d_nil)))) (d_or1 (d_tst (d_cb c_isi m_isinstance b_isinstance (d_cons (d_v 1) (d_cons (d_tup (d_cons (d_ty m_list b_list) (d_cons (d_ty m_tuple b_tuple) d_nil))) d_nil))))))) (s_cons (s_if (d_w (d_or (d_tcmp o_ne (d_cb c_isi m_isinstance b_isinstance (d_cons (d_v 0) (d_cons (d_ty m_list b_list) d_nil))) (d_cb c_isi m_isinstance b_isinstance (d_cons (d_v 1) (d_cons (d_ty m_list b_list) d_nil)))) (d_or (d_tcmp o_ne (d_cb c_isi m_isinstance b_isinstance (d_cons (d_v 0) (d_cons (d_ty m_tuple b_tuple) d_nil))) (d_cb c_isi m_isinstance b_isinstance (d_cons (d_v 1) (d_cons (d_ty m_tuple b_tuple) d_nil)))) (d_or1 (d_tcmp o_ne (d_cb c_len m_len b_len (d_cons (d_v 0) d_nil)) (d_cb c_len m_len b_len (d_cons (d_v 1) d_nil))))))) (s_one (s_ret d_bl)) s_nil)
    (s_one (s_ret (d_cmp (o_eqD (hu_eq hr)) (d_lc bx [("k", 2)] (.one 2) (it_r1 m_range (d_cons (d_cb c_len m_len b_len (d_cons (d_v 0) d_nil)) d_nil)) (blkOk_by (own := [("k", 2)]) (N := N_law_same) (by kernel_rfl)) (by decide) (fun _ _ _ _ _ => (pg_name (i := 2) (bx.blk _ _ _ _ _).nd rfl (Or.inl rfl))) (fun _ _ _ _ _ => (ts_one (d_not (d_tst (d_call (bx.blk _ _ _ _ _) G_law_same hr (d_cons (d_ix i_q (d_v 0) (d_v 2)) (d_cons (d_ix i_q (d_v 1) (d_v 2)) d_nil))))))) (fun _ _ _ _ _ => (d_v 2))) (d_lst d_nil))))) s_nil)
    (s_cons (s_if (d_w (d_or (d_tst (d_cb c_isi m_isinstance b_isinstance (d_cons (d_v 0) (d_cons (d_ty m_dict b_dict) d_nil)))) (d_or1 (d_tst (d_cb c_isi m_isinstance b_isinstance (d_cons (d_v 1) (d_cons (d_ty m_dict b_dict) d_nil))))))) ss_never s_nil)
    (s_cons (s_if (d_w (d_or (d_tcmp o_ne (d_cb c_isi m_isinstance b_isinstance (d_cons (d_v 0) (d_cons (d_ty m_int b_int) d_nil))) (d_cb c_isi m_isinstance b_isinstance (d_cons (d_v 1) (d_cons (d_ty m_int b_int) d_nil)))) (d_or (d_tcmp o_ne (d_cb c_isi m_isinstance b_isinstance (d_cons (d_v 0) (d_cons (d_ty m_str b_str) d_nil))) (d_cb c_isi m_isinstance b_isinstance (d_cons (d_v 1) (d_cons (d_ty m_str b_str) d_nil)))) (d_or1 (d_tcmp o_ne (d_cmp o_isN (d_v 0) d_non) (d_cmp o_isN (d_v 1) d_non)))))) (s_one (s_ret d_bl)) s_nil)
    (s_one (s_ret (d_cmp (o_eqD (hu_eq hr)) (d_v 0) (d_v 1))))))))
/-! ### _law_group_word -/
def N_law_group_word : List Str := ["state", "names", "most", "turn"]
abbrev s_law_group_word : Stmt := topS 24
theorem sc_law_group_word : FnScope N_law_group_word ["state", "names", "most"] (defScope s_law_group_word) := ⟨rfl, rfl, rfl, by decide +kernel, rfl, by decide +kernel, by decide +kernel⟩
theorem l_law_group_word  (m_range : mg "range" = none) (m_len : mg "len" = none) (m_tuple : mg "tuple" = none) (G_law_take : FnD P w K mg base "_law_take" 1 ["state", "m"] sp_law_take) {f : Addr} (cdv : Value) (A : Around) (outer : List Env) (s : Shared) (H : Hp) (E : XK) (hr : Room 1 (A.deeper (envOfC "_law_group_word" (defScope s_law_group_word) s.heap.objs.size f cdv))) (bx : Bx (cxOf (L2.CX P w) P w K mg base N_law_group_word "_law_group_word" (defScope s_law_group_word) f cdv A outer s H E) (wE E)) :
    PDSs (cxOf (L2.CX P w) P w K mg base N_law_group_word "_law_group_word" (defScope s_law_group_word) f cdv A outer s H E) (wE E) (defBody s_law_group_word) t_law_group_word :=
  (s_one (s_ret (d_ct c_tuple m_tuple b_tuple (d_cons (d_lc bx [("turn", 3)] (.one 3) (it_r1 m_range (d_cons (d_call bx G_law_take (hr.mono (by decide)) (d_cons (d_v 0) (d_cons (d_op o_add (d_v 2) d_int) d_nil))) d_nil)) (blkOk_by (own := [("turn", 3)]) (N := N_law_group_word) (by kernel_rfl)) (by decide) (fun _ _ _ _ _ => (pg_name (i := 3) (bx.blk _ _ _ _ _).nd rfl (Or.inl rfl))) (fun _ _ _ _ _ => ts_nil) (fun _ _ _ _ _ => (d_tup (d_cons (d_ix i_l (d_v 1) (d_call (bx.blk _ _ _ _ _) G_law_take (hr.mono (by decide)) (d_cons (d_v 0) (d_cons (d_cb c_len m_len b_len (d_cons (d_v 1) d_nil)) d_nil)))) (d_cons (d_op o_sub d_int (d_op o_mul d_int (d_call (bx.blk _ _ _ _ _) G_law_take (hr.mono (by decide)) (d_cons (d_v 0) (d_cons d_int d_nil))))) d_nil))))) d_nil))))
/-! ### _law_reduced -/
def N_law_reduced : List Str := ["word", "left", "at", "turn"]
abbrev s_law_reduced : Stmt := topS 25
theorem sc_law_reduced : FnScope N_law_reduced ["word"] (defScope s_law_reduced) := ⟨rfl, rfl, rfl, by decide +kernel, rfl, by decide +kernel, by decide +kernel⟩
theorem l_law_reduced  (m_list : mg "list" = none) (m_range : mg "range" = none) (m_len : mg "len" = none) (m_max : mg "max" = none) (m_tuple : mg "tuple" = none) {f : Addr} (cdv : Value) (A : Around) (outer : List Env) (s : Shared) (H : Hp) (E : XK) (hr : Room 0 (A.deeper (envOfC "_law_reduced" (defScope s_law_reduced) s.heap.objs.size f cdv))) (bx : Bx (cxOf (L2.CX P w) P w K mg base N_law_reduced "_law_reduced" (defScope s_law_reduced) f cdv A outer s H E) (wE E)) :
    PDSs (cxOf (L2.CX P w) P w K mg base N_law_reduced "_law_reduced" (defScope s_law_reduced) f cdv A outer s H E) (wE E) (defBody s_law_reduced) t_law_reduced :=
  (s_cons (s_set (i := 1) bx (d_ct c_listL m_list b_list (d_cons (d_v 0) d_nil)))
    (s_cons (s_set (i := 2) bx d_int)
    (s_cons (s_for bx (it_r1 m_range (d_cons (d_op o_add (d_op o_mul d_int (d_cb c_len m_len b_len (d_cons (d_v 0) d_nil))) d_int) d_nil)) (g_nm (i := 3) bx.nd) (s_cons (s_if (d_tcmp o_ge (d_op o_add (d_v 2) d_int) (d_cb c_len m_len b_len (d_cons (d_v 1) d_nil))) (s_one s_break) s_nil)
    (s_one (s_if (d_w (d_and (d_tcmp o_eq (d_ix i_t (d_ix i_l (d_v 1) (d_v 2)) d_int) (d_ix i_t (d_ix i_l (d_v 1) (d_op o_add (d_v 2) d_int)) d_int)) (d_and1 (d_tcmp o_ne (d_ix i_t (d_ix i_l (d_v 1) (d_v 2)) d_int) (d_ix i_t (d_ix i_l (d_v 1) (d_op o_add (d_v 2) d_int)) d_int))))) (s_cons (s_set (i := 1) bx (d_op o_addL (d_sl s_l (d_v 1) d_noP (d_part (d_v 2))) (d_sl s_l (d_v 1) (d_part (d_op o_add (d_v 2) d_int)) d_noP)))
    (s_one (s_set (i := 2) bx (d_cb (c_max bx.calm) m_max b_max (d_cons d_int (d_cons (d_op o_sub (d_v 2) d_int) d_nil)))))) (s_one (s_set (i := 2) bx (d_op o_add (d_v 2) d_int)))))))
    (s_one (s_ret (d_ct c_tuple m_tuple b_tuple (d_cons (d_v 1) d_nil)))))))
/-! ### _law_opposite -/
def N_law_opposite : List Str := ["word", "name", "sign"]
abbrev s_law_opposite : Stmt := topS 26
theorem sc_law_opposite : FnScope N_law_opposite ["word"] (defScope s_law_opposite) := ⟨rfl, rfl, rfl, by decide +kernel, rfl, by decide +kernel, by decide +kernel⟩
theorem l_law_opposite  (m_tuple : mg "tuple" = none) {f : Addr} (cdv : Value) (A : Around) (outer : List Env) (s : Shared) (H : Hp) (E : XK) (hr : Room 0 (A.deeper (envOfC "_law_opposite" (defScope s_law_opposite) s.heap.objs.size f cdv))) (bx : Bx (cxOf (L2.CX P w) P w K mg base N_law_opposite "_law_opposite" (defScope s_law_opposite) f cdv A outer s H E) (wE E)) :
    PDSs (cxOf (L2.CX P w) P w K mg base N_law_opposite "_law_opposite" (defScope s_law_opposite) f cdv A outer s H E) (wE E) (defBody s_law_opposite) t_law_opposite :=
  (s_one (s_ret (d_ct c_tuple m_tuple b_tuple (d_cons (d_lc bx [("name", 1), ("sign", 2)] (.many [1, 2]) (it_t (d_revT (d_v 0))) (blkOk_by (own := [("name", 1), ("sign", 2)]) (N := N_law_opposite) (by kernel_rfl)) (by decide) (fun _ _ _ _ _ => (pg_tup (bx.blk _ _ _ _ _).calm (pgs_cons (pg_name (i := 1) (bx.blk _ _ _ _ _).nd rfl (Or.inl rfl)) (pgs_cons (pg_name (i := 2) (bx.blk _ _ _ _ _).nd rfl (Or.inl rfl)) pgs_nil)))) (fun _ _ _ _ _ => ts_nil) (fun _ _ _ _ _ => (d_tup (d_cons (d_v 1) (d_cons (d_un o_neg (d_v 2)) d_nil))))) d_nil))))
/-! ### _law_told -/
def N_law_told : List Str := ["which", "word", "other", "e"]
abbrev s_law_told : Stmt := topS 27
theorem sc_law_told : FnScope N_law_told ["which", "word", "other"] (defScope s_law_told) := ⟨rfl, rfl, rfl, by decide +kernel, rfl, by decide +kernel, by decide +kernel⟩
theorem l_law_told  {a_check_group_word : Addr} (mv_check_group_word : mg "check_group_word" = some (.ref a_check_group_word)) (cl_check_group_word : ClsN K "check_group_word" a_check_group_word) {a_reduced : Addr} (mv_reduced : mg "reduced" = some (.ref a_reduced)) (cl_reduced : ClsN K "reduced" a_reduced) {a_group_inverse : Addr} (mv_group_inverse : mg "group_inverse" = some (.ref a_group_inverse)) (cl_group_inverse : ClsN K "group_inverse" a_group_inverse) (X_InvalidWord : ExD P w K mg base "InvalidWord" 1 ["place"]) {c_InvalidWord : Addr} (mx_InvalidWord : mg "InvalidWord" = some (.ref c_InvalidWord)) (so_InvalidWord : SubOk K (.ref c_InvalidWord) [("InvalidWord", true)]) (G_check_group_word : FnD P w K mg base "check_group_word" 3 ["word"] sp_check_group_word) (G_reduced : FnD P w K mg base "reduced" 4 ["word"] sp_reduced) (G_group_inverse : FnD P w K mg base "group_inverse" 5 ["word"] sp_group_inverse) (G_group_product : FnD P w K mg base "group_product" 4 ["rows"] sp_group_product) (G_group_power : FnD P w K mg base "group_power" 6 ["word", "count"] sp_group_power) (G_commutator_word : FnD P w K mg base "commutator_word" 4 ["one", "two"] sp_commutator_word) (G_group_put : FnD P w K mg base "group_put" 4 ["word", "table"] sp_group_put) {f : Addr} (cdv : Value) (A : Around) (outer : List Env) (s : Shared) (H : Hp) (E : XK) (hr : Room 6 (A.deeper (envOfC "_law_told" (defScope s_law_told) s.heap.objs.size f cdv))) (bx : Bx (cxOf (L2.CX P w) P w K mg base N_law_told "_law_told" (defScope s_law_told) f cdv A outer s H E) (wE E)) :
    PDSs (cxOf (L2.CX P w) P w K mg base N_law_told "_law_told" (defScope s_law_told) f cdv A outer s H E) (wE E) (defBody s_law_told) t_law_told :=
  (s_one (s_try_as (i := 3) bx rfl rfl rfl rfl ⟨rfl, by decide, .inl mx_InvalidWord⟩ so_InvalidWord (fun W pn xe bx => (s_cons (s_if (d_tcmp o_lt (d_v 0) d_int) (s_one (s_ret (d_callE (k := 5) bx ⟨⟨_, G_check_group_word.mono (by decide)⟩, ⟨_, G_reduced.mono (by decide)⟩, ⟨_, G_group_inverse.mono (by decide)⟩, trivial⟩ (hr.mono (by decide)) (d_ix i_l (d_lstO (d_cons (d_gl mv_check_group_word cl_check_group_word) (d_cons (d_gl mv_reduced cl_reduced) (d_cons (d_gl mv_group_inverse cl_group_inverse) d_nil)))) (d_v 0)) (d_cons (d_v 1) d_nil)))) s_nil)
    (s_cons (s_if (d_tcmp o_eq (d_v 0) d_int) (s_one (s_ret (d_call bx G_group_product (hr.mono (by decide)) (d_cons (d_lst (d_cons (d_v 2) (d_cons (d_v 1) d_nil))) d_nil)))) s_nil)
    (s_cons (s_if (d_tcmp o_eq (d_v 0) d_int) (s_one (s_ret (d_call bx G_group_power (hr.mono (by decide)) (d_cons (d_v 1) (d_cons (d_un o_neg d_int) d_nil))))) s_nil)
    (s_one (s_ret (d_ifE (d_tcmp o_eq (d_v 0) d_int) (d_call bx G_commutator_word (hr.mono (by decide)) (d_cons (d_v 2) (d_cons (d_v 1) d_nil))) (d_call bx G_group_put (hr.mono (by decide)) (d_cons (d_v 2) (d_cons (d_disp (ds := [((dC (.str "a")), (dV 2)), ((dC (.str "x")), (dV 1))]) (pps_cons d_str (d_v 2) (pps_cons d_str (d_v 1) pps_nil))) d_nil)))))))))) (fun a d C nm oe pn hnm hC hz hf => by cases sub_one hnm; exact (s_one (s_ret (d_lst (d_cons d_str (d_cons (d_xf X_InvalidWord hC (by simp) hz hf (d_v 3)) d_nil))))))))
/-! ### law -/
def N_law : List Str := ["script", "state", "names", "rows", "one", "two", "count", "joined", "word", "power", "due", "told", "table", "name", "whole", "wrong", "place", "bad", "sign", "other", "turn", "which"]
abbrev s_law : Stmt := topS 28
theorem sc_law : FnScope N_law ["script"] (defScope s_law) := ⟨rfl, rfl, rfl, by decide +kernel, rfl, by decide +kernel, by decide +kernel⟩
theorem l_law  (m_range : mg "range" = none) (m_len : mg "len" = none) (G_law_big : FnD P w K mg base "_law_big" 2 ["script", "at", "count"] sp_law_big) (G_law_take : FnD P w K mg base "_law_take" 1 ["state", "m"] sp_law_take) (G_law_group_word : FnD P w K mg base "_law_group_word" 2 ["state", "names", "most"] sp_law_group_word) (G_law_opposite : FnD P w K mg base "_law_opposite" 1 ["word"] sp_law_opposite) (G_law_reduced : FnD P w K mg base "_law_reduced" 1 ["word"] sp_law_reduced) (G_reduced : FnD P w K mg base "reduced" 4 ["word"] sp_reduced) (G_group_product : FnD P w K mg base "group_product" 4 ["rows"] sp_group_product) (G_group_inverse : FnD P w K mg base "group_inverse" 5 ["word"] sp_group_inverse) (G_group_power : FnD P w K mg base "group_power" 6 ["word", "count"] sp_group_power) (G_law_same : FnD P w K mg base "_law_same" 8 ["one", "two"] (sp_law_same 8)) (G_check_group_word : FnD P w K mg base "check_group_word" 3 ["word"] sp_check_group_word) (G_commutator_word : FnD P w K mg base "commutator_word" 4 ["one", "two"] sp_commutator_word) (G_group_put : FnD P w K mg base "group_put" 4 ["word", "table"] sp_group_put) (G_law_told : FnD P w K mg base "_law_told" 7 ["which", "word", "other"] sp_law_told) {f : Addr} (cdv : Value) (A : Around) (outer : List Env) (s : Shared) (H : Hp) (E : XK) (hr : Room 8 (A.deeper (envOfC "law" (defScope s_law) s.heap.objs.size f cdv))) (bx : Bx (cxOf (L2.CX P w) P w K mg base N_law "law" (defScope s_law) f cdv A outer s H E) (wE E)) :
    PDSs (cxOf (L2.CX P w) P w K mg base N_law "law" (defScope s_law) f cdv A outer s H E) (wE E) (defBody s_law) t_law :=
  (s_cons (s_set (i := 1) bx (d_call bx G_law_big (hr.mono (by decide)) (d_cons (d_v 0) (d_cons d_int (d_cons d_int d_nil)))))
    (s_cons (s_set (i := 2) bx (d_sl s_l (d_lst (d_cons d_str (d_cons d_str (d_cons d_str d_nil)))) d_noP (d_part (d_op o_add d_int (d_call bx G_law_take (hr.mono (by decide)) (d_cons (d_v 1) (d_cons d_int d_nil)))))))
    (s_cons (s_setLc (i := 3) bx [("turn", 20)] (.one 20) (it_r1 m_range (d_cons (d_op o_add d_int (d_call bx G_law_take (hr.mono (by decide)) (d_cons (d_v 1) (d_cons d_int d_nil)))) d_nil)) (blkOk_by (own := [("turn", 20)]) (N := N_law) (by kernel_rfl)) (by decide) (fun _ _ _ _ _ => (pg_name (i := 20) (bx.blk _ _ _ _ _).nd rfl (Or.inl rfl))) (fun _ _ _ _ _ => ts_nil) (fun _ _ _ _ _ => (d_call (bx.blk _ _ _ _ _) G_law_group_word (hr.mono (by decide)) (d_cons (d_v 1) (d_cons (d_v 2) (d_cons d_int d_nil))))))
    (s_cons (s_set (i := 4) bx (d_ix i_l (d_v 3) d_int))
    (s_cons (s_set (i := 5) bx (d_ix i_l (d_v 3) (d_un o_neg d_int)))
    (s_cons (s_set (i := 6) bx (d_op o_sub (d_call bx G_law_take (hr.mono (by decide)) (d_cons (d_v 1) (d_cons d_int d_nil))) d_int))
    (s_cons (s_set (i := 7) bx (d_tup d_nil))
    (s_cons (s_for bx (it_l (d_v 3)) (g_nm (i := 8) bx.nd) (s_one (s_set (i := 7) bx (d_op o_addT (d_v 7) (d_v 8)))))
    (s_cons (s_set (i := 9) bx (d_ifE (d_tcmp o_ge (d_v 6) d_int) (d_op o_repT (d_v 4) (d_v 6)) (d_op o_repT (d_call bx G_law_opposite (hr.mono (by decide)) (d_cons (d_v 4) d_nil)) (d_un o_neg (d_v 6)))))
    (s_cons (s_set (i := 10) bx (d_lst (d_cons (d_call bx G_law_reduced (hr.mono (by decide)) (d_cons (d_v 4) d_nil)) (d_cons (d_call bx G_law_reduced (hr.mono (by decide)) (d_cons (d_v 7) d_nil)) (d_cons (d_call bx G_law_opposite (hr.mono (by decide)) (d_cons (d_call bx G_law_reduced (hr.mono (by decide)) (d_cons (d_v 4) d_nil)) d_nil)) (d_cons (d_call bx G_law_reduced (hr.mono (by decide)) (d_cons (d_v 9) d_nil)) d_nil))))))
    (s_cons (s_set (i := 11) bx (d_lst (d_cons (d_call bx G_reduced (hr.mono (by decide)) (d_cons (d_v 4) d_nil)) (d_cons (d_call bx G_group_product (hr.mono (by decide)) (d_cons (d_v 3) d_nil)) (d_cons (d_call bx G_group_inverse (hr.mono (by decide)) (d_cons (d_v 4) d_nil)) (d_cons (d_call bx G_group_power (hr.mono (by decide)) (d_cons (d_v 4) (d_cons (d_v 6) d_nil))) d_nil))))))
    (s_cons (s_if (d_w (d_or (d_not (d_tst (d_call bx G_law_same (hr.mono (by decide)) (d_cons (d_v 11) (d_cons (d_v 10) d_nil))))) (d_or1 (d_not (d_tst (d_call bx G_law_same (hr.mono (by decide)) (d_cons (d_lst (d_cons (d_call bx G_group_product (hr.mono (by decide)) (d_cons (d_lst d_nil) d_nil)) (d_cons (d_call bx G_check_group_word (hr.mono (by decide)) (d_cons (d_v 4) d_nil)) d_nil))) (d_cons (d_lst (d_cons (d_tup d_nil) (d_cons d_non d_nil))) d_nil)))))))) (s_one (s_ret d_bl)) s_nil)
    (s_cons (s_if (d_not (d_tst (d_call bx G_law_same (hr.mono (by decide)) (d_cons (d_call bx G_commutator_word (hr.mono (by decide)) (d_cons (d_v 4) (d_cons (d_v 5) d_nil))) (d_cons (d_call bx G_law_reduced (hr.mono (by decide)) (d_cons (d_op o_addT (d_op o_addT (d_op o_addT (d_v 4) (d_v 5)) (d_call bx G_law_opposite (hr.mono (by decide)) (d_cons (d_v 4) d_nil))) (d_call bx G_law_opposite (hr.mono (by decide)) (d_cons (d_v 5) d_nil))) d_nil)) d_nil))))) (s_one (s_ret d_bl)) s_nil)
    (s_cons (s_set (i := 12) bx d_newD)
    (s_cons (s_for bx (it_l (d_v 2)) (g_nm (i := 13) bx.nd) (s_one (s_if (d_tcmp o_gt (d_call bx G_law_take (hr.mono (by decide)) (d_cons (d_v 1) (d_cons d_int d_nil))) d_int) (s_one (s_dput (hu_d hr) (d_v 12) (d_v 13) (d_call bx G_law_group_word (hr.mono (by decide)) (d_cons (d_v 1) (d_cons (d_lst (d_cons d_str (d_cons d_str (d_cons d_str d_nil)))) (d_cons d_int d_nil)))))) s_nil)))
    (s_cons (s_set (i := 14) bx (d_tup d_nil))
    (s_cons (s_for bx (it_t (d_v 4)) (g_tp bx.calm (g_cs (g_nm (i := 13) bx.nd) (g_cs (g_nm (i := 18) bx.nd) g_end))) (s_cons (s_set (i := 19) bx (d_get2 (hu_d hr) (d_v 12) (d_v 13) (d_tup (d_cons (d_tup (d_cons (d_v 13) (d_cons d_int d_nil))) d_nil)) ⟨rfl, rfl, rfl, rfl⟩))
    (s_one (s_set (i := 14) bx (d_op o_addT (d_v 14) (d_ifE (d_tcmp o_eq (d_v 18) d_int) (d_v 19) (d_call bx G_law_opposite (hr.mono (by decide)) (d_cons (d_v 19) d_nil))))))))
    (s_cons (s_if (d_not (d_tst (d_call bx G_law_same (hr.mono (by decide)) (d_cons (d_call bx G_group_put (hr.mono (by decide)) (d_cons (d_v 4) (d_cons (d_v 12) d_nil))) (d_cons (d_call bx G_law_reduced (hr.mono (by decide)) (d_cons (d_v 14) d_nil)) d_nil))))) (s_one (s_ret d_bl)) s_nil)
    (s_cons (s_set (i := 15) bx (d_lst (d_cons (d_tup (d_cons d_str (d_cons d_int d_nil))) (d_cons (d_tup (d_cons d_str (d_cons d_bl d_nil))) (d_cons (d_tup (d_cons d_str (d_cons d_int d_nil))) (d_cons (d_tup (d_cons d_str d_nil)) (d_cons d_str (d_cons (d_tup (d_cons d_str (d_cons d_int (d_cons d_int d_nil)))) (d_cons (d_lst (d_cons d_str (d_cons d_int d_nil))) (d_cons (d_tup (d_cons d_str (d_cons d_int d_nil))) (d_cons (d_tup (d_cons d_int (d_cons d_str d_nil))) (d_cons (d_tup (d_cons d_str (d_cons d_int d_nil))) d_nil))))))))))))
    (s_cons (s_set (i := 16) bx (d_call bx G_law_take (hr.mono (by decide)) (d_cons (d_v 1) (d_cons (d_op o_add (d_cb c_len m_len b_len (d_cons (d_v 4) d_nil)) d_int) d_nil))))
    (s_cons (s_set (i := 17) bx (d_op o_addT (d_op o_addT (d_sl s_t (d_v 4) d_noP (d_part (d_v 16))) (d_tup (d_cons (d_ix i_l (d_v 15) (d_call bx G_law_take (hr.mono (by decide)) (d_cons (d_v 1) (d_cons (d_cb c_len m_len b_len (d_cons (d_v 15) d_nil)) d_nil)))) d_nil))) (d_sl s_t (d_v 4) (d_part (d_v 16)) d_noP)))
    (s_one (s_ret (d_call bx G_law_same (hr.mono (by decide)) (d_cons (d_lc bx [("which", 21)] (.one 21) (it_r1 m_range (d_cons d_int d_nil)) (blkOk_by (own := [("which", 21)]) (N := N_law) (by kernel_rfl)) (by decide) (fun _ _ _ _ _ => (pg_name (i := 21) (bx.blk _ _ _ _ _).nd rfl (Or.inl rfl))) (fun _ _ _ _ _ => ts_nil) (fun _ _ _ _ _ => (d_call (bx.blk _ _ _ _ _) G_law_told (hr.mono (by decide)) (d_cons (d_v 21) (d_cons (d_v 17) (d_cons (d_v 5) d_nil)))))) (d_cons (d_op o_repL (d_lst (d_cons (d_lst (d_cons d_str (d_cons (d_v 16) d_nil))) d_nil)) d_int) d_nil))))))))))))))))))))))))))
end
end K70
namespace K70
open PySem PySem.Spec PyProof.Rows L2 UZ
theorem fnO_never {P : Program} {w : World} {K : PySem.W.Frag} {mg : Str → Option Value} {base : Heap} {k : Nat} {f : Addr} {fd : FuncData} {ps : List Str} {sp : DSp} (h : ∀ ws O Q E, ¬ sp ws O Q E) : FnOk P w K mg base (L2.CX P w) k f fd ps (spH K sp) :=
  ⟨fun vs H Q E ⟨ws, O, S, ρ, Q', E', _, _, q, _⟩ => (h _ _ _ _ q).elim, fun A outer s H args us vs Q E _ _ _ _ ⟨ws, O, S, ρ, Q', E', _, _, q, _⟩ => (h _ _ _ _ q).elim⟩
theorem cx_no {P : Program} {w : World} {H : Hp} {s s' : Shared} {e : Value} (h : L2.CX P w [] H s (fun _ _ _ => False) e s') : False := by
  obtain ⟨_, _, _, _, _, _, _, _, _, _, _, _, h⟩ := h
  exact h
theorem len_is_letter_name : ∀ ws O Q E, sp_is_letter_name ws O Q E → ws.length = 1 := by
  first | (rintro ws O Q E ⟨_, rfl, _⟩; rfl) | (rintro ws O Q E ⟨_, _, rfl, _⟩; rfl) | (rintro ws O Q E ⟨_, _, _, rfl, _⟩; rfl) | (rintro ws O Q E ⟨_, _, _, _, rfl, _⟩; rfl) | (rintro ws O Q E ⟨_, _, _, _, _, rfl, _⟩; rfl) | (rintro ws O Q E ⟨_, _, _, _, _, _, rfl, _⟩; rfl) | (rintro ws O Q E ⟨_, _, _, _, _, _, _, rfl, _⟩; rfl) | (rintro ws O Q E ⟨_, _, _, _, _, _, _, _, rfl, _⟩; rfl) | (rintro ws O Q E ⟨rfl, _⟩; rfl)
theorem len_is_sign : ∀ ws O Q E, sp_is_sign ws O Q E → ws.length = 1 := by
  first | (rintro ws O Q E ⟨_, rfl, _⟩; rfl) | (rintro ws O Q E ⟨_, _, rfl, _⟩; rfl) | (rintro ws O Q E ⟨_, _, _, rfl, _⟩; rfl) | (rintro ws O Q E ⟨_, _, _, _, rfl, _⟩; rfl) | (rintro ws O Q E ⟨_, _, _, _, _, rfl, _⟩; rfl) | (rintro ws O Q E ⟨_, _, _, _, _, _, rfl, _⟩; rfl) | (rintro ws O Q E ⟨_, _, _, _, _, _, _, rfl, _⟩; rfl) | (rintro ws O Q E ⟨_, _, _, _, _, _, _, _, rfl, _⟩; rfl) | (rintro ws O Q E ⟨rfl, _⟩; rfl)
theorem len_is_pair : ∀ ws O Q E, sp_is_pair ws O Q E → ws.length = 1 := by
  first | (rintro ws O Q E ⟨_, rfl, _⟩; rfl) | (rintro ws O Q E ⟨_, _, rfl, _⟩; rfl) | (rintro ws O Q E ⟨_, _, _, rfl, _⟩; rfl) | (rintro ws O Q E ⟨_, _, _, _, rfl, _⟩; rfl) | (rintro ws O Q E ⟨_, _, _, _, _, rfl, _⟩; rfl) | (rintro ws O Q E ⟨_, _, _, _, _, _, rfl, _⟩; rfl) | (rintro ws O Q E ⟨_, _, _, _, _, _, _, rfl, _⟩; rfl) | (rintro ws O Q E ⟨_, _, _, _, _, _, _, _, rfl, _⟩; rfl) | (rintro ws O Q E ⟨rfl, _⟩; rfl)
theorem len_check_group_word : ∀ ws O Q E, sp_check_group_word ws O Q E → ws.length = 1 := by
  first | (rintro ws O Q E ⟨_, rfl, _⟩; rfl) | (rintro ws O Q E ⟨_, _, rfl, _⟩; rfl) | (rintro ws O Q E ⟨_, _, _, rfl, _⟩; rfl) | (rintro ws O Q E ⟨_, _, _, _, rfl, _⟩; rfl) | (rintro ws O Q E ⟨_, _, _, _, _, rfl, _⟩; rfl) | (rintro ws O Q E ⟨_, _, _, _, _, _, rfl, _⟩; rfl) | (rintro ws O Q E ⟨_, _, _, _, _, _, _, rfl, _⟩; rfl) | (rintro ws O Q E ⟨_, _, _, _, _, _, _, _, rfl, _⟩; rfl) | (rintro ws O Q E ⟨rfl, _⟩; rfl)
theorem len_shortened : ∀ ws O Q E, sp_shortened ws O Q E → ws.length = 1 := by
  first | (rintro ws O Q E ⟨_, rfl, _⟩; rfl) | (rintro ws O Q E ⟨_, _, rfl, _⟩; rfl) | (rintro ws O Q E ⟨_, _, _, rfl, _⟩; rfl) | (rintro ws O Q E ⟨_, _, _, _, rfl, _⟩; rfl) | (rintro ws O Q E ⟨_, _, _, _, _, rfl, _⟩; rfl) | (rintro ws O Q E ⟨_, _, _, _, _, _, rfl, _⟩; rfl) | (rintro ws O Q E ⟨_, _, _, _, _, _, _, rfl, _⟩; rfl) | (rintro ws O Q E ⟨_, _, _, _, _, _, _, _, rfl, _⟩; rfl) | (rintro ws O Q E ⟨rfl, _⟩; rfl)
theorem len_reduced : ∀ ws O Q E, sp_reduced ws O Q E → ws.length = 1 := by
  first | (rintro ws O Q E ⟨_, rfl, _⟩; rfl) | (rintro ws O Q E ⟨_, _, rfl, _⟩; rfl) | (rintro ws O Q E ⟨_, _, _, rfl, _⟩; rfl) | (rintro ws O Q E ⟨_, _, _, _, rfl, _⟩; rfl) | (rintro ws O Q E ⟨_, _, _, _, _, rfl, _⟩; rfl) | (rintro ws O Q E ⟨_, _, _, _, _, _, rfl, _⟩; rfl) | (rintro ws O Q E ⟨_, _, _, _, _, _, _, rfl, _⟩; rfl) | (rintro ws O Q E ⟨_, _, _, _, _, _, _, _, rfl, _⟩; rfl) | (rintro ws O Q E ⟨rfl, _⟩; rfl)
theorem len_opposite : ∀ ws O Q E, sp_opposite ws O Q E → ws.length = 1 := by
  first | (rintro ws O Q E ⟨_, rfl, _⟩; rfl) | (rintro ws O Q E ⟨_, _, rfl, _⟩; rfl) | (rintro ws O Q E ⟨_, _, _, rfl, _⟩; rfl) | (rintro ws O Q E ⟨_, _, _, _, rfl, _⟩; rfl) | (rintro ws O Q E ⟨_, _, _, _, _, rfl, _⟩; rfl) | (rintro ws O Q E ⟨_, _, _, _, _, _, rfl, _⟩; rfl) | (rintro ws O Q E ⟨_, _, _, _, _, _, _, rfl, _⟩; rfl) | (rintro ws O Q E ⟨_, _, _, _, _, _, _, _, rfl, _⟩; rfl) | (rintro ws O Q E ⟨rfl, _⟩; rfl)
theorem len_group_product : ∀ ws O Q E, sp_group_product ws O Q E → ws.length = 1 := by
  first | (rintro ws O Q E ⟨_, rfl, _⟩; rfl) | (rintro ws O Q E ⟨_, _, rfl, _⟩; rfl) | (rintro ws O Q E ⟨_, _, _, rfl, _⟩; rfl) | (rintro ws O Q E ⟨_, _, _, _, rfl, _⟩; rfl) | (rintro ws O Q E ⟨_, _, _, _, _, rfl, _⟩; rfl) | (rintro ws O Q E ⟨_, _, _, _, _, _, rfl, _⟩; rfl) | (rintro ws O Q E ⟨_, _, _, _, _, _, _, rfl, _⟩; rfl) | (rintro ws O Q E ⟨_, _, _, _, _, _, _, _, rfl, _⟩; rfl) | (rintro ws O Q E ⟨rfl, _⟩; rfl)
theorem len_group_inverse : ∀ ws O Q E, sp_group_inverse ws O Q E → ws.length = 1 := by
  first | (rintro ws O Q E ⟨_, rfl, _⟩; rfl) | (rintro ws O Q E ⟨_, _, rfl, _⟩; rfl) | (rintro ws O Q E ⟨_, _, _, rfl, _⟩; rfl) | (rintro ws O Q E ⟨_, _, _, _, rfl, _⟩; rfl) | (rintro ws O Q E ⟨_, _, _, _, _, rfl, _⟩; rfl) | (rintro ws O Q E ⟨_, _, _, _, _, _, rfl, _⟩; rfl) | (rintro ws O Q E ⟨_, _, _, _, _, _, _, rfl, _⟩; rfl) | (rintro ws O Q E ⟨_, _, _, _, _, _, _, _, rfl, _⟩; rfl) | (rintro ws O Q E ⟨rfl, _⟩; rfl)
theorem len_group_power : ∀ ws O Q E, sp_group_power ws O Q E → ws.length = 2 := by
  first | (rintro ws O Q E ⟨_, rfl, _⟩; rfl) | (rintro ws O Q E ⟨_, _, rfl, _⟩; rfl) | (rintro ws O Q E ⟨_, _, _, rfl, _⟩; rfl) | (rintro ws O Q E ⟨_, _, _, _, rfl, _⟩; rfl) | (rintro ws O Q E ⟨_, _, _, _, _, rfl, _⟩; rfl) | (rintro ws O Q E ⟨_, _, _, _, _, _, rfl, _⟩; rfl) | (rintro ws O Q E ⟨_, _, _, _, _, _, _, rfl, _⟩; rfl) | (rintro ws O Q E ⟨_, _, _, _, _, _, _, _, rfl, _⟩; rfl) | (rintro ws O Q E ⟨rfl, _⟩; rfl)
theorem len_commutator_word : ∀ ws O Q E, sp_commutator_word ws O Q E → ws.length = 2 := by
  first | (rintro ws O Q E ⟨_, rfl, _⟩; rfl) | (rintro ws O Q E ⟨_, _, rfl, _⟩; rfl) | (rintro ws O Q E ⟨_, _, _, rfl, _⟩; rfl) | (rintro ws O Q E ⟨_, _, _, _, rfl, _⟩; rfl) | (rintro ws O Q E ⟨_, _, _, _, _, rfl, _⟩; rfl) | (rintro ws O Q E ⟨_, _, _, _, _, _, rfl, _⟩; rfl) | (rintro ws O Q E ⟨_, _, _, _, _, _, _, rfl, _⟩; rfl) | (rintro ws O Q E ⟨_, _, _, _, _, _, _, _, rfl, _⟩; rfl) | (rintro ws O Q E ⟨rfl, _⟩; rfl)
theorem len_group_put : ∀ ws O Q E, sp_group_put ws O Q E → ws.length = 2 := by
  first | (rintro ws O Q E ⟨_, rfl, _⟩; rfl) | (rintro ws O Q E ⟨_, _, rfl, _⟩; rfl) | (rintro ws O Q E ⟨_, _, _, rfl, _⟩; rfl) | (rintro ws O Q E ⟨_, _, _, _, rfl, _⟩; rfl) | (rintro ws O Q E ⟨_, _, _, _, _, rfl, _⟩; rfl) | (rintro ws O Q E ⟨_, _, _, _, _, _, rfl, _⟩; rfl) | (rintro ws O Q E ⟨_, _, _, _, _, _, _, rfl, _⟩; rfl) | (rintro ws O Q E ⟨_, _, _, _, _, _, _, _, rfl, _⟩; rfl) | (rintro ws O Q E ⟨rfl, _⟩; rfl)
theorem len_law_cell : ∀ ws O Q E, sp_law_cell ws O Q E → ws.length = 2 := by
  first | (rintro ws O Q E ⟨_, rfl, _⟩; rfl) | (rintro ws O Q E ⟨_, _, rfl, _⟩; rfl) | (rintro ws O Q E ⟨_, _, _, rfl, _⟩; rfl) | (rintro ws O Q E ⟨_, _, _, _, rfl, _⟩; rfl) | (rintro ws O Q E ⟨_, _, _, _, _, rfl, _⟩; rfl) | (rintro ws O Q E ⟨_, _, _, _, _, _, rfl, _⟩; rfl) | (rintro ws O Q E ⟨_, _, _, _, _, _, _, rfl, _⟩; rfl) | (rintro ws O Q E ⟨_, _, _, _, _, _, _, _, rfl, _⟩; rfl) | (rintro ws O Q E ⟨rfl, _⟩; rfl)
theorem len_law_big : ∀ ws O Q E, sp_law_big ws O Q E → ws.length = 3 := by
  first | (rintro ws O Q E ⟨_, rfl, _⟩; rfl) | (rintro ws O Q E ⟨_, _, rfl, _⟩; rfl) | (rintro ws O Q E ⟨_, _, _, rfl, _⟩; rfl) | (rintro ws O Q E ⟨_, _, _, _, rfl, _⟩; rfl) | (rintro ws O Q E ⟨_, _, _, _, _, rfl, _⟩; rfl) | (rintro ws O Q E ⟨_, _, _, _, _, _, rfl, _⟩; rfl) | (rintro ws O Q E ⟨_, _, _, _, _, _, _, rfl, _⟩; rfl) | (rintro ws O Q E ⟨_, _, _, _, _, _, _, _, rfl, _⟩; rfl) | (rintro ws O Q E ⟨rfl, _⟩; rfl)
theorem len_law_take : ∀ ws O Q E, sp_law_take ws O Q E → ws.length = 2 := by
  first | (rintro ws O Q E ⟨_, rfl, _⟩; rfl) | (rintro ws O Q E ⟨_, _, rfl, _⟩; rfl) | (rintro ws O Q E ⟨_, _, _, rfl, _⟩; rfl) | (rintro ws O Q E ⟨_, _, _, _, rfl, _⟩; rfl) | (rintro ws O Q E ⟨_, _, _, _, _, rfl, _⟩; rfl) | (rintro ws O Q E ⟨_, _, _, _, _, _, rfl, _⟩; rfl) | (rintro ws O Q E ⟨_, _, _, _, _, _, _, rfl, _⟩; rfl) | (rintro ws O Q E ⟨_, _, _, _, _, _, _, _, rfl, _⟩; rfl) | (rintro ws O Q E ⟨rfl, _⟩; rfl)
theorem len_law_same (n : Nat) : ∀ ws O Q E, sp_law_same n ws O Q E → ws.length = 2 := by
  first | (rintro ws O Q E ⟨_, rfl, _⟩; rfl) | (rintro ws O Q E ⟨_, _, rfl, _⟩; rfl) | (rintro ws O Q E ⟨_, _, _, rfl, _⟩; rfl) | (rintro ws O Q E ⟨_, _, _, _, rfl, _⟩; rfl) | (rintro ws O Q E ⟨_, _, _, _, _, rfl, _⟩; rfl) | (rintro ws O Q E ⟨_, _, _, _, _, _, rfl, _⟩; rfl) | (rintro ws O Q E ⟨_, _, _, _, _, _, _, rfl, _⟩; rfl) | (rintro ws O Q E ⟨_, _, _, _, _, _, _, _, rfl, _⟩; rfl) | (rintro ws O Q E ⟨rfl, _⟩; rfl)
theorem never_law_same : ∀ ws O Q E, ¬ sp_law_same 0 ws O Q E := fun ws O Q E ⟨_, _, h, _⟩ => h
theorem len_law_group_word : ∀ ws O Q E, sp_law_group_word ws O Q E → ws.length = 3 := by
  first | (rintro ws O Q E ⟨_, rfl, _⟩; rfl) | (rintro ws O Q E ⟨_, _, rfl, _⟩; rfl) | (rintro ws O Q E ⟨_, _, _, rfl, _⟩; rfl) | (rintro ws O Q E ⟨_, _, _, _, rfl, _⟩; rfl) | (rintro ws O Q E ⟨_, _, _, _, _, rfl, _⟩; rfl) | (rintro ws O Q E ⟨_, _, _, _, _, _, rfl, _⟩; rfl) | (rintro ws O Q E ⟨_, _, _, _, _, _, _, rfl, _⟩; rfl) | (rintro ws O Q E ⟨_, _, _, _, _, _, _, _, rfl, _⟩; rfl) | (rintro ws O Q E ⟨rfl, _⟩; rfl)
theorem len_law_reduced : ∀ ws O Q E, sp_law_reduced ws O Q E → ws.length = 1 := by
  first | (rintro ws O Q E ⟨_, rfl, _⟩; rfl) | (rintro ws O Q E ⟨_, _, rfl, _⟩; rfl) | (rintro ws O Q E ⟨_, _, _, rfl, _⟩; rfl) | (rintro ws O Q E ⟨_, _, _, _, rfl, _⟩; rfl) | (rintro ws O Q E ⟨_, _, _, _, _, rfl, _⟩; rfl) | (rintro ws O Q E ⟨_, _, _, _, _, _, rfl, _⟩; rfl) | (rintro ws O Q E ⟨_, _, _, _, _, _, _, rfl, _⟩; rfl) | (rintro ws O Q E ⟨_, _, _, _, _, _, _, _, rfl, _⟩; rfl) | (rintro ws O Q E ⟨rfl, _⟩; rfl)
theorem len_law_opposite : ∀ ws O Q E, sp_law_opposite ws O Q E → ws.length = 1 := by
  first | (rintro ws O Q E ⟨_, rfl, _⟩; rfl) | (rintro ws O Q E ⟨_, _, rfl, _⟩; rfl) | (rintro ws O Q E ⟨_, _, _, rfl, _⟩; rfl) | (rintro ws O Q E ⟨_, _, _, _, rfl, _⟩; rfl) | (rintro ws O Q E ⟨_, _, _, _, _, rfl, _⟩; rfl) | (rintro ws O Q E ⟨_, _, _, _, _, _, rfl, _⟩; rfl) | (rintro ws O Q E ⟨_, _, _, _, _, _, _, rfl, _⟩; rfl) | (rintro ws O Q E ⟨_, _, _, _, _, _, _, _, rfl, _⟩; rfl) | (rintro ws O Q E ⟨rfl, _⟩; rfl)
theorem len_law_told : ∀ ws O Q E, sp_law_told ws O Q E → ws.length = 3 := by
  first | (rintro ws O Q E ⟨_, rfl, _⟩; rfl) | (rintro ws O Q E ⟨_, _, rfl, _⟩; rfl) | (rintro ws O Q E ⟨_, _, _, rfl, _⟩; rfl) | (rintro ws O Q E ⟨_, _, _, _, rfl, _⟩; rfl) | (rintro ws O Q E ⟨_, _, _, _, _, rfl, _⟩; rfl) | (rintro ws O Q E ⟨_, _, _, _, _, _, rfl, _⟩; rfl) | (rintro ws O Q E ⟨_, _, _, _, _, _, _, rfl, _⟩; rfl) | (rintro ws O Q E ⟨_, _, _, _, _, _, _, _, rfl, _⟩; rfl) | (rintro ws O Q E ⟨rfl, _⟩; rfl)
theorem len_law : ∀ ws O Q E, sp_law ws O Q E → ws.length = 1 := by
  first | (rintro ws O Q E ⟨_, rfl, _⟩; rfl) | (rintro ws O Q E ⟨_, _, rfl, _⟩; rfl) | (rintro ws O Q E ⟨_, _, _, rfl, _⟩; rfl) | (rintro ws O Q E ⟨_, _, _, _, rfl, _⟩; rfl) | (rintro ws O Q E ⟨_, _, _, _, _, rfl, _⟩; rfl) | (rintro ws O Q E ⟨_, _, _, _, _, _, rfl, _⟩; rfl) | (rintro ws O Q E ⟨_, _, _, _, _, _, _, rfl, _⟩; rfl) | (rintro ws O Q E ⟨_, _, _, _, _, _, _, _, rfl, _⟩; rfl) | (rintro ws O Q E ⟨rfl, _⟩; rfl)
theorem all_mk {w : World} {K : PySem.W.Frag} {h : Heap} {mg : Str → Option Value} {fa : Addr} (X : K.In h) (G : h.Ns mainGlobals mg) (hfa : mg "law" = some (.ref fa))
    {f0 : Addr} {od0 an0 : Option Addr} {sl0 : Array (Option Value)} {oc0 kV0 dc0 pm0 cd0 ct0 : Value}
    {f1 : Addr} {od1 an1 : Option Addr} {sl1 : Array (Option Value)} {oc1 kV1 dc1 pm1 cd1 ct1 : Value}
    {f2 : Addr} {od2 an2 : Option Addr} {sl2 : Array (Option Value)} {oc2 kV2 dc2 pm2 cd2 ct2 : Value}
    {f3 : Addr} {od3 an3 : Option Addr} {sl3 : Array (Option Value)} {oc3 kV3 dc3 pm3 cd3 ct3 : Value}
    {f4 : Addr} {od4 an4 : Option Addr} {sl4 : Array (Option Value)} {oc4 kV4 dc4 pm4 cd4 ct4 : Value}
    {f5 : Addr} {od5 an5 : Option Addr} {sl5 : Array (Option Value)} {oc5 kV5 dc5 pm5 cd5 ct5 : Value}
    {f6 : Addr} {od6 an6 : Option Addr} {sl6 : Array (Option Value)} {oc6 kV6 dc6 pm6 cd6 ct6 : Value}
    {f7 : Addr} {od7 an7 : Option Addr} {sl7 : Array (Option Value)} {oc7 kV7 dc7 pm7 cd7 ct7 : Value}
    {f8 : Addr} {od8 an8 : Option Addr} {sl8 : Array (Option Value)} {oc8 kV8 dc8 pm8 cd8 ct8 : Value}
    {f9 : Addr} {od9 an9 : Option Addr} {sl9 : Array (Option Value)} {oc9 kV9 dc9 pm9 cd9 ct9 : Value}
    {f10 : Addr} {od10 an10 : Option Addr} {sl10 : Array (Option Value)} {oc10 kV10 dc10 pm10 cd10 ct10 : Value}
    {f11 : Addr} {od11 an11 : Option Addr} {sl11 : Array (Option Value)} {oc11 kV11 dc11 pm11 cd11 ct11 : Value}
    {f12 : Addr} {od12 an12 : Option Addr} {sl12 : Array (Option Value)} {oc12 kV12 dc12 pm12 cd12 ct12 : Value}
    {f13 : Addr} {od13 an13 : Option Addr} {sl13 : Array (Option Value)} {oc13 kV13 dc13 pm13 cd13 ct13 : Value}
    {f14 : Addr} {od14 an14 : Option Addr} {sl14 : Array (Option Value)} {oc14 kV14 dc14 pm14 cd14 ct14 : Value}
    {f15 : Addr} {od15 an15 : Option Addr} {sl15 : Array (Option Value)} {oc15 kV15 dc15 pm15 cd15 ct15 : Value}
    {f16 : Addr} {od16 an16 : Option Addr} {sl16 : Array (Option Value)} {oc16 kV16 dc16 pm16 cd16 ct16 : Value}
    {f17 : Addr} {od17 an17 : Option Addr} {sl17 : Array (Option Value)} {oc17 kV17 dc17 pm17 cd17 ct17 : Value}
    {f18 : Addr} {od18 an18 : Option Addr} {sl18 : Array (Option Value)} {oc18 kV18 dc18 pm18 cd18 ct18 : Value}
    {f19 : Addr} {od19 an19 : Option Addr} {sl19 : Array (Option Value)} {oc19 kV19 dc19 pm19 cd19 ct19 : Value}
    {f20 : Addr} {od20 an20 : Option Addr} {sl20 : Array (Option Value)} {oc20 kV20 dc20 pm20 cd20 ct20 : Value}
    (a0 : PySem.W.nsIn K mainGlobals "is_letter_name" = some (some (.ref f0))) (l0 : K.lookup f0 = some ⟨oc0, od0, .func (PySem.W.fnOf "is_letter_name" "is_letter_name" (defArgs s_is_letter_name) (defBody s_is_letter_name) (defScope s_is_letter_name) .none kV0 dc0 pm0 an0 cd0 ct0), sl0⟩) (c0 : PySem.W.codeIn K cd0 "is_letter_name" = true) (k0 : PySem.W.keepIn K (.ref f0) = true)
    (a1 : PySem.W.nsIn K mainGlobals "is_sign" = some (some (.ref f1))) (l1 : K.lookup f1 = some ⟨oc1, od1, .func (PySem.W.fnOf "is_sign" "is_sign" (defArgs s_is_sign) (defBody s_is_sign) (defScope s_is_sign) .none kV1 dc1 pm1 an1 cd1 ct1), sl1⟩) (c1 : PySem.W.codeIn K cd1 "is_sign" = true) (k1 : PySem.W.keepIn K (.ref f1) = true)
    (a2 : PySem.W.nsIn K mainGlobals "is_pair" = some (some (.ref f2))) (l2 : K.lookup f2 = some ⟨oc2, od2, .func (PySem.W.fnOf "is_pair" "is_pair" (defArgs s_is_pair) (defBody s_is_pair) (defScope s_is_pair) .none kV2 dc2 pm2 an2 cd2 ct2), sl2⟩) (c2 : PySem.W.codeIn K cd2 "is_pair" = true) (k2 : PySem.W.keepIn K (.ref f2) = true)
    (a3 : PySem.W.nsIn K mainGlobals "check_group_word" = some (some (.ref f3))) (l3 : K.lookup f3 = some ⟨oc3, od3, .func (PySem.W.fnOf "check_group_word" "check_group_word" (defArgs s_check_group_word) (defBody s_check_group_word) (defScope s_check_group_word) .none kV3 dc3 pm3 an3 cd3 ct3), sl3⟩) (c3 : PySem.W.codeIn K cd3 "check_group_word" = true) (k3 : PySem.W.keepIn K (.ref f3) = true)
    (a4 : PySem.W.nsIn K mainGlobals "shortened" = some (some (.ref f4))) (l4 : K.lookup f4 = some ⟨oc4, od4, .func (PySem.W.fnOf "shortened" "shortened" (defArgs s_shortened) (defBody s_shortened) (defScope s_shortened) .none kV4 dc4 pm4 an4 cd4 ct4), sl4⟩) (c4 : PySem.W.codeIn K cd4 "shortened" = true) (k4 : PySem.W.keepIn K (.ref f4) = true)
    (a5 : PySem.W.nsIn K mainGlobals "reduced" = some (some (.ref f5))) (l5 : K.lookup f5 = some ⟨oc5, od5, .func (PySem.W.fnOf "reduced" "reduced" (defArgs s_reduced) (defBody s_reduced) (defScope s_reduced) .none kV5 dc5 pm5 an5 cd5 ct5), sl5⟩) (c5 : PySem.W.codeIn K cd5 "reduced" = true) (k5 : PySem.W.keepIn K (.ref f5) = true)
    (a6 : PySem.W.nsIn K mainGlobals "opposite" = some (some (.ref f6))) (l6 : K.lookup f6 = some ⟨oc6, od6, .func (PySem.W.fnOf "opposite" "opposite" (defArgs s_opposite) (defBody s_opposite) (defScope s_opposite) .none kV6 dc6 pm6 an6 cd6 ct6), sl6⟩) (c6 : PySem.W.codeIn K cd6 "opposite" = true) (k6 : PySem.W.keepIn K (.ref f6) = true)
    (a7 : PySem.W.nsIn K mainGlobals "group_product" = some (some (.ref f7))) (l7 : K.lookup f7 = some ⟨oc7, od7, .func (PySem.W.fnOf "group_product" "group_product" (defArgs s_group_product) (defBody s_group_product) (defScope s_group_product) .none kV7 dc7 pm7 an7 cd7 ct7), sl7⟩) (c7 : PySem.W.codeIn K cd7 "group_product" = true) (k7 : PySem.W.keepIn K (.ref f7) = true)
    (a8 : PySem.W.nsIn K mainGlobals "group_inverse" = some (some (.ref f8))) (l8 : K.lookup f8 = some ⟨oc8, od8, .func (PySem.W.fnOf "group_inverse" "group_inverse" (defArgs s_group_inverse) (defBody s_group_inverse) (defScope s_group_inverse) .none kV8 dc8 pm8 an8 cd8 ct8), sl8⟩) (c8 : PySem.W.codeIn K cd8 "group_inverse" = true) (k8 : PySem.W.keepIn K (.ref f8) = true)
    (a9 : PySem.W.nsIn K mainGlobals "group_power" = some (some (.ref f9))) (l9 : K.lookup f9 = some ⟨oc9, od9, .func (PySem.W.fnOf "group_power" "group_power" (defArgs s_group_power) (defBody s_group_power) (defScope s_group_power) .none kV9 dc9 pm9 an9 cd9 ct9), sl9⟩) (c9 : PySem.W.codeIn K cd9 "group_power" = true) (k9 : PySem.W.keepIn K (.ref f9) = true)
    (a10 : PySem.W.nsIn K mainGlobals "commutator_word" = some (some (.ref f10))) (l10 : K.lookup f10 = some ⟨oc10, od10, .func (PySem.W.fnOf "commutator_word" "commutator_word" (defArgs s_commutator_word) (defBody s_commutator_word) (defScope s_commutator_word) .none kV10 dc10 pm10 an10 cd10 ct10), sl10⟩) (c10 : PySem.W.codeIn K cd10 "commutator_word" = true) (k10 : PySem.W.keepIn K (.ref f10) = true)
    (a11 : PySem.W.nsIn K mainGlobals "group_put" = some (some (.ref f11))) (l11 : K.lookup f11 = some ⟨oc11, od11, .func (PySem.W.fnOf "group_put" "group_put" (defArgs s_group_put) (defBody s_group_put) (defScope s_group_put) .none kV11 dc11 pm11 an11 cd11 ct11), sl11⟩) (c11 : PySem.W.codeIn K cd11 "group_put" = true) (k11 : PySem.W.keepIn K (.ref f11) = true)
    (a12 : PySem.W.nsIn K mainGlobals "_law_cell" = some (some (.ref f12))) (l12 : K.lookup f12 = some ⟨oc12, od12, .func (PySem.W.fnOf "_law_cell" "_law_cell" (defArgs s_law_cell) (defBody s_law_cell) (defScope s_law_cell) .none kV12 dc12 pm12 an12 cd12 ct12), sl12⟩) (c12 : PySem.W.codeIn K cd12 "_law_cell" = true) (k12 : PySem.W.keepIn K (.ref f12) = true)
    (a13 : PySem.W.nsIn K mainGlobals "_law_big" = some (some (.ref f13))) (l13 : K.lookup f13 = some ⟨oc13, od13, .func (PySem.W.fnOf "_law_big" "_law_big" (defArgs s_law_big) (defBody s_law_big) (defScope s_law_big) .none kV13 dc13 pm13 an13 cd13 ct13), sl13⟩) (c13 : PySem.W.codeIn K cd13 "_law_big" = true) (k13 : PySem.W.keepIn K (.ref f13) = true)
    (a14 : PySem.W.nsIn K mainGlobals "_law_take" = some (some (.ref f14))) (l14 : K.lookup f14 = some ⟨oc14, od14, .func (PySem.W.fnOf "_law_take" "_law_take" (defArgs s_law_take) (defBody s_law_take) (defScope s_law_take) .none kV14 dc14 pm14 an14 cd14 ct14), sl14⟩) (c14 : PySem.W.codeIn K cd14 "_law_take" = true) (k14 : PySem.W.keepIn K (.ref f14) = true)
    (a15 : PySem.W.nsIn K mainGlobals "_law_same" = some (some (.ref f15))) (l15 : K.lookup f15 = some ⟨oc15, od15, .func (PySem.W.fnOf "_law_same" "_law_same" (defArgs s_law_same) (defBody s_law_same) (defScope s_law_same) .none kV15 dc15 pm15 an15 cd15 ct15), sl15⟩) (c15 : PySem.W.codeIn K cd15 "_law_same" = true) (k15 : PySem.W.keepIn K (.ref f15) = true)
    (a16 : PySem.W.nsIn K mainGlobals "_law_group_word" = some (some (.ref f16))) (l16 : K.lookup f16 = some ⟨oc16, od16, .func (PySem.W.fnOf "_law_group_word" "_law_group_word" (defArgs s_law_group_word) (defBody s_law_group_word) (defScope s_law_group_word) .none kV16 dc16 pm16 an16 cd16 ct16), sl16⟩) (c16 : PySem.W.codeIn K cd16 "_law_group_word" = true) (k16 : PySem.W.keepIn K (.ref f16) = true)
    (a17 : PySem.W.nsIn K mainGlobals "_law_reduced" = some (some (.ref f17))) (l17 : K.lookup f17 = some ⟨oc17, od17, .func (PySem.W.fnOf "_law_reduced" "_law_reduced" (defArgs s_law_reduced) (defBody s_law_reduced) (defScope s_law_reduced) .none kV17 dc17 pm17 an17 cd17 ct17), sl17⟩) (c17 : PySem.W.codeIn K cd17 "_law_reduced" = true) (k17 : PySem.W.keepIn K (.ref f17) = true)
    (a18 : PySem.W.nsIn K mainGlobals "_law_opposite" = some (some (.ref f18))) (l18 : K.lookup f18 = some ⟨oc18, od18, .func (PySem.W.fnOf "_law_opposite" "_law_opposite" (defArgs s_law_opposite) (defBody s_law_opposite) (defScope s_law_opposite) .none kV18 dc18 pm18 an18 cd18 ct18), sl18⟩) (c18 : PySem.W.codeIn K cd18 "_law_opposite" = true) (k18 : PySem.W.keepIn K (.ref f18) = true)
    (a19 : PySem.W.nsIn K mainGlobals "_law_told" = some (some (.ref f19))) (l19 : K.lookup f19 = some ⟨oc19, od19, .func (PySem.W.fnOf "_law_told" "_law_told" (defArgs s_law_told) (defBody s_law_told) (defScope s_law_told) .none kV19 dc19 pm19 an19 cd19 ct19), sl19⟩) (c19 : PySem.W.codeIn K cd19 "_law_told" = true) (k19 : PySem.W.keepIn K (.ref f19) = true)
    (a20 : PySem.W.nsIn K mainGlobals "law" = some (some (.ref f20))) (l20 : K.lookup f20 = some ⟨oc20, od20, .func (PySem.W.fnOf "law" "law" (defArgs s_law) (defBody s_law) (defScope s_law) .none kV20 dc20 pm20 an20 cd20 ct20), sl20⟩) (c20 : PySem.W.codeIn K cd20 "law" = true) (k20 : PySem.W.keepIn K (.ref f20) = true)
    {C_InvalidWord : Addr} (e_InvalidWord : PySem.W.nsIn K mainGlobals "InvalidWord" = some (some (.ref C_InvalidWord)))
    {fI_InvalidWord cc_InvalidWord : Addr} {odI_InvalidWord anI_InvalidWord : Option Addr} {slI_InvalidWord : Array (Option Value)} {ocI_InvalidWord kVI_InvalidWord dcI_InvalidWord pmI_InvalidWord cdI_InvalidWord ctI_InvalidWord : Value} (i_InvalidWord : PySem.W.findIn K (.ref C_InvalidWord) "__init__" = some (some (.ref fI_InvalidWord))) (li_InvalidWord : K.lookup fI_InvalidWord = some ⟨ocI_InvalidWord, odI_InvalidWord, .func (PySem.W.ksFn "__init__" "InvalidWord.__init__" (defArgs (clsDef (topS 2) 0)) (defBody (clsDef (topS 2) 0)) (defScope (clsDef (topS 2) 0)) .none kVI_InvalidWord dcI_InvalidWord pmI_InvalidWord anI_InvalidWord cdI_InvalidWord ctI_InvalidWord cc_InvalidWord), slI_InvalidWord⟩)
    (ci_InvalidWord : PySem.W.codeIn K cdI_InvalidWord "InvalidWord.__init__" = true) (x_InvalidWord : exB K PySem.Challenge.rw_unswapped_k70_words_of_free_groups.prog C_InvalidWord fI_InvalidWord cc_InvalidWord cdI_InvalidWord ["place"] = true)
    (m_InvalidWord_InvalidWord : PySem.W.exmOne K (.ref C_InvalidWord) (.ref C_InvalidWord) = some true)
    (z_str : PySem.W.nsIn K mainGlobals "str" = some none)
    (z_isinstance : PySem.W.nsIn K mainGlobals "isinstance" = some none)
    (z_len : PySem.W.nsIn K mainGlobals "len" = some none)
    (z_int : PySem.W.nsIn K mainGlobals "int" = some none)
    (z_bool : PySem.W.nsIn K mainGlobals "bool" = some none)
    (z_tuple : PySem.W.nsIn K mainGlobals "tuple" = some none)
    (z_enumerate : PySem.W.nsIn K mainGlobals "enumerate" = some none)
    (z_reversed : PySem.W.nsIn K mainGlobals "reversed" = some none)
    (z_abs : PySem.W.nsIn K mainGlobals "abs" = some none)
    (z_sorted : PySem.W.nsIn K mainGlobals "sorted" = some none)
    (z_range : PySem.W.nsIn K mainGlobals "range" = some none)
    (z_list : PySem.W.nsIn K mainGlobals "list" = some none)
    (z_dict : PySem.W.nsIn K mainGlobals "dict" = some none)
    (z_max : PySem.W.nsIn K mainGlobals "max" = some none)
    {t_SIGNS : Tok} (y_SIGNS : PySem.W.nsIn K mainGlobals "SIGNS" = some (some (.str "abcdefghijklmnopqrstuvwxyz" t_SIGNS)))
    {t_FIGURES : Tok} (y_FIGURES : PySem.W.nsIn K mainGlobals "FIGURES" = some (some (.str "0123456789" t_FIGURES)))
    : ∃ fd : FuncData, (∀ (s : Shared) (v : Value), BindsTo s fd ⟨[v], []⟩ [("script", v)]) ∧ ∀ base : Heap, K.In base → base.Ns mainGlobals mg → FnOk PySem.Challenge.rw_unswapped_k70_words_of_free_groups.prog w K mg base (L2.CX PySem.Challenge.rw_unswapped_k70_words_of_free_groups.prog w) 9 fa fd ["script"] (spH K sp_law) := by
  have e := hfa.symm.trans (PySem.W.mg_of X G a20)
  cases e
  have m_str := PySem.W.mg_none_of X G z_str
  have m_isinstance := PySem.W.mg_none_of X G z_isinstance
  have m_len := PySem.W.mg_none_of X G z_len
  have m_int := PySem.W.mg_none_of X G z_int
  have m_bool := PySem.W.mg_none_of X G z_bool
  have m_tuple := PySem.W.mg_none_of X G z_tuple
  have m_enumerate := PySem.W.mg_none_of X G z_enumerate
  have m_reversed := PySem.W.mg_none_of X G z_reversed
  have m_abs := PySem.W.mg_none_of X G z_abs
  have m_sorted := PySem.W.mg_none_of X G z_sorted
  have m_range := PySem.W.mg_none_of X G z_range
  have m_list := PySem.W.mg_none_of X G z_list
  have m_dict := PySem.W.mg_none_of X G z_dict
  have m_max := PySem.W.mg_none_of X G z_max
  have m_SIGNS := PySem.W.mg_of X G y_SIGNS
  have m_FIGURES := PySem.W.mg_of X G y_FIGURES
  have F0 := fun_mk (st := s_is_letter_name) l0 c0 k0
  have F1 := fun_mk (st := s_is_sign) l1 c1 k1
  have F2 := fun_mk (st := s_is_pair) l2 c2 k2
  have F3 := fun_mk (st := s_check_group_word) l3 c3 k3
  have F4 := fun_mk (st := s_shortened) l4 c4 k4
  have F5 := fun_mk (st := s_reduced) l5 c5 k5
  have F6 := fun_mk (st := s_opposite) l6 c6 k6
  have F7 := fun_mk (st := s_group_product) l7 c7 k7
  have F8 := fun_mk (st := s_group_inverse) l8 c8 k8
  have F9 := fun_mk (st := s_group_power) l9 c9 k9
  have F10 := fun_mk (st := s_commutator_word) l10 c10 k10
  have F11 := fun_mk (st := s_group_put) l11 c11 k11
  have F12 := fun_mk (st := s_law_cell) l12 c12 k12
  have F13 := fun_mk (st := s_law_big) l13 c13 k13
  have F14 := fun_mk (st := s_law_take) l14 c14 k14
  have F15 := fun_mk (st := s_law_same) l15 c15 k15
  have F16 := fun_mk (st := s_law_group_word) l16 c16 k16
  have F17 := fun_mk (st := s_law_reduced) l17 c17 k17
  have F18 := fun_mk (st := s_law_opposite) l18 c18 k18
  have F19 := fun_mk (st := s_law_told) l19 c19 k19
  have F20 := fun_mk (st := s_law) l20 c20 k20
  refine ⟨PySem.W.fnOf "law" "law" (defArgs s_law) (defBody s_law) (defScope s_law) .none kV20 dc20 pm20 an20 cd20 ct20, fun s v => .of_eq rfl, fun base _ _ => ?_⟩
  have mx_InvalidWord := PySem.W.mg_of X G e_InvalidWord
  have O_InvalidWord := exB_ok x_InvalidWord
  have I_InvalidWord : FnOk PySem.Challenge.rw_unswapped_k70_words_of_free_groups.prog w K mg base (L2.CX PySem.Challenge.rw_unswapped_k70_words_of_free_groups.prog w) 1 fI_InvalidWord _ ["self", "place"] (spX C_InvalidWord ["place"]) := init_1 O_InvalidWord.sup li_InvalidWord ci_InvalidWord ⟨rfl, rfl, rfl, by decide +kernel, rfl, by decide +kernel, by decide +kernel, by decide +kernel, by rfl, by rfl⟩ rfl rfl (O_InvalidWord.no "place" (by simp)) (fun A outer s H E => pe_joined (.cons pe_str (.cons (pe_fmt (pe_var (i := 1) rfl (.inl rfl))) .nil))) (msg_f1 (by decide)) (fun L => rfl) (fun L => rfl) (fun L => rfl) (fun L => rfl) (fun _ => rfl) (by decide) (by decide) (by decide) (by decide) 0
  have X_InvalidWord : ExD PySem.Challenge.rw_unswapped_k70_words_of_free_groups.prog w K mg base "InvalidWord" 1 ["place"] := ⟨C_InvalidWord, fI_InvalidWord, _, ["self", "place"], O_InvalidWord.sup.T, O_InvalidWord.ini, O_InvalidWord.ty, I_InvalidWord, .all (fun us hl => match us, hl with | [_, _], _ => rfl), mx_InvalidWord, e_InvalidWord, O_InvalidWord.xf, O_InvalidWord.no⟩
  have so_InvalidWord : SubOk K (.ref C_InvalidWord) [("InvalidWord", true)] := ⟨⟨C_InvalidWord, e_InvalidWord, m_InvalidWord_InvalidWord⟩, trivial⟩
  have B0 := F0.binds (ps := ["name"]) fun _ _ _ _ _ _ us hl => match us, hl with | [_], _ => rfl
  have G_is_letter_name : FnD PySem.Challenge.rw_unswapped_k70_words_of_free_groups.prog w K mg base "is_letter_name" 1 ["name"] sp_is_letter_name := fn_D t_is_letter_name F0 (PySem.W.mg_of X G a0) B0 sc_is_letter_name len_is_letter_name (fun cdv A outer s H E hr bx => l_is_letter_name m_str m_isinstance m_len m_SIGNS m_FIGURES     cdv A outer s H E hr bx) r_is_letter_name
  have B1 := F1.binds (ps := ["value"]) fun _ _ _ _ _ _ us hl => match us, hl with | [_], _ => rfl
  have G_is_sign : FnD PySem.Challenge.rw_unswapped_k70_words_of_free_groups.prog w K mg base "is_sign" 1 ["value"] sp_is_sign := fn_D t_is_sign F1 (PySem.W.mg_of X G a1) B1 sc_is_sign len_is_sign (fun cdv A outer s H E hr bx => l_is_sign m_int m_isinstance m_bool      cdv A outer s H E hr bx) r_is_sign
  have B2 := F2.binds (ps := ["value"]) fun _ _ _ _ _ _ us hl => match us, hl with | [_], _ => rfl
  have G_is_pair : FnD PySem.Challenge.rw_unswapped_k70_words_of_free_groups.prog w K mg base "is_pair" 2 ["value"] sp_is_pair := fn_D t_is_pair F2 (PySem.W.mg_of X G a2) B2 sc_is_pair len_is_pair (fun cdv A outer s H E hr bx => l_is_pair m_tuple m_isinstance m_len     G_is_letter_name G_is_sign cdv A outer s H E hr bx) r_is_pair
  have B3 := F3.binds (ps := ["word"]) fun _ _ _ _ _ _ us hl => match us, hl with | [_], _ => rfl
  have G_check_group_word : FnD PySem.Challenge.rw_unswapped_k70_words_of_free_groups.prog w K mg base "check_group_word" 3 ["word"] sp_check_group_word := fn_D t_check_group_word F3 (PySem.W.mg_of X G a3) B3 sc_check_group_word len_check_group_word (fun cdv A outer s H E hr bx => l_check_group_word m_enumerate   X_InvalidWord  G_is_pair cdv A outer s H E hr bx) r_check_group_word
  have B4 := F4.binds (ps := ["word"]) fun _ _ _ _ _ _ us hl => match us, hl with | [_], _ => rfl
  have G_shortened : FnD PySem.Challenge.rw_unswapped_k70_words_of_free_groups.prog w K mg base "shortened" 1 ["word"] sp_shortened := fn_D t_shortened F4 (PySem.W.mg_of X G a4) B4 sc_shortened len_shortened (fun cdv A outer s H E hr bx => l_shortened m_tuple      cdv A outer s H E hr bx) r_shortened
  have B5 := F5.binds (ps := ["word"]) fun _ _ _ _ _ _ us hl => match us, hl with | [_], _ => rfl
  have G_reduced : FnD PySem.Challenge.rw_unswapped_k70_words_of_free_groups.prog w K mg base "reduced" 4 ["word"] sp_reduced := fn_D t_reduced F5 (PySem.W.mg_of X G a5) B5 sc_reduced len_reduced (fun cdv A outer s H E hr bx => l_reduced      G_check_group_word G_shortened cdv A outer s H E hr bx) r_reduced
  have B6 := F6.binds (ps := ["word"]) fun _ _ _ _ _ _ us hl => match us, hl with | [_], _ => rfl
  have G_opposite : FnD PySem.Challenge.rw_unswapped_k70_words_of_free_groups.prog w K mg base "opposite" 1 ["word"] sp_opposite := fn_D t_opposite F6 (PySem.W.mg_of X G a6) B6 sc_opposite len_opposite (fun cdv A outer s H E hr bx => l_opposite m_reversed m_tuple      cdv A outer s H E hr bx) r_opposite
  have B7 := F7.binds (ps := ["rows"]) fun _ _ _ _ _ _ us hl => match us, hl with | [_], _ => rfl
  have G_group_product : FnD PySem.Challenge.rw_unswapped_k70_words_of_free_groups.prog w K mg base "group_product" 4 ["rows"] sp_group_product := fn_D t_group_product F7 (PySem.W.mg_of X G a7) B7 sc_group_product len_group_product (fun cdv A outer s H E hr bx => l_group_product      G_check_group_word G_shortened cdv A outer s H E hr bx) r_group_product
  have B8 := F8.binds (ps := ["word"]) fun _ _ _ _ _ _ us hl => match us, hl with | [_], _ => rfl
  have G_group_inverse : FnD PySem.Challenge.rw_unswapped_k70_words_of_free_groups.prog w K mg base "group_inverse" 5 ["word"] sp_group_inverse := fn_D t_group_inverse F8 (PySem.W.mg_of X G a8) B8 sc_group_inverse len_group_inverse (fun cdv A outer s H E hr bx => l_group_inverse      G_opposite G_reduced cdv A outer s H E hr bx) r_group_inverse
  have B9 := F9.binds (ps := ["word", "count"]) fun _ _ _ _ _ _ us hl => match us, hl with | [_, _], _ => rfl
  have G_group_power : FnD PySem.Challenge.rw_unswapped_k70_words_of_free_groups.prog w K mg base "group_power" 6 ["word", "count"] sp_group_power := fn_D t_group_power F9 (PySem.W.mg_of X G a9) B9 sc_group_power len_group_power (fun cdv A outer s H E hr bx => l_group_power m_abs     G_reduced G_group_inverse G_shortened cdv A outer s H E hr bx) r_group_power
  have B10 := F10.binds (ps := ["one", "two"]) fun _ _ _ _ _ _ us hl => match us, hl with | [_, _], _ => rfl
  have G_commutator_word : FnD PySem.Challenge.rw_unswapped_k70_words_of_free_groups.prog w K mg base "commutator_word" 4 ["one", "two"] sp_commutator_word := fn_D t_commutator_word F10 (PySem.W.mg_of X G a10) B10 sc_commutator_word len_commutator_word (fun cdv A outer s H E hr bx => l_commutator_word      G_check_group_word G_shortened G_opposite cdv A outer s H E hr bx) r_commutator_word
  have B11 := F11.binds (ps := ["word", "table"]) fun _ _ _ _ _ _ us hl => match us, hl with | [_, _], _ => rfl
  have G_group_put : FnD PySem.Challenge.rw_unswapped_k70_words_of_free_groups.prog w K mg base "group_put" 4 ["word", "table"] sp_group_put := fn_D t_group_put F11 (PySem.W.mg_of X G a11) B11 sc_group_put len_group_put (fun cdv A outer s H E hr bx => l_group_put m_sorted     G_check_group_word G_opposite G_shortened cdv A outer s H E hr bx) r_group_put
  have B12 := F12.binds (ps := ["script", "k"]) fun _ _ _ _ _ _ us hl => match us, hl with | [_, _], _ => rfl
  have G_law_cell : FnD PySem.Challenge.rw_unswapped_k70_words_of_free_groups.prog w K mg base "_law_cell" 1 ["script", "k"] sp_law_cell := fn_D t_law_cell F12 (PySem.W.mg_of X G a12) B12 sc_law_cell len_law_cell (fun cdv A outer s H E hr bx => l_law_cell m_len m_int      cdv A outer s H E hr bx) r_law_cell
  have B13 := F13.binds (ps := ["script", "at", "count"]) fun _ _ _ _ _ _ us hl => match us, hl with | [_, _, _], _ => rfl
  have G_law_big : FnD PySem.Challenge.rw_unswapped_k70_words_of_free_groups.prog w K mg base "_law_big" 2 ["script", "at", "count"] sp_law_big := fn_D t_law_big F13 (PySem.W.mg_of X G a13) B13 sc_law_big len_law_big (fun cdv A outer s H E hr bx => l_law_big m_range     G_law_cell cdv A outer s H E hr bx) r_law_big
  have B14 := F14.binds (ps := ["state", "m"]) fun _ _ _ _ _ _ us hl => match us, hl with | [_, _], _ => rfl
  have G_law_take : FnD PySem.Challenge.rw_unswapped_k70_words_of_free_groups.prog w K mg base "_law_take" 1 ["state", "m"] sp_law_take := fn_D t_law_take F14 (PySem.W.mg_of X G a14) B14 sc_law_take len_law_take (fun cdv A outer s H E hr bx => l_law_take m_int      cdv A outer s H E hr bx) r_law_take
  have B15 := F15.binds (ps := ["one", "two"]) fun _ _ _ _ _ _ us hl => match us, hl with | [_, _], _ => rfl
  have G_all_law_same : ∀ n, FnD PySem.Challenge.rw_unswapped_k70_words_of_free_groups.prog w K mg base "_law_same" n ["one", "two"] (sp_law_same n) := fun n => by
    induction n with
    | zero => exact ⟨_, _, fnO_never never_law_same, PySem.W.mg_of X G a15, F15.kp, B15⟩
    | succ n ih => exact fn_D (t_law_same n) F15 (PySem.W.mg_of X G a15) B15 sc_law_same (len_law_same (n + 1)) (fun cdv A outer s H E hr bx => l_law_same m_bool m_isinstance m_list m_tuple m_len m_range m_dict m_int m_str     ih cdv A outer s H E hr bx) (r_law_same n)
  have G_law_same := G_all_law_same 8
  have B16 := F16.binds (ps := ["state", "names", "most"]) fun _ _ _ _ _ _ us hl => match us, hl with | [_, _, _], _ => rfl
  have G_law_group_word : FnD PySem.Challenge.rw_unswapped_k70_words_of_free_groups.prog w K mg base "_law_group_word" 2 ["state", "names", "most"] sp_law_group_word := fn_D t_law_group_word F16 (PySem.W.mg_of X G a16) B16 sc_law_group_word len_law_group_word (fun cdv A outer s H E hr bx => l_law_group_word m_range m_len m_tuple     G_law_take cdv A outer s H E hr bx) r_law_group_word
  have B17 := F17.binds (ps := ["word"]) fun _ _ _ _ _ _ us hl => match us, hl with | [_], _ => rfl
  have G_law_reduced : FnD PySem.Challenge.rw_unswapped_k70_words_of_free_groups.prog w K mg base "_law_reduced" 1 ["word"] sp_law_reduced := fn_D t_law_reduced F17 (PySem.W.mg_of X G a17) B17 sc_law_reduced len_law_reduced (fun cdv A outer s H E hr bx => l_law_reduced m_list m_range m_len m_max m_tuple      cdv A outer s H E hr bx) r_law_reduced
  have B18 := F18.binds (ps := ["word"]) fun _ _ _ _ _ _ us hl => match us, hl with | [_], _ => rfl
  have G_law_opposite : FnD PySem.Challenge.rw_unswapped_k70_words_of_free_groups.prog w K mg base "_law_opposite" 1 ["word"] sp_law_opposite := fn_D t_law_opposite F18 (PySem.W.mg_of X G a18) B18 sc_law_opposite len_law_opposite (fun cdv A outer s H E hr bx => l_law_opposite m_tuple      cdv A outer s H E hr bx) r_law_opposite
  have B19 := F19.binds (ps := ["which", "word", "other"]) fun _ _ _ _ _ _ us hl => match us, hl with | [_, _, _], _ => rfl
  have G_law_told : FnD PySem.Challenge.rw_unswapped_k70_words_of_free_groups.prog w K mg base "_law_told" 7 ["which", "word", "other"] sp_law_told := fn_D t_law_told F19 (PySem.W.mg_of X G a19) B19 sc_law_told len_law_told (fun cdv A outer s H E hr bx => l_law_told   (PySem.W.mg_of X G a3) a3 (PySem.W.mg_of X G a5) a5 (PySem.W.mg_of X G a8) a8 X_InvalidWord mx_InvalidWord so_InvalidWord G_check_group_word G_reduced G_group_inverse G_group_product G_group_power G_commutator_word G_group_put cdv A outer s H E hr bx) r_law_told
  exact fn_O t_law F20 sc_law len_law (fun cdv A outer s H E hr bx => l_law m_range m_len     G_law_big G_law_take G_law_group_word G_law_opposite G_law_reduced G_reduced G_group_product G_group_inverse G_group_power G_law_same G_check_group_word G_commutator_word G_group_put G_law_told cdv A outer s H E hr bx) r_law
end K70
open PySem PySem.W PyProof.Rows
set_option maxHeartbeats 0 in
theorem PySem.Challenge.cw_unswapped_k70_words_of_free_groups_holds : PySem.Challenge.rw_unswapped_k70_words_of_free_groups.Holds := by
  w_on; o_law; k_head; (case hw => w_witness2)
  k_fill
  refine L2.walk_of (l := PySem.Challenge.rw_unswapped_k70_words_of_free_groups) (n := 63) (k := 9) (x := "script") (CX := fun w => L2.CX PySem.Challenge.rw_unswapped_k70_words_of_free_groups.prog w) (sp := fun w => UZ.spH _ K70.sp_law) rfl (by decide) rfl ⟨rfl, by decide, by decide⟩ (fun w h Y => PySem.W.kIn_of Y) ?F (fun _ _ a ns hl _ hS => UZ.law_sp hS fun Q q => ⟨ns, rfl, q⟩) (fun _ _ _ _ _ h => K70.cx_no h)
  case F =>
    intro w mg fa h KX G hmg
    refine' K70.all_mk KX G hmg ?a0 ?l0 ?c0 ?k0 ?a1 ?l1 ?c1 ?k1 ?a2 ?l2 ?c2 ?k2 ?a3 ?l3 ?c3 ?k3 ?a4 ?l4 ?c4 ?k4 ?a5 ?l5 ?c5 ?k5 ?a6 ?l6 ?c6 ?k6 ?a7 ?l7 ?c7 ?k7 ?a8 ?l8 ?c8 ?k8 ?a9 ?l9 ?c9 ?k9 ?a10 ?l10 ?c10 ?k10 ?a11 ?l11 ?c11 ?k11 ?a12 ?l12 ?c12 ?k12 ?a13 ?l13 ?c13 ?k13 ?a14 ?l14 ?c14 ?k14 ?a15 ?l15 ?c15 ?k15 ?a16 ?l16 ?c16 ?k16 ?a17 ?l17 ?c17 ?k17 ?a18 ?l18 ?c18 ?k18 ?a19 ?l19 ?c19 ?k19 ?a20 ?l20 ?c20 ?k20 ?e_InvalidWord ?i_InvalidWord ?li_InvalidWord ?ci_InvalidWord ?x_InvalidWord ?m_InvalidWord_InvalidWord ?z_str ?z_isinstance ?z_len ?z_int ?z_bool ?z_tuple ?z_enumerate ?z_reversed ?z_abs ?z_sorted ?z_range ?z_list ?z_dict ?z_max ?y_SIGNS ?y_FIGURES
    (case a0 => k_is); (case l0 => k_is); (case c0 => k_is); (case k0 => k_is); (case a1 => k_is); (case l1 => k_is); (case c1 => k_is); (case k1 => k_is); (case a2 => k_is); (case l2 => k_is); (case c2 => k_is); (case k2 => k_is)
    (case a3 => k_is); (case l3 => k_is); (case c3 => k_is); (case k3 => k_is); (case a4 => k_is); (case l4 => k_is); (case c4 => k_is); (case k4 => k_is); (case a5 => k_is); (case l5 => k_is); (case c5 => k_is); (case k5 => k_is)
    (case a6 => k_is); (case l6 => k_is); (case c6 => k_is); (case k6 => k_is); (case a7 => k_is); (case l7 => k_is); (case c7 => k_is); (case k7 => k_is); (case a8 => k_is); (case l8 => k_is); (case c8 => k_is); (case k8 => k_is)
    (case a9 => k_is); (case l9 => k_is); (case c9 => k_is); (case k9 => k_is); (case a10 => k_is); (case l10 => k_is); (case c10 => k_is); (case k10 => k_is); (case a11 => k_is); (case l11 => k_is); (case c11 => k_is); (case k11 => k_is)
    (case a12 => k_is); (case l12 => k_is); (case c12 => k_is); (case k12 => k_is); (case a13 => k_is); (case l13 => k_is); (case c13 => k_is); (case k13 => k_is); (case a14 => k_is); (case l14 => k_is); (case c14 => k_is); (case k14 => k_is)
    (case a15 => k_is); (case l15 => k_is); (case c15 => k_is); (case k15 => k_is); (case a16 => k_is); (case l16 => k_is); (case c16 => k_is); (case k16 => k_is); (case a17 => k_is); (case l17 => k_is); (case c17 => k_is); (case k17 => k_is)
    (case a18 => k_is); (case l18 => k_is); (case c18 => k_is); (case k18 => k_is); (case a19 => k_is); (case l19 => k_is); (case c19 => k_is); (case k19 => k_is); (case a20 => k_is); (case l20 => k_is); (case c20 => k_is); (case k20 => k_is)
    (case e_InvalidWord => k_is); (case i_InvalidWord => k_is); (case li_InvalidWord => k_is); (case ci_InvalidWord => k_is); (case x_InvalidWord => first | rfl | kernel_rfl | decide +kernel); (case m_InvalidWord_InvalidWord => first | rfl | kernel_rfl | decide +kernel); (case z_str => k_is); (case z_isinstance => k_is); (case z_len => k_is); (case z_int => k_is); (case z_bool => k_is); (case z_tuple => k_is)
    (case z_enumerate => k_is); (case z_reversed => k_is); (case z_abs => k_is); (case z_sorted => k_is); (case z_range => k_is); (case z_list => k_is); (case z_dict => k_is); (case z_max => k_is); (case y_SIGNS => k_is); (case y_FIGURES => k_is)
