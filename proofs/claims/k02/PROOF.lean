import PyProof.Rows.All
import Wide.All
import OpenK.AllK
import Wide.FinOn
import HandS.ForMost
import HandS.Exc
import HandS.TryOnly
import HandS.ExcOwn
import HandS.WordsExc
import HandS.Wide
import HandS.IsInst
import HandS.Style
import HandS.TupAny
import HandS.TupMul
import HandS.Rev
import HandS.Zip
import HandS.Deep
import HandS.Flow
import KE.Datum
import KE.GoesEnum
import HandS.ExcInit
import HandS.ExcSuper
import HandS.FStr
import KE.KExcSuper
import KE.KSuper
import HandS.ExcField
import HandS.Dict
import HandS.More
import HandS.SetKeys
import KE.KDictZip
import KE.KStar
import HandS.Star
import HandS.Conv
import PySem.Challenge.RW_unswapped_k02_inverses_and_determinants
set_option Elab.async false
set_option linter.all false
set_option maxRecDepth 100000
set_option maxHeartbeats 4000000
/-! UZ, part A: values as data. A layer of our own above HandS: what a def computes is told over plain data (trees) and a numbered store of changeable objects; no address stands in it. -/
namespace UZ
open PySem PySem.Spec PyProof.Rows L2

/-! ### data held by a value, in a heap part S that is never written -/
def keyD : Key → PyData
  | .inl i => .int i
  | .inr x => .str x
mutual
inductive Rep (K : PySem.W.Frag) (S : Hp) : V → PyData → Prop
  | non : Rep K S .non .none
  | bl (b : Bool) : Rep K S (.bl b) (.bool b)
  | int (i : Int) : Rep K S (.int i) (.int i)
  | str (x : Str) : Rep K S (.str x) (.str x)
  | lst {a : Addr} {vs : List V} {ds : List PyData} : S a = some (.lst vs) → RepL K S vs ds → Rep K S (.ref a) (.list ds)
  | tup {a : Addr} {vs : List V} {ds : List PyData} : SqT K S a vs → RepL K S vs ds → Rep K S (.ref a) (.tuple ds)
  | dK {a : Addr} {kvs : List (Key × V)} {ds : List (PyData × PyData)} : S a = some (.dK kvs) → RepK K S kvs ds → Rep K S (.ref a) (.dict ds)
  | dT {a : Addr} {kvs : List (List Key × V)} {ds : List (PyData × PyData)} : S a = some (.dT kvs) → RepT K S kvs ds → Rep K S (.ref a) (.dict ds)
inductive RepL (K : PySem.W.Frag) (S : Hp) : List V → List PyData → Prop
  | nil : RepL K S [] []
  | cons {v : V} {vs : List V} {d : PyData} {ds : List PyData} : Rep K S v d → RepL K S vs ds → RepL K S (v :: vs) (d :: ds)
inductive RepK (K : PySem.W.Frag) (S : Hp) : List (Key × V) → List (PyData × PyData) → Prop
  | nil : RepK K S [] []
  | cons {k : Key} {v : V} {vs : List (Key × V)} {d : PyData} {ds : List (PyData × PyData)} : Rep K S v d → RepK K S vs ds → RepK K S ((k, v) :: vs) ((keyD k, d) :: ds)
inductive RepT (K : PySem.W.Frag) (S : Hp) : List (List Key × V) → List (PyData × PyData) → Prop
  | nil : RepT K S [] []
  | cons {k : List Key} {v : V} {vs : List (List Key × V)} {d : PyData} {ds : List (PyData × PyData)} : Rep K S v d → RepT K S vs ds → RepT K S ((k, v) :: vs) ((.tuple (k.map keyD), d) :: ds)
end

def SubH (S S' : Hp) : Prop := ∀ a o, S a = some o → S' a = some o
theorem SubH.refl (S : Hp) : SubH S S := fun _ _ h => h
theorem SubH.trans {A B C : Hp} (x : SubH A B) (y : SubH B C) : SubH A C := fun a o h => y a o (x a o h)
theorem SubH.sqT {K : PySem.W.Frag} {S S' : Hp} {a : Addr} {xs : List V} (e : SubH S S') (h : SqT K S a xs) : SqT K S' a xs := by
  rcases h with (h | ⟨o, h⟩) | h
  · exact .inl (.inl (e _ _ h))
  · exact .inl (.inr ⟨o, e _ _ h⟩)
  · exact .inr h
theorem SubH.sqL {K : PySem.W.Frag} {S S' : Hp} {a : Addr} {xs : List V} (e : SubH S S') (h : SqL K S a xs) : SqL K S' a xs := by
  rcases h with (h | ⟨o, h⟩) | h
  · exact .inl (.inl (e _ _ h))
  · exact .inl (.inr ⟨o, e _ _ h⟩)
  · exact .inr h
mutual
theorem Rep.sub {K : PySem.W.Frag} {S S' : Hp} (e : SubH S S') : ∀ {v : V} {d : PyData}, Rep K S v d → Rep K S' v d
  | _, _, .non => .non
  | _, _, .bl b => .bl b
  | _, _, .int i => .int i
  | _, _, .str x => .str x
  | _, _, .lst h r => .lst (e _ _ h) (RepL.sub e r)
  | _, _, .tup h r => .tup (e.sqT h) (RepL.sub e r)
  | _, _, .dK h r => .dK (e _ _ h) (RepK.sub e r)
  | _, _, .dT h r => .dT (e _ _ h) (RepT.sub e r)
theorem RepL.sub {K : PySem.W.Frag} {S S' : Hp} (e : SubH S S') : ∀ {v : List V} {d : List PyData}, RepL K S v d → RepL K S' v d
  | _, _, .nil => .nil
  | _, _, .cons h r => .cons (Rep.sub e h) (RepL.sub e r)
theorem RepK.sub {K : PySem.W.Frag} {S S' : Hp} (e : SubH S S') : ∀ {v : List (Key × V)} {d : List (PyData × PyData)}, RepK K S v d → RepK K S' v d
  | _, _, .nil => .nil
  | _, _, .cons h r => .cons (Rep.sub e h) (RepK.sub e r)
theorem RepT.sub {K : PySem.W.Frag} {S S' : Hp} (e : SubH S S') : ∀ {v : List (List Key × V)} {d : List (PyData × PyData)}, RepT K S v d → RepT K S' v d
  | _, _, .nil => .nil
  | _, _, .cons h r => .cons (Rep.sub e h) (RepT.sub e r)
end
theorem RepL.length {K : PySem.W.Frag} {S : Hp} : ∀ {v : List V} {d : List PyData}, RepL K S v d → v.length = d.length
  | _, _, .nil => rfl
  | _, _, .cons _ r => by rw [List.length_cons, List.length_cons, r.length]
theorem RepL.get {K : PySem.W.Frag} {S : Hp} : ∀ {vs : List V} {ds : List PyData} {i : Nat} {d : PyData}, RepL K S vs ds → ds[i]? = some d → ∃ v, vs[i]? = some v ∧ Rep K S v d
  | _, _, _, _, .nil, e => by simp at e
  | _, _, 0, _, .cons r _, e => by simp at e; subst e; exact ⟨_, rfl, r⟩
  | _, _, i + 1, _, .cons _ t, e => by
    obtain ⟨u, h1, h2⟩ := RepL.get (i := i) t (by simpa using e)
    exact ⟨u, by simpa using h1, h2⟩
theorem RepL.append {K : PySem.W.Frag} {S : Hp} : ∀ {xs ys : List V} {us ws : List PyData}, RepL K S xs us → RepL K S ys ws → RepL K S (xs ++ ys) (us ++ ws)
  | _, _, _, _, .nil, s => s
  | _, _, _, _, .cons r t, s => .cons r (RepL.append t s)
theorem RepL.take {K : PySem.W.Frag} {S : Hp} : ∀ {xs : List V} {us : List PyData} (n : Nat), RepL K S xs us → RepL K S (xs.take n) (us.take n)
  | _, _, 0, _ => .nil
  | _, _, _ + 1, .nil => .nil
  | _, _, n + 1, .cons r t => .cons r (RepL.take n t)
theorem RepL.drop {K : PySem.W.Frag} {S : Hp} : ∀ {xs : List V} {us : List PyData} (n : Nat), RepL K S xs us → RepL K S (xs.drop n) (us.drop n)
  | _, _, 0, r => r
  | _, _, _ + 1, .nil => .nil
  | _, _, n + 1, .cons _ t => RepL.drop n t
theorem RepL.reverse {K : PySem.W.Frag} {S : Hp} : ∀ {xs : List V} {us : List PyData}, RepL K S xs us → RepL K S xs.reverse us.reverse
  | _, _, .nil => .nil
  | _, _, .cons r t => by
    rw [List.reverse_cons, List.reverse_cons]
    exact t.reverse.append (.cons r .nil)
theorem RepL.rep {K : PySem.W.Frag} {S : Hp} {xs : List V} {us : List PyData} (h : RepL K S xs us) : ∀ k : Nat, RepL K S (List.replicate k xs).flatten (List.replicate k us).flatten
  | 0 => .nil
  | k + 1 => by
    rw [List.replicate_succ, List.replicate_succ, List.flatten_cons, List.flatten_cons]
    exact h.append (h.rep k)

mutual
theorem Rep.dp {K : PySem.W.Frag} {S : Hp} : ∀ {v : V} {d : PyData}, Rep K S v d → d.plain = true → Dp K S v d
  | _, _, .non, _ => .non
  | _, _, .bl b, _ => .bl b
  | _, _, .int i, _ => .int i
  | _, _, .str x, _ => .str x
  | _, _, .lst h r, p => .lst (SqL.of h) (RepL.dp r (by simpa [PyData.plain] using p))
  | _, _, .tup h r, p => .tup h (RepL.dp r (by simpa [PyData.plain] using p))
  | _, _, .dK h r, p => by simp [PyData.plain] at p
  | _, _, .dT h r, p => by simp [PyData.plain] at p
theorem RepL.dp {K : PySem.W.Frag} {S : Hp} : ∀ {v : List V} {d : List PyData}, RepL K S v d → PyData.plainAll d = true → DpAll K S v d
  | _, _, .nil, _ => .nil
  | _, _, .cons h r, p => by
    rw [PyData.plainAll, Bool.and_eq_true] at p
    exact .cons (Rep.dp h p.1) (RepL.dp r p.2)
end

/-! ### what stands in a slot, and the changeable objects -/
/-- a value: a datum; the changeable object number k; a tuple of such; a list that is read alone (the script); any value as it is -/
inductive W where
  | d (x : PyData) | o (k : Nat) | tp (ws : List W) | rl (xs : List PyData) | v (y : V) | exc (a d : Addr) (fs : List (Str × PyData)) | gl (x : Str) | xv (x : Str) (fs : List (Str × PyData))
inductive Ob where
  | lst (ws : List W) | dK (kvs : List (Key × W)) | dT (kvs : List (List Key × W)) | ins (C : Addr) (fs : List (Str × W)) | dead
/-- the fields of a caught exception -/
inductive RepF (K : PySem.W.Frag) (S : Hp) : List (Str × V) → List (Str × PyData) → Prop
  | nil : RepF K S [] []
  | cons {k : Str} {v : V} {vs : List (Str × V)} {x : PyData} {xs : List (Str × PyData)} : Rep K S v x → RepF K S vs xs → RepF K S ((k, v) :: vs) ((k, x) :: xs)
theorem RepF.sub {K : PySem.W.Frag} {S S' : Hp} (e : SubH S S') : ∀ {v : List (Str × V)} {x : List (Str × PyData)}, RepF K S v x → RepF K S' v x
  | _, _, .nil => .nil
  | _, _, .cons h r => .cons (h.sub e) (r.sub e)
theorem RepF.look {K : PySem.W.Frag} {S : Hp} {f : Str} {y : PyData} : ∀ {v : List (Str × V)} {x : List (Str × PyData)}, RepF K S v x → x.lookup f = some y → ∃ u, v.lookup f = some u ∧ Rep K S u y
  | _, _, .nil, h => by cases h
  | (k, v) :: vs, (_, x) :: xs, .cons r t, h => by
    rw [List.lookup_cons] at h ⊢
    split at h
    · rename_i e
      cases h
      exact ⟨v, rfl, r⟩
    · rename_i e
      exact RepF.look t h
/-- what stands under x in the module -/
def ClsN (K : PySem.W.Frag) (x : Str) (C : Addr) : Prop := PySem.W.nsIn K mainGlobals x = some (some (.ref C))
/-- an exception held as a value: its object -/
def ExV (C : Addr) (d : Option Addr) (a : Addr) : HO := .ext fun h => ∃ (oe : Obj) (vs : Array Value), h.get? a = some oe ∧ L2.Zc (.ref C) d oe ∧ oe.data = .fields vs
/-- its fields -/
def XF (K : PySem.W.Frag) (S : Hp) (d : Option Addr) (fs : List (Str × PyData)) : Prop := (∀ dd, d = some dd → ∃ vs, S dd = some (.xd vs)) ∧ ∀ f y, fs.lookup f = some y → ∃ dd vs v, d = some dd ∧ S dd = some (.xd vs) ∧ vs.lookup f = some v ∧ Rep K S v y
theorem XF.sub {K : PySem.W.Frag} {S S' : Hp} {d : Option Addr} {fs : List (Str × PyData)} (e : SubH S S') (h : XF K S d fs) : XF K S' d fs := ⟨fun dd l => by
  obtain ⟨vs, h1⟩ := h.1 dd l
  exact ⟨vs, e _ _ h1⟩, fun f y l => by
  obtain ⟨dd, vs, v, h1, h2, h3, h4⟩ := h.2 f y l
  exact ⟨dd, vs, v, h1, e _ _ h2, h3, h4.sub e⟩⟩
mutual
inductive RelW (K : PySem.W.Frag) (S : Hp) (ρ : Nat → Addr) (n : Nat) : V → W → Prop
  | d {v : V} {x : PyData} : Rep K S v x → RelW K S ρ n v (.d x)
  | o {k : Nat} {a : Addr} : k < n → a = ρ k → RelW K S ρ n (.ref a) (.o k)
  | tp {a : Addr} {vs : List V} {ws : List W} : S a = some (.tup vs) → RelWs K S ρ n vs ws → RelW K S ρ n (.ref a) (.tp ws)
  | rl {a : Addr} {vs : List V} {xs : List PyData} : SqL K S a vs → RepL K S vs xs → RelW K S ρ n (.ref a) (.rl xs)
  | v {y : V} : RelW K S ρ n y (.v y)
  | exc {a d : Addr} {vs : List (Str × V)} {fs : List (Str × PyData)} : S d = some (.xd vs) → RepF K S vs fs → RelW K S ρ n (.ref a) (.exc a d fs)
  | gl {x : Str} {f : Addr} : ClsN K x f → RelW K S ρ n (.ref f) (.gl x)
  | xv {a C : Addr} {d : Option Addr} {x : Str} {fs : List (Str × PyData)} : ClsN K x C → S a = some (ExV C d a) → XF K S d fs → RelW K S ρ n (.ref a) (.xv x fs)
inductive RelWs (K : PySem.W.Frag) (S : Hp) (ρ : Nat → Addr) (n : Nat) : List V → List W → Prop
  | nil : RelWs K S ρ n [] []
  | cons {v : V} {vs : List V} {d : W} {ds : List W} : RelW K S ρ n v d → RelWs K S ρ n vs ds → RelWs K S ρ n (v :: vs) (d :: ds)
end
/-- pairs with any first part -/
inductive RelF {κ : Type} (K : PySem.W.Frag) (S : Hp) (ρ : Nat → Addr) (n : Nat) : List (κ × V) → List (κ × W) → Prop
  | nil : RelF K S ρ n [] []
  | cons {k : κ} {v : V} {vs : List (κ × V)} {w : W} {ws : List (κ × W)} : RelW K S ρ n v w → RelF K S ρ n vs ws → RelF K S ρ n ((k, v) :: vs) ((k, w) :: ws)
/-- the object numbered as ob stands at a -/
inductive ObR (K : PySem.W.Frag) (S : Hp) (ρ : Nat → Addr) (n : Nat) (H : Hp) (a : Addr) : Ob → Prop
  | lst {vs : List V} {ws : List W} : H a = some (.lst vs) → RelWs K S ρ n vs ws → ObR K S ρ n H a (.lst ws)
  | dK {kvs : List (Key × V)} {ws : List (Key × W)} : H a = some (.dK kvs) → RelF K S ρ n kvs ws → ObR K S ρ n H a (.dK ws)
  | dT {kvs : List (List Key × V)} {ws : List (List Key × W)} : H a = some (.dT kvs) → RelF K S ρ n kvs ws → ObR K S ρ n H a (.dT ws)
  | ins {C dx : Addr} {fs : List (Str × V)} {ws : List (Str × W)} : H a = some (.ins C dx fs) → RelF K S ρ n fs ws → ObR K S ρ n H a (.ins C ws)
  | dead : ObR K S ρ n H a .dead

section
variable {K : PySem.W.Frag} {S S' : Hp} {ρ ρ' : Nat → Addr} {n n' : Nat}
mutual
theorem RelW.mono (e : SubH S S') (r : ∀ k, k < n → ρ' k = ρ k) (l : n ≤ n') : ∀ {v : V} {w : W}, RelW K S ρ n v w → RelW K S' ρ' n' v w
  | _, _, .d h => .d (h.sub e)
  | _, _, .o h q => .o (Nat.lt_of_lt_of_le h l) (q.trans (r _ h).symm)
  | _, _, .tp h q => .tp (e _ _ h) (RelWs.mono e r l q)
  | _, _, .rl h q => .rl (e.sqL h) (q.sub e)
  | _, _, .v => .v
  | _, _, .exc h q => .exc (e _ _ h) (q.sub e)
  | _, _, .gl h => .gl h
  | _, _, .xv c h q => .xv c (e _ _ h) (q.sub e)
theorem RelWs.mono (e : SubH S S') (r : ∀ k, k < n → ρ' k = ρ k) (l : n ≤ n') : ∀ {v : List V} {w : List W}, RelWs K S ρ n v w → RelWs K S' ρ' n' v w
  | _, _, .nil => .nil
  | _, _, .cons h q => .cons (RelW.mono e r l h) (RelWs.mono e r l q)
end
theorem RelF.mono {κ : Type} (e : SubH S S') (r : ∀ k, k < n → ρ' k = ρ k) (l : n ≤ n') : ∀ {v : List (κ × V)} {w : List (κ × W)}, RelF K S ρ n v w → RelF K S' ρ' n' v w
  | _, _, .nil => .nil
  | _, _, .cons h q => .cons (h.mono e r l) (RelF.mono e r l q)
theorem RelWs.length : ∀ {v : List V} {w : List W}, RelWs K S ρ n v w → v.length = w.length
  | _, _, .nil => rfl
  | _, _, .cons _ r => by rw [List.length_cons, List.length_cons, r.length]
theorem RelWs.get : ∀ {vs : List V} {ds : List W} {i : Nat} {d : W}, RelWs K S ρ n vs ds → ds[i]? = some d → ∃ v, vs[i]? = some v ∧ RelW K S ρ n v d
  | _, _, _, _, .nil, e => by simp at e
  | _, _, 0, _, .cons r _, e => by simp at e; subst e; exact ⟨_, rfl, r⟩
  | _, _, i + 1, _, .cons _ t, e => by
    obtain ⟨u, h1, h2⟩ := RelWs.get (i := i) t (by simpa using e)
    exact ⟨u, by simpa using h1, h2⟩
theorem RelWs.set {v : V} {w : W} (r : RelW K S ρ n v w) : ∀ {vs : List V} {ws : List W} (i : Nat), RelWs K S ρ n vs ws → RelWs K S ρ n (vs.set i v) (ws.set i w)
  | _, _, _, .nil => .nil
  | _, _, 0, .cons _ t => .cons r t
  | _, _, i + 1, .cons q t => .cons q (RelWs.set r i t)
theorem RelWs.append : ∀ {xs ys : List V} {us ws : List W}, RelWs K S ρ n xs us → RelWs K S ρ n ys ws → RelWs K S ρ n (xs ++ ys) (us ++ ws)
  | _, _, _, _, .nil, s => s
  | _, _, _, _, .cons r t, s => .cons r (RelWs.append t s)
theorem RelWs.take : ∀ {xs : List V} {us : List W} (m : Nat), RelWs K S ρ n xs us → RelWs K S ρ n (xs.take m) (us.take m)
  | _, _, 0, _ => .nil
  | _, _, _ + 1, .nil => .nil
  | _, _, m + 1, .cons r t => .cons r (RelWs.take m t)
theorem RelWs.drop : ∀ {xs : List V} {us : List W} (m : Nat), RelWs K S ρ n xs us → RelWs K S ρ n (xs.drop m) (us.drop m)
  | _, _, 0, r => r
  | _, _, _ + 1, .nil => .nil
  | _, _, m + 1, .cons _ t => RelWs.drop m t
theorem RelWs.reverse : ∀ {xs : List V} {us : List W}, RelWs K S ρ n xs us → RelWs K S ρ n xs.reverse us.reverse
  | _, _, .nil => .nil
  | _, _, .cons r t => by
    rw [List.reverse_cons, List.reverse_cons]
    exact t.reverse.append (.cons r .nil)
theorem RelWs.dropLast : ∀ {xs : List V} {us : List W}, RelWs K S ρ n xs us → RelWs K S ρ n xs.dropLast us.dropLast
  | _, _, .nil => .nil
  | _, _, .cons r .nil => .nil
  | _, _, .cons r (.cons q t) => .cons r (RelWs.dropLast (.cons q t))
theorem RelWs.rep {xs : List V} {us : List W} (h : RelWs K S ρ n xs us) : ∀ k : Nat, RelWs K S ρ n (List.replicate k xs).flatten (List.replicate k us).flatten
  | 0 => .nil
  | k + 1 => by
    rw [List.replicate_succ, List.replicate_succ, List.flatten_cons, List.flatten_cons]
    exact h.append (h.rep k)
theorem RepL.relWs : ∀ {vs : List V} {ds : List PyData}, RepL K S vs ds → RelWs K S ρ n vs (ds.map .d)
  | _, _, .nil => .nil
  | _, _, .cons h r => .cons (.d h) r.relWs
theorem RelWs.repL : ∀ {ds : List PyData} {vs : List V}, RelWs K S ρ n vs (ds.map .d) → RepL K S vs ds
  | [], _, h => by cases h; exact .nil
  | d :: ds, _, h => by
    cases h with
    | cons h r =>
      cases h with
      | d h => exact .cons h r.repL
theorem ObR.mono {H : Hp} {a : Addr} {ob : Ob} (e : SubH S S') (r : ∀ k, k < n → ρ' k = ρ k) (l : n ≤ n') (h : ObR K S ρ n H a ob) : ObR K S' ρ' n' H a ob := by
  cases h with
  | lst h q => exact .lst h (q.mono e r l)
  | dK h q => exact .dK h (q.mono e r l)
  | dT h q => exact .dT h (q.mono e r l)
  | ins h q => exact .ins h (q.mono e r l)
  | dead => exact .dead
theorem ObR.at {H H' : Hp} {a : Addr} {ob : Ob} (h : ObR K S ρ n H a ob) (e : ∀ o, H a = some o → H' a = some o) : ObR K S ρ n H' a ob := by
  cases h with
  | lst h q => exact .lst (e _ h) q
  | dK h q => exact .dK (e _ h) q
  | dT h q => exact .dT (e _ h) q
  | ins h q => exact .ins (e _ h) q
  | dead => exact .dead
end

/-! ### the world: S what is never written, ρ where the numbered objects stand -/
structure Wd (K : PySem.W.Frag) (S : Hp) (ρ : Nat → Addr) (O : List Ob) (H : Hp) : Prop where
  sub : SubH S H
  own : ∀ k ob, O[k]? = some ob → ObR K S ρ O.length H (ρ k) ob
  sep : ∀ k ob, O[k]? = some ob → ob ≠ .dead → S (ρ k) = none
  inj : ∀ j k a b, O[j]? = some a → O[k]? = some b → a ≠ .dead → b ≠ .dead → ρ j = ρ k → j = k
  th : ∀ k, k < O.length → ∃ o, H (ρ k) = some o
structure Ext (S : Hp) (ρ : Nat → Addr) (n : Nat) (H : Hp) (S' : Hp) (ρ' : Nat → Addr) (n' : Nat) (H' : Hp) : Prop where
  le : n ≤ n'
  sub : SubH S S'
  rho : ∀ k, k < n → ρ' k = ρ k
  new : ∀ k, n ≤ k → k < n' → H (ρ' k) = none
  dom : ∀ a o, H a = some o → ∃ o', H' a = some o'
  frame : ∀ a o, H a = some o → (∀ k, k < n → ρ k ≠ a) → H' a = some o
  sfr : ∀ a o, H a = some o → S a = none → (∀ k, k < n → ρ k ≠ a) → S' a = none
section
variable {K : PySem.W.Frag} {S S1 S2 : Hp} {ρ ρ1 ρ2 : Nat → Addr} {n n1 n2 : Nat} {H H1 H2 : Hp} {O O' : List Ob}
theorem Ext.refl : Ext S ρ n H S ρ n H := ⟨Nat.le_refl _, .refl _, fun _ _ => rfl, fun _ h1 h2 => absurd (Nat.lt_of_lt_of_le h2 h1) (Nat.lt_irrefl _), fun _ o h => ⟨o, h⟩, fun _ _ h _ => h, fun _ _ _ h _ => h⟩
theorem Ext.trans (x : Ext S ρ n H S1 ρ1 n1 H1) (y : Ext S1 ρ1 n1 H1 S2 ρ2 n2 H2) : Ext S ρ n H S2 ρ2 n2 H2 := by
  have ne : ∀ a o, H a = some o → (∀ k, k < n → ρ k ≠ a) → ∀ k, k < n1 → ρ1 k ≠ a := fun a o h hk k hk1 => by
    by_cases hn : k < n
    · rw [x.rho k hn]; exact hk k hn
    · intro z
      have q := x.new k (Nat.le_of_not_lt hn) hk1
      rw [z, h] at q; cases q
  refine ⟨Nat.le_trans x.le y.le, x.sub.trans y.sub, fun k h => (y.rho k (Nat.lt_of_lt_of_le h x.le)).trans (x.rho k h), fun k h1 h2 => ?_, fun a o h => ?_, fun a o h hk => ?_, fun a o h hs hk => ?_⟩
  · by_cases hk : k < n1
    · rw [y.rho k hk]; exact x.new k h1 hk
    · have q := y.new k (Nat.le_of_not_lt hk) h2
      cases e : H (ρ2 k) with
      | none => rfl
      | some o =>
        obtain ⟨o', e'⟩ := x.dom _ _ e
        rw [q] at e'; cases e'
  · obtain ⟨o', e⟩ := x.dom a o h
    exact y.dom a o' e
  · exact y.frame a o (x.frame a o h hk) (ne a o h hk)
  · exact y.sfr a o (x.frame a o h hk) (x.sfr a o h hs hk) (ne a o h hk)
theorem RelW.ext {v : V} {w : W} (h : RelW K S ρ n v w) (x : Ext S ρ n H S1 ρ1 n1 H1) : RelW K S1 ρ1 n1 v w := h.mono x.sub x.rho x.le
theorem RelWs.ext {v : List V} {w : List W} (h : RelWs K S ρ n v w) (x : Ext S ρ n H S1 ρ1 n1 H1) : RelWs K S1 ρ1 n1 v w := h.mono x.sub x.rho x.le
theorem Wd.lt {k : Nat} {ob : Ob} (h : O[k]? = some ob) : k < O.length := (List.getElem?_eq_some_iff.mp h).1
/-- a live object stands in H -/
theorem ObR.there {a : Addr} {ob : Ob} (h : ObR K S ρ n H a ob) (hd : ob ≠ .dead) : ∃ o, H a = some o := by
  cases h with
  | lst h _ => exact ⟨_, h⟩
  | dK h _ => exact ⟨_, h⟩
  | dT h _ => exact ⟨_, h⟩
  | ins h _ => exact ⟨_, h⟩
  | dead => exact absurd rfl hd
/-- a new object that is never written -/
theorem Wd.lay {p : Addr} {u : HO} (wd : Wd K S ρ O H) (np : H p = none) : Wd K (upd S p u) ρ O (upd H p u) ∧ Ext S ρ O.length H (upd S p u) ρ O.length (upd H p u) := by
  have nS : S p = none := by
    cases e : S p with
    | none => rfl
    | some o => rw [wd.sub p o e] at np; cases np
  have sS : SubH S (upd S p u) := fun a o h => by
    rw [upd_ne (fun z => by rw [z, nS] at h; cases h)]; exact h
  have nep : ∀ a o, H a = some o → a ≠ p := fun a o h z => by rw [z, np] at h; cases h
  refine ⟨⟨fun a o h => ?_, fun k ob h => ?_, fun k ob h hd => ?_, wd.inj, fun k hk => let ⟨o, h⟩ := wd.th k hk; ⟨o, by rw [upd_ne (nep _ o h)]; exact h⟩⟩, Nat.le_refl _, sS, fun _ _ => rfl, fun _ h1 h2 => absurd (Nat.lt_of_lt_of_le h2 h1) (Nat.lt_irrefl _), fun a o h => ⟨o, by rw [upd_ne (nep a o h)]; exact h⟩, fun a o h _ => by rw [upd_ne (nep a o h)]; exact h, fun a o h hs _ => by rw [upd_ne (nep a o h)]; exact hs⟩
  · by_cases z : a = p
    · subst z; rw [upd_same] at h ⊢; exact h
    · rw [upd_ne z] at h ⊢; exact wd.sub a o h
  · exact ((wd.own k ob h).mono sS (fun _ _ => rfl) (Nat.le_refl _)).at fun o q => by rw [upd_ne (nep _ o q)]; exact q
  · obtain ⟨o, q⟩ := (wd.own k ob h).there hd
    rw [upd_ne (nep _ o q)]; exact wd.sep k ob h hd
/-- a new object that may be changed -/
def rhoP (ρ : Nat → Addr) (n : Nat) (p : Addr) : Nat → Addr := fun k => if k = n then p else ρ k
theorem rhoP_lt {k : Nat} {p : Addr} (h : k < n) : rhoP ρ n p k = ρ k := if_neg (Nat.ne_of_lt h)
theorem rhoP_eq {p : Addr} : rhoP ρ n p n = p := if_pos rfl
theorem Wd.push {p : Addr} {u : HO} {ob : Ob} (wd : Wd K S ρ O H) (np : H p = none) (hb : ObR K S ρ O.length (upd H p u) p ob) :
    Wd K S (rhoP ρ O.length p) (O ++ [ob]) (upd H p u) ∧ Ext S ρ O.length H S (rhoP ρ O.length p) (O ++ [ob]).length (upd H p u) := by
  have nS : S p = none := by
    cases e : S p with
    | none => rfl
    | some o => rw [wd.sub p o e] at np; cases np
  have nep : ∀ a o, H a = some o → a ≠ p := fun a o h z => by rw [z, np] at h; cases h
  have len : (O ++ [ob]).length = O.length + 1 := by simp
  have rr : ∀ k, k < O.length → rhoP ρ O.length p k = ρ k := fun k h => rhoP_lt h
  have cs : ∀ k o, (O ++ [ob])[k]? = some o → (k < O.length ∧ O[k]? = some o) ∨ (k = O.length ∧ o = ob) := fun k o h => by
    by_cases hk : k < O.length
    · rw [List.getElem?_append_left hk] at h; exact .inl ⟨hk, h⟩
    · have hk' : O.length ≤ k := Nat.le_of_not_lt hk
      rw [List.getElem?_append_right hk'] at h
      by_cases e : k = O.length
      · subst e; simp at h; exact .inr ⟨rfl, h.symm⟩
      · have : k - O.length ≠ 0 := by omega
        obtain ⟨m, hm⟩ := Nat.exists_eq_succ_of_ne_zero this
        rw [hm] at h; simp at h
  refine ⟨⟨fun a o h => ?_, fun k o h => ?_, fun k o h hd => ?_, fun j k a b h1 h2 d1 d2 e => ?_, fun k hk => ?_⟩, by omega, .refl _, rr, fun k h1 h2 => ?_, fun a o h => ⟨o, by rw [upd_ne (nep a o h)]; exact h⟩, fun a o h _ => by rw [upd_ne (nep a o h)]; exact h, fun a o h hs _ => hs⟩
  · have q := wd.sub a o h
    rw [upd_ne (nep a o q)]; exact q
  · rcases cs k o h with ⟨hk, h⟩ | ⟨rfl, rfl⟩
    · rw [rr k hk]
      exact ((wd.own k o h).mono (.refl _) rr (by omega)).at fun u q => by rw [upd_ne (nep _ u q)]; exact q
    · rw [rhoP_eq]
      exact hb.mono (.refl _) rr (by omega)
  · rcases cs k o h with ⟨hk, h⟩ | ⟨rfl, rfl⟩
    · rw [rr k hk]; exact wd.sep k o h hd
    · rw [rhoP_eq]; exact nS
  · rcases cs j a h1 with ⟨hj, g1⟩ | ⟨ej, ea⟩ <;> rcases cs k b h2 with ⟨hk, g2⟩ | ⟨ek, eb⟩
    · rw [rr j hj, rr k hk] at e; exact wd.inj j k a b g1 g2 d1 d2 e
    · rw [rr j hj, ek, rhoP_eq] at e
      obtain ⟨u, q⟩ := (wd.own j a g1).there d1
      exact absurd e (nep _ u q)
    · rw [rr k hk, ej, rhoP_eq] at e
      obtain ⟨u, q⟩ := (wd.own k b g2).there d2
      exact absurd e.symm (nep _ u q)
    · rw [ej, ek]
  · by_cases hk' : k < O.length
    · obtain ⟨o, h⟩ := wd.th k hk'
      exact ⟨o, by rw [rr k hk', upd_ne (nep _ o h)]; exact h⟩
    · have e : k = O.length := by omega
      subst e
      exact ⟨u, by rw [rhoP_eq]; exact upd_same⟩
  · have e : k = O.length := by omega
    subst e; rw [rhoP_eq]; exact np
/-- a changeable object is changed -/
theorem Wd.write {k : Nat} {u : HO} {ob ob' : Ob} (wd : Wd K S ρ O H) (hk : O[k]? = some ob) (hd : ob ≠ .dead) (hb : ObR K S ρ O.length (upd H (ρ k) u) (ρ k) ob') :
    Wd K S ρ (O.set k ob') (upd H (ρ k) u) ∧ Ext S ρ O.length H S ρ (O.set k ob').length (upd H (ρ k) u) := by
  have len : (O.set k ob').length = O.length := by simp
  have hlt := Wd.lt hk
  have nS := wd.sep k ob hk hd
  have cs : ∀ j o, (O.set k ob')[j]? = some o → (j ≠ k ∧ O[j]? = some o) ∨ (j = k ∧ o = ob') := fun j o h => by
    by_cases e : j = k
    · subst e; rw [List.getElem?_set_self hlt] at h; exact .inr ⟨rfl, (Option.some.inj h).symm⟩
    · rw [List.getElem?_set_ne (Ne.symm e)] at h; exact .inl ⟨e, h⟩
  have dm : ∀ a o, H a = some o → ∃ o', upd H (ρ k) u a = some o' := fun a o h => by
    by_cases z : a = ρ k
    · subst z; exact ⟨u, upd_same⟩
    · exact ⟨o, by rw [upd_ne z]; exact h⟩
  refine ⟨⟨fun a o h => ?_, fun j o h => ?_, fun j o h hd' => ?_, fun i j a b h1 h2 d1 d2 e => ?_, fun j hj => let ⟨o, h⟩ := wd.th j (by omega); dm _ o h⟩, by omega, .refl _, fun _ _ => rfl, fun j h1 h2 => absurd (Nat.lt_of_lt_of_le h2 (by omega)) (Nat.not_lt_of_le h1), fun a o h => ?_, fun a o h hne => ?_, fun a o h hs _ => hs⟩
  · rw [upd_ne (fun z => by rw [z, nS] at h; cases h)]; exact wd.sub a o h
  · rcases cs j o h with ⟨hj, h⟩ | ⟨rfl, rfl⟩
    · rw [len]
      cases o with
      | dead => exact .dead
      | _ => exact (wd.own j _ h).at fun u q => by rw [upd_ne (fun z => hj (wd.inj j k _ ob h hk (by simp) hd z))]; exact q
    · rw [len]; exact hb
  · rcases cs j o h with ⟨hj, h⟩ | ⟨rfl, rfl⟩
    · exact wd.sep j o h hd'
    · exact nS
  · rcases cs i a h1 with ⟨hi, g1⟩ | ⟨ei, ea⟩ <;> rcases cs j b h2 with ⟨hj, g2⟩ | ⟨ej, eb⟩
    · exact wd.inj i j a b g1 g2 d1 d2 e
    · rw [ej] at e ⊢; exact wd.inj i k a ob g1 hk d1 hd e
    · rw [ei] at e ⊢; exact wd.inj k j ob b hk g2 hd d2 e
    · rw [ei, ej]
  · by_cases z : a = ρ k
    · subst z; exact ⟨u, upd_same⟩
    · exact ⟨o, by rw [upd_ne z]; exact h⟩
  · rw [upd_ne (Ne.symm (hne k hlt))]; exact h
end
end UZ
/-! UZ, part B: readings over data; expressions. -/
namespace UZ
open PySem PySem.Spec PyProof.Rows L2

abbrev Gm := List (Option W)
/-- an exception: of the class at C, without fields of its own, or with them -/
inductive Xc where
  | plain (x : Str) | fld (x : Str) (fs : List (Str × PyData))
def RelS (K : PySem.W.Frag) (S : Hp) (ρ : Nat → Addr) (n : Nat) (σ : L2.St) (Γ : Gm) : Prop :=
  σ.length = Γ.length ∧ ∀ (i : Nat) (w : W), Γ[i]? = some (some w) → ∃ v, σ[i]? = some (some v) ∧ RelW K S ρ n v w
inductive RelX (K : PySem.W.Frag) (S : Hp) (ρ : Nat → Addr) (n : Nat) (H : Hp) : Value → Option Addr → Xc → Prop
  | plain {C : Addr} {x : Str} : ClsN K x C → RelX K S ρ n H (.ref C) none (.plain x)
  | fld {C a : Addr} {x : Str} {vs : List (Str × V)} {ws : List (Str × PyData)} : ClsN K x C → S a = some (.xd vs) → RepF K S vs ws → RelX K S ρ n H (.ref C) (some a) (.fld x ws)
abbrev DQ := W → List Ob → Prop
abbrev DX := Xc → List Ob → Prop
abbrev DE := Gm → List Ob → DQ → DX → Prop
abbrev DA := Gm → List Ob → (List W → List Ob → Prop) → DX → Prop
abbrev DT := Gm → List Ob → (Bool → List Ob → Prop) → DX → Prop
section
variable (K : PySem.W.Frag) (S : Hp) (ρ : Nat → Addr) (n : Nat) (H : Hp)
def KE (Q' : DQ) (Q : VK) : Prop := ∀ w O' S' ρ' v H', Ext S ρ n H S' ρ' O'.length H' → Wd K S' ρ' O' H' → RelW K S' ρ' O'.length v w → Q' w O' → Q v H'
def KT (Q' : Bool → List Ob → Prop) (Q : Bool → Hp → Prop) : Prop := ∀ b O' S' ρ' H', Ext S ρ n H S' ρ' O'.length H' → Wd K S' ρ' O' H' → Q' b O' → Q b H'
def KA (Q' : List W → List Ob → Prop) (Q : List V → Hp → Prop) : Prop := ∀ ws O' S' ρ' vs H', Ext S ρ n H S' ρ' O'.length H' → Wd K S' ρ' O' H' → RelWs K S' ρ' O'.length vs ws → Q' ws O' → Q vs H'
def KX (σ : L2.St) (E' : DX) (Wx : WX) : Prop := ∀ x O' S' ρ' cls dd H', Ext S ρ n H S' ρ' O'.length H' → Wd K S' ρ' O' H' → RelX K S' ρ' O'.length H' cls dd x → E' x O' → Wx cls dd σ H'
/-- the state over data -/
structure At (O : List Ob) (σ : L2.St) (Γ : Gm) : Prop where
  wd : Wd K S ρ O H
  rs : RelS K S ρ O.length σ Γ
end
section
variable {K : PySem.W.Frag} {S S1 : Hp} {ρ ρ1 : Nat → Addr} {n n1 : Nat} {H H1 : Hp} {O O1 : List Ob} {σ : L2.St} {Γ : Gm} {Wx : WX}
theorem RelS.ext (h : RelS K S ρ n σ Γ) (x : Ext S ρ n H S1 ρ1 n1 H1) : RelS K S1 ρ1 n1 σ Γ := ⟨h.1, fun i w e => let ⟨v, q, r⟩ := h.2 i w e; ⟨v, q, r.ext x⟩⟩
theorem At.ext (h : At K S ρ H O σ Γ) (x : Ext S ρ O.length H S1 ρ1 O1.length H1) (wd : Wd K S1 ρ1 O1 H1) : At K S1 ρ1 H1 O1 σ Γ := ⟨wd, h.rs.ext x⟩
theorem KE.ext {Q' : DQ} {Q : VK} (k : KE K S ρ n H Q' Q) (x : Ext S ρ n H S1 ρ1 n1 H1) : KE K S1 ρ1 n1 H1 Q' Q := fun w O' S' ρ' v H' y => k w O' S' ρ' v H' (x.trans y)
theorem KT.ext {Q' : Bool → List Ob → Prop} {Q : Bool → Hp → Prop} (k : KT K S ρ n H Q' Q) (x : Ext S ρ n H S1 ρ1 n1 H1) : KT K S1 ρ1 n1 H1 Q' Q := fun w O' S' ρ' H' y => k w O' S' ρ' H' (x.trans y)
theorem KA.ext {Q' : List W → List Ob → Prop} {Q : List V → Hp → Prop} (k : KA K S ρ n H Q' Q) (x : Ext S ρ n H S1 ρ1 n1 H1) : KA K S1 ρ1 n1 H1 Q' Q := fun w O' S' ρ' v H' y => k w O' S' ρ' v H' (x.trans y)
theorem KX.ext {E' : DX} (k : KX K S ρ n H σ E' Wx) (x : Ext S ρ n H S1 ρ1 n1 H1) : KX K S1 ρ1 n1 H1 σ E' Wx := fun e O' S' ρ' c d H' y => k e O' S' ρ' c d H' (x.trans y)
end
def iE (K : PySem.W.Frag) (Wx : WX) (t : DE) : TE := fun σ H Q => ∃ Γ O S ρ Q' E', At K S ρ H O σ Γ ∧ t Γ O Q' E' ∧ KE K S ρ O.length H Q' Q ∧ KX K S ρ O.length H σ E' Wx
def iT (K : PySem.W.Frag) (Wx : WX) (t : DT) : TT := fun σ H Q => ∃ Γ O S ρ Q' E', At K S ρ H O σ Γ ∧ t Γ O Q' E' ∧ KT K S ρ O.length H Q' Q ∧ KX K S ρ O.length H σ E' Wx
def iA (K : PySem.W.Frag) (Wx : WX) (t : DA) : TA := fun σ H Q => ∃ Γ O S ρ Q' E', At K S ρ H O σ Γ ∧ t Γ O Q' E' ∧ KA K S ρ O.length H Q' Q ∧ KX K S ρ O.length H σ E' Wx
abbrev PDE (X : Cx) (Wx : WX) (e : Expr) (t : DE) : Prop := PE X e (iE X.K Wx t)
abbrev PDT (X : Cx) (Wx : WX) (e : Expr) (t : DT) : Prop := PT X e (iT X.K Wx t)
abbrev PDW (X : Cx) (Wx : WX) (e : Expr) (t : DT) : Prop := PW X e (iT X.K Wx t)
abbrev PDA (X : Cx) (Wx : WX) (es : List Expr) (t : DA) : Prop := PA X es (iA X.K Wx t)

theorem _root_.L2.PE.imp {X : Cx} {e : Expr} {t t' : TE} (h : PE X e t) (i : ∀ σ H Q, t' σ H Q → t σ H Q) : PE X e t' := ⟨fun pins s σ H Q I q => h.run pins s σ H Q I (i σ H Q q)⟩
theorem _root_.L2.PT.imp {X : Cx} {e : Expr} {t t' : TT} (h : PT X e t) (i : ∀ σ H Q, t' σ H Q → t σ H Q) : PT X e t' := ⟨fun pins s σ H Q I q => h.run pins s σ H Q I (i σ H Q q)⟩
theorem _root_.L2.PW.imp {X : Cx} {e : Expr} {t t' : TT} (h : PW X e t) (i : ∀ σ H Q, t' σ H Q → t σ H Q) : PW X e t' := ⟨fun wh pins s σ H Q I q => h.run wh pins s σ H Q I (i σ H Q q)⟩
theorem _root_.L2.PA.imp {X : Cx} {e : List Expr} {t t' : TA} (h : PA X e t) (i : ∀ σ H Q, t' σ H Q → t σ H Q) : PA X e t' := ⟨fun pos pins s σ H Q I q => h.run pos pins s σ H Q I (i σ H Q q)⟩

/-! ### names, constants -/
def dV (i : Nat) : DE := fun Γ O Q _ => match Γ[i]? with
  | some (some w) => Q w O
  | _ => False
def dC (x : PyData) : DE := fun _ O Q _ => Q (.d x) O
def dCw (w : W) : DE := fun _ O Q _ => Q w O
section
variable {X : Cx} {Wx : WX} {e a b : Expr} {pos : Pos}
theorem d_v (i : Nat) {x : Str} (hN : X.N[i]? = some x := by rfl) (hv : Vis X.env.scope x := by first | exact Or.inl rfl | exact Or.inr (Or.inl rfl) | exact Or.inr (Or.inr rfl)) (hd : (x == ("__debug__" : Str)) = false := by decide)
    (hcd : (x == ("__classdict__" : Str)) = false := by decide) : PDE X Wx (.Name x pos) (dV i) :=
  (pe_var hN hv hd hcd).imp fun σ H Q ⟨Γ, O, S, ρ, Q', E', st, h, kq, _⟩ => by
    unfold dV at h
    split at h
    · rename_i w e
      obtain ⟨v, e1, r⟩ := st.rs.2 i w e
      exact ⟨v, e1, kq w O S ρ v H .refl st.wd r h⟩
    · exact h.elim
theorem d_c {v : V} {x : PyData} (h : PE X e (tC v)) (hr : ∀ S, Rep X.K S v x) : PDE X Wx e (dC x) :=
  h.imp fun σ H Q ⟨Γ, O, S, ρ, Q', E', st, h, kq, _⟩ => kq _ O S ρ v H .refl st.wd (.d (hr S)) h
theorem d_int {i : Int} {j} : PDE X Wx (.Constant (.int i) j pos) (dC (.int i)) := d_c pe_int fun _ => .int i
theorem d_bl {i : Bool} {j} : PDE X Wx (.Constant (.bool i) j pos) (dC (.bool i)) := d_c pe_bl fun _ => .bl i
theorem d_str {i : Str} {j} : PDE X Wx (.Constant (.str i) j pos) (dC (.str i)) := d_c pe_str fun _ => .str i
theorem d_non {j} : PDE X Wx (.Constant .none j pos) (dC .none) := d_c pe_non fun _ => .non

/-! ### operators -/
abbrev F2 := W → W → List Ob → DQ → Prop
def rD (K : PySem.W.Frag) (f : F2) : R2 := fun x y H Q => ∃ wx wy O S ρ Q', Wd K S ρ O H ∧ RelW K S ρ O.length x wx ∧ RelW K S ρ O.length y wy ∧ f wx wy O Q' ∧ KE K S ρ O.length H Q' Q
def OpD (X : Cx) (g : Value → Value → Sem Value) (f : F2) : Prop := OpR X g (rD X.K f)
theorem _root_.L2.OpR.imp {g : Value → Value → Sem Value} {r r' : R2} (h : OpR X g r) (i : ∀ x y H Q, r' x y H Q → r x y H Q) : OpR X g r' := fun pins s σ H x y v u Q I r1 r2 q => h pins s σ H x y v u Q I r1 r2 (i x y H Q q)
def dOp (f : F2) (ta tb : DE) : DE := fun Γ O Q E => ta Γ O (fun x O1 => tb Γ O1 (fun y O2 => f x y O2 Q) E) E
theorem op_read {f : F2} {ta tb : DE} {σ : L2.St} {H : Hp} {Q : VK} (q : iE X.K Wx (dOp f ta tb) σ H Q) : tOp (rD X.K f) (iE X.K Wx ta) (iE X.K Wx tb) σ H Q := by
  obtain ⟨Γ, O, S, ρ, Q', E', st, h, kq, kx⟩ := q
  refine ⟨Γ, O, S, ρ, _, E', st, h, fun w1 O1 S1 ρ1 v1 H1 x1 wd1 r1 h1 => ?_, kx⟩
  refine ⟨Γ, O1, S1, ρ1, _, E', st.ext x1 wd1, h1, fun w2 O2 S2 ρ2 v2 H2 x2 wd2 r2 h2 => ?_, kx.ext x1⟩
  exact ⟨w1, w2, O2, S2, ρ2, Q', wd2, r1.ext x2, r2, h2, kq.ext (x1.trans x2)⟩
theorem d_op {op : Operator} {f : F2} {ta tb : DE} (ho : OpD X (binaryOp op) f) (ha : PDE X Wx a ta) (hb : PDE X Wx b tb) : PDE X Wx (.BinOp a op b pos) (dOp f ta tb) := (pe_op ho ha hb).imp fun _ _ _ q => op_read q
theorem d_cmp {op : CmpOp} {f : F2} {ta tb : DE} (ho : OpD X (compareOp op) f) (ha : PDE X Wx a ta) (hb : PDE X Wx b tb) (hm : behindInMarks op b = false := by first | exact nomark _ | rfl) : PDE X Wx (.Compare a [op] [b] pos) (dOp f ta tb) := (pe_cmpR ho ha hb hm).imp fun _ _ _ q => op_read q
abbrev F1 := W → List Ob → DQ → Prop
def rU1 (K : PySem.W.Frag) (f : F1) : V → Hp → VK → Prop := fun x H Q => ∃ wx O S ρ Q', Wd K S ρ O H ∧ RelW K S ρ O.length x wx ∧ f wx O Q' ∧ KE K S ρ O.length H Q' Q
def dUn (f : F1) (ta : DE) : DE := fun Γ O Q E => ta Γ O (fun x O1 => f x O1 Q) E
def UnD (X : Cx) (g : Value → Sem Value) (f : F1) : Prop := UnR X g (rU1 X.K f)
theorem _root_.L2.UnR.imp {g : Value → Sem Value} {r r' : V → Hp → VK → Prop} (h : UnR X g r) (i : ∀ x H Q, r' x H Q → r x H Q) : UnR X g r' := fun pins s σ H x v Q I r1 q => h pins s σ H x v Q I r1 (i x H Q q)
theorem d_un {op : UnaryOp} {f : F1} {ta : DE} (ho : UnD X (unaryOp op) f) (ha : PDE X Wx a ta) : PDE X Wx (.UnaryOp op a pos) (dUn f ta) :=
  (pe_un ho ha).imp fun σ H Q ⟨Γ, O, S, ρ, Q', E', st, h, kq, kx⟩ => ⟨Γ, O, S, ρ, _, E', st, h, fun w1 O1 S1 ρ1 v1 H1 x1 wd1 r1 h1 => ⟨w1, O1, S1, ρ1, Q', wd1, r1, h1, kq.ext x1⟩, kx⟩

/-! ### tests -/
def onB (Q : Bool → List Ob → Prop) : DQ := fun w O => match w with
  | .d (.bool b) => Q b O
  | _ => False
def dTst (t : DE) : DT := fun Γ O Q E => t Γ O (onB Q) E
theorem onB_inv {K : PySem.W.Frag} {S : Hp} {ρ : Nat → Addr} {n : Nat} {Q : Bool → List Ob → Prop} {w : W} {O : List Ob} {v : V} (h : onB Q w O) (r : RelW K S ρ n v w) : ∃ b, w = .d (.bool b) ∧ v = .bl b ∧ Q b O := by
  unfold onB at h
  split at h
  · cases r with
    | d r => cases r; exact ⟨_, rfl, rfl, h⟩
  · exact h.elim
theorem tst_read {t : DE} {σ : L2.St} {H : Hp} {Q : Bool → Hp → Prop} (q : iT X.K Wx (dTst t) σ H Q) : tB (iE X.K Wx t) σ H Q := by
  obtain ⟨Γ, O, S, ρ, Q', E', st, h, kq, kx⟩ := q
  refine ⟨Γ, O, S, ρ, _, E', st, h, fun w1 O1 S1 ρ1 v1 H1 x1 wd1 r1 h1 => ?_, kx⟩
  obtain ⟨b, rfl, rfl, h1⟩ := onB_inv h1 r1
  exact ⟨b, rfl, kq b O1 S1 ρ1 H1 x1 wd1 h1⟩
theorem d_tst {t : DE} (h : PDE X Wx e t) (he : ∀ whole, isTrue e X.env whole = (do let v ← whole; standAt e.pos; holding [v] (truthy v)) := by intro _; rfl) : PDT X Wx e (dTst t) := (pt_val h he).imp fun _ _ _ q => tst_read q
theorem d_tcmp {op : CmpOp} {f : F2} {ta tb : DE} (ho : OpD X (compareOp op) f) (ha : PDE X Wx a ta) (hb : PDE X Wx b tb) (hm : behindInMarks op b = false := by first | exact nomark _ | rfl) : PDT X Wx (.Compare a [op] [b] pos) (dTst (dOp f ta tb)) :=
  (pt_cmpR ho ha hb hm).imp fun σ H Q ⟨Γ, O, S, ρ, Q', E', st, h, kq, kx⟩ => op_read (Wx := Wx) ⟨Γ, O, S, ρ, _, E', st, h, fun w1 O1 S1 ρ1 v1 H1 x1 wd1 r1 h1 => by
    obtain ⟨b, rfl, rfl, h1⟩ := onB_inv h1 r1
    exact ⟨b, rfl, kq b O1 S1 ρ1 H1 x1 wd1 h1⟩, kx⟩
def dNotT (t : DT) : DT := fun Γ O Q E => t Γ O (fun b O1 => Q (!b) O1) E
theorem d_not {t : DT} (h : PDT X Wx a t) : PDT X Wx (.UnaryOp .Not a pos) (dNotT t) :=
  (pt_not h).imp fun σ H Q ⟨Γ, O, S, ρ, Q', E', st, h, kq, kx⟩ => ⟨Γ, O, S, ρ, _, E', st, h, fun b O1 S1 ρ1 H1 x1 wd1 h1 => kq _ O1 S1 ρ1 H1 x1 wd1 h1, kx⟩
def dAndT (t u : DT) : DT := fun Γ O Q E => t Γ O (fun b O1 => if b = true then u Γ O1 Q E else Q false O1) E
def dOrT (t u : DT) : DT := fun Γ O Q E => t Γ O (fun b O1 => if b = true then Q true O1 else u Γ O1 Q E) E
variable {rest : List Expr}
theorem d_and1 {t : DT} (h : PDT X Wx a t) : PDW X Wx (.BoolOp .And [a] pos) t := pw_and1 h
theorem d_or1 {t : DT} (h : PDT X Wx a t) : PDW X Wx (.BoolOp .Or [a] pos) t := pw_or1 h
theorem d_and {t u : DT} (ha : PDT X Wx a t) (hb : PDW X Wx (.BoolOp .And (b :: rest) pos) u) : PDW X Wx (.BoolOp .And (a :: b :: rest) pos) (dAndT t u) :=
  L2.PW.imp (pw_and ha hb) fun σ H Q ⟨Γ, O, S, ρ, Q', E', st, h, kq, kx⟩ => ⟨Γ, O, S, ρ, _, E', st, h, fun b O1 S1 ρ1 H1 x1 wd1 h1 => by
    cases b with
    | false => rw [if_neg (by decide)] at h1 ⊢; exact kq _ O1 S1 ρ1 H1 x1 wd1 h1
    | true => rw [if_pos rfl] at h1 ⊢; exact ⟨Γ, O1, S1, ρ1, Q', E', st.ext x1 wd1, h1, kq.ext x1, kx.ext x1⟩, kx⟩
theorem d_or {t u : DT} (ha : PDT X Wx a t) (hb : PDW X Wx (.BoolOp .Or (b :: rest) pos) u) : PDW X Wx (.BoolOp .Or (a :: b :: rest) pos) (dOrT t u) :=
  L2.PW.imp (pw_or ha hb) fun σ H Q ⟨Γ, O, S, ρ, Q', E', st, h, kq, kx⟩ => ⟨Γ, O, S, ρ, _, E', st, h, fun b O1 S1 ρ1 H1 x1 wd1 h1 => by
    cases b with
    | true => rw [if_pos rfl] at h1 ⊢; exact kq _ O1 S1 ρ1 H1 x1 wd1 h1
    | false => rw [if_neg (by decide)] at h1 ⊢; exact ⟨Γ, O1, S1, ρ1, Q', E', st.ext x1 wd1, h1, kq.ext x1, kx.ext x1⟩, kx⟩
theorem d_w {t : DT} (h : PDW X Wx e t) : PDT X Wx e t := PW.pt h
/-- and, or, not as values (truth values alone) -/
def dAndV (ta tb : DE) : DE := fun Γ O Q E => ta Γ O (onB fun b O1 => if b = true then tb Γ O1 Q E else Q (.d (.bool false)) O1) E
def dOrV (ta tb : DE) : DE := fun Γ O Q E => ta Γ O (onB fun b O1 => if b = true then Q (.d (.bool true)) O1 else tb Γ O1 Q E) E
def dNotV (ta : DE) : DE := fun Γ O Q E => ta Γ O (onB fun b O1 => Q (.d (.bool !b)) O1) E
theorem d_oneV {op} {t : DE} (h : PDE X Wx a t) : PDE X Wx (.BoolOp op [a] pos) t := pe_one h
theorem d_andV {ta tb : DE} (ha : PDE X Wx a ta) (hb : PDE X Wx (.BoolOp .And (b :: rest) pos) tb) : PDE X Wx (.BoolOp .And (a :: b :: rest) pos) (dAndV ta tb) :=
  (pe_and ha hb).imp fun σ H Q ⟨Γ, O, S, ρ, Q', E', st, h, kq, kx⟩ => ⟨Γ, O, S, ρ, _, E', st, h, fun w1 O1 S1 ρ1 v1 H1 x1 wd1 r1 h1 => by
    obtain ⟨b, rfl, rfl, h1⟩ := onB_inv h1 r1
    refine ⟨b, rfl, ?_⟩
    cases b with
    | false => rw [if_neg (by decide)] at h1 ⊢; exact kq _ O1 S1 ρ1 _ H1 x1 wd1 (.d (.bl false)) h1
    | true => rw [if_pos rfl] at h1 ⊢; exact ⟨Γ, O1, S1, ρ1, Q', E', st.ext x1 wd1, h1, kq.ext x1, kx.ext x1⟩, kx⟩
theorem d_orV {ta tb : DE} (ha : PDE X Wx a ta) (hb : PDE X Wx (.BoolOp .Or (b :: rest) pos) tb) : PDE X Wx (.BoolOp .Or (a :: b :: rest) pos) (dOrV ta tb) :=
  (pe_or ha hb).imp fun σ H Q ⟨Γ, O, S, ρ, Q', E', st, h, kq, kx⟩ => ⟨Γ, O, S, ρ, _, E', st, h, fun w1 O1 S1 ρ1 v1 H1 x1 wd1 r1 h1 => by
    obtain ⟨b, rfl, rfl, h1⟩ := onB_inv h1 r1
    refine ⟨b, rfl, ?_⟩
    cases b with
    | true => rw [if_pos rfl] at h1 ⊢; exact kq _ O1 S1 ρ1 _ H1 x1 wd1 (.d (.bl true)) h1
    | false => rw [if_neg (by decide)] at h1 ⊢; exact ⟨Γ, O1, S1, ρ1, Q', E', st.ext x1 wd1, h1, kq.ext x1, kx.ext x1⟩, kx⟩
theorem d_notV {ta : DE} (ha : PDE X Wx a ta) : PDE X Wx (.UnaryOp .Not a pos) (dNotV ta) :=
  (pe_not ha).imp fun σ H Q ⟨Γ, O, S, ρ, Q', E', st, h, kq, kx⟩ => ⟨Γ, O, S, ρ, _, E', st, h, fun w1 O1 S1 ρ1 v1 H1 x1 wd1 r1 h1 => by
    obtain ⟨b, rfl, rfl, h1⟩ := onB_inv h1 r1
    exact ⟨b, rfl, kq _ O1 S1 ρ1 _ H1 x1 wd1 (.d (.bl _)) h1⟩, kx⟩
def dIfE (t : DT) (ta tb : DE) : DE := fun Γ O Q E => t Γ O (fun b O1 => if b = true then ta Γ O1 Q E else tb Γ O1 Q E) E
theorem d_ifE {c : Expr} {t : DT} {ta tb : DE} (hc : PDT X Wx c t) (ha : PDE X Wx a ta) (hb : PDE X Wx b tb) : PDE X Wx (.IfExp c a b pos) (dIfE t ta tb) :=
  (pe_ifExp hc ha hb).imp fun σ H Q ⟨Γ, O, S, ρ, Q', E', st, h, kq, kx⟩ => ⟨Γ, O, S, ρ, _, E', st, h, fun b O1 S1 ρ1 H1 x1 wd1 h1 => by
    cases b with
    | true => rw [if_pos rfl] at h1 ⊢; exact ⟨Γ, O1, S1, ρ1, Q', E', st.ext x1 wd1, h1, kq.ext x1, kx.ext x1⟩
    | false => rw [if_neg (by decide)] at h1 ⊢; exact ⟨Γ, O1, S1, ρ1, Q', E', st.ext x1 wd1, h1, kq.ext x1, kx.ext x1⟩, kx⟩
/-- a < b < c -/
def dChain (f g : F2) (ta tb tc : DE) : DE := fun Γ O Q E => ta Γ O (fun x O1 => tb Γ O1 (fun y O2 => f x y O2 (onB fun b O3 => if b = true then tc Γ O3 (fun u O4 => g y u O4 Q) E else Q (.d (.bool false)) O3)) E) E
theorem chain_read {f g : F2} {ta tb tc : DE} {σ : L2.St} {H : Hp} {Q : VK} (q : iE X.K Wx (dChain f g ta tb tc) σ H Q) : tChain (rD X.K f) (rD X.K g) (iE X.K Wx ta) (iE X.K Wx tb) (iE X.K Wx tc) σ H Q := by
    obtain ⟨Γ, O, S, ρ, Q', E', st, h, kq, kx⟩ := q
    refine ⟨Γ, O, S, ρ, _, E', st, h, fun w1 O1 S1 ρ1 v1 H1 x1 wd1 r1 h1 => ?_, kx⟩
    refine ⟨Γ, O1, S1, ρ1, _, E', st.ext x1 wd1, h1, fun w2 O2 S2 ρ2 v2 H2 x2 wd2 r2 h2 => ?_, kx.ext x1⟩
    refine ⟨w1, w2, O2, S2, ρ2, _, wd2, r1.ext x2, r2, h2, fun w3 O3 S3 ρ3 v3 H3 x3 wd3 r3 h3 => ?_⟩
    have x23 := x2.trans x3
    have x13 := x1.trans x23
    obtain ⟨b, rfl, rfl, h3⟩ := onB_inv h3 r3
    refine ⟨b, rfl, ?_⟩
    cases b with
    | true =>
      rw [if_pos rfl] at h3 ⊢
      refine ⟨Γ, O3, S3, ρ3, _, E', st.ext x13 wd3, h3, fun w4 O4 S4 ρ4 v4 H4 x4 wd4 r4 h4 => ?_, kx.ext x13⟩
      exact ⟨w2, w4, O4, S4, ρ4, Q', wd4, (r2.ext x3).ext x4, r4, h4, kq.ext (x13.trans x4)⟩
    | false =>
      rw [if_neg (by decide)] at h3 ⊢
      exact kq _ O3 S3 ρ3 _ H3 x13 wd3 (.d (.bl false)) h3
theorem d_chain {op op' : CmpOp} {f g : F2} {c : Expr} {ta tb tc : DE} (ho : OpD X (compareOp op) f) (ho' : OpD X (compareOp op') g) (ha : PDE X Wx a ta) (hb : PDE X Wx b tb) (hc : PDE X Wx c tc)
    (hm : lastMarks [op, op'] [b, c] = false := by with_unfolding_all rfl) : PDE X Wx (.Compare a [op, op'] [b, c] pos) (dChain f g ta tb tc) := (pe_chain ho ho' ha hb hc hm).imp fun _ _ _ q => chain_read q
theorem d_tchain {op op' : CmpOp} {f g : F2} {c : Expr} {ta tb tc : DE} (ho : OpD X (compareOp op) f) (ho' : OpD X (compareOp op') g) (ha : PDE X Wx a ta) (hb : PDE X Wx b tb) (hc : PDE X Wx c tc)
    (hm : lastMarks [op, op'] [b, c] = false := by with_unfolding_all rfl) : PDT X Wx (.Compare a [op, op'] [b, c] pos) (dTst (dChain f g ta tb tc)) := (pt_chain ho ho' ha hb hc hm).imp fun σ H Q ⟨Γ, O, S, ρ, Q', E', st, h, kq, kx⟩ =>
  chain_read (Wx := Wx) ⟨Γ, O, S, ρ, _, E', st, h, fun w1 O1 S1 ρ1 v1 H1 x1 wd1 r1 h1 => by
    obtain ⟨b, rfl, rfl, h1⟩ := onB_inv h1 r1
    exact ⟨b, rfl, kq b O1 S1 ρ1 H1 x1 wd1 h1⟩, kx⟩
end
end UZ
/-! UZ, part C: operators, displays, indices, slices, calls. -/
namespace UZ
open PySem PySem.Spec PyProof.Rows L2

/-! ### views -/
def allD : List W → Option (List PyData)
  | [] => some []
  | .d x :: r => match allD r with
    | some xs => some (x :: xs)
    | none => none
  | _ :: _ => none
theorem allD_map : ∀ xs : List PyData, allD (xs.map .d) = some xs
  | [] => rfl
  | x :: xs => by show (match allD (xs.map .d) with | some xs => some (x :: xs) | none => none) = _; rw [allD_map xs]
theorem allD_eq : ∀ {ws : List W} {xs : List PyData}, allD ws = some xs → ws = xs.map .d
  | [], xs, h => by cases h; rfl
  | .d x :: r, xs, h => by
    unfold allD at h
    split at h
    · rename_i ys e
      cases h
      rw [allD_eq e]; rfl
    · cases h
  | .o _ :: _, _, h => by cases h
  | .tp _ :: _, _, h => by cases h
  | .rl _ :: _, _, h => by cases h
  | .v _ :: _, _, h => by cases h
  | .exc _ _ _ :: _, _, h => by cases h
  | .gl _ :: _, _, h => by cases h
  | .xv _ _ :: _, _, h => by cases h
/-- a new tuple -/
def mkT (ws : List W) : W := match allD ws with
  | some xs => .d (.tuple xs)
  | none => .tp ws
theorem mkT_map (xs : List PyData) : mkT (xs.map .d) = .d (.tuple xs) := by unfold mkT; rw [allD_map]
def tv : W → Option (List W)
  | .d (.tuple xs) => some (xs.map .d)
  | .tp ws => some ws
  | _ => none
/-- the items of a list: any one | one that stands tracked -/
def lv (O : List Ob) : W → Option (List W)
  | .d (.list xs) => some (xs.map .d)
  | .rl xs => some (xs.map .d)
  | .o k => match O[k]? with
    | some (.lst ws) => some ws
    | _ => none
  | _ => none
def lvS (O : List Ob) : W → Option (List W)
  | .d (.list xs) => some (xs.map .d)
  | .o k => match O[k]? with
    | some (.lst ws) => some ws
    | _ => none
  | _ => none
mutual
inductive Rs (O : List Ob) : W → PyData → Prop
  | d {x : PyData} : Rs O (.d x) x
  | o {k : Nat} {ws : List W} {xs : List PyData} : O[k]? = some (.lst ws) → RsL O ws xs → Rs O (.o k) (.list xs)
  | tp {ws : List W} {xs : List PyData} : RsL O ws xs → Rs O (.tp ws) (.tuple xs)
inductive RsL (O : List Ob) : List W → List PyData → Prop
  | nil : RsL O [] []
  | cons {w : W} {ws : List W} {x : PyData} {xs : List PyData} : Rs O w x → RsL O ws xs → RsL O (w :: ws) (x :: xs)
end
theorem RsL.map {O : List Ob} : ∀ xs : List PyData, RsL O (xs.map .d) xs
  | [] => .nil
  | _ :: xs => .cons .d (RsL.map xs)
section
variable {K : PySem.W.Frag} {S : Hp} {ρ : Nat → Addr} {H : Hp} {O : List Ob} {v : V} {w : W} {ws : List W} {n : Nat}
theorem tv_inv (h : tv w = some ws) (r : RelW K S ρ n v w) : ∃ a vs, v = .ref a ∧ SqT K S a vs ∧ RelWs K S ρ n vs ws := by
  unfold tv at h
  split at h
  · cases h
    cases r with
    | d r =>
      cases r with
      | tup h r => exact ⟨_, _, rfl, h, r.relWs⟩
  · cases h
    cases r with
    | tp h r => exact ⟨_, _, rfl, .of h, r⟩
  · cases h
theorem lvS_inv (wd : Wd K S ρ O H) (h : lvS O w = some ws) (r : RelW K S ρ O.length v w) : ∃ a vs, v = .ref a ∧ H a = some (.lst vs) ∧ RelWs K S ρ O.length vs ws := by
  unfold lvS at h
  split at h
  · cases h
    cases r with
    | d r =>
      cases r with
      | lst h r => exact ⟨_, _, rfl, wd.sub _ _ h, r.relWs⟩
  · rename_i k
    split at h
    · rename_i ws' e
      cases h
      cases r with
      | o _ q =>
        subst q
        cases wd.own k _ e with
        | lst h r => exact ⟨_, _, rfl, h, r⟩
    · cases h
  · cases h
theorem lv_inv (wd : Wd K S ρ O H) (h : lv O w = some ws) (r : RelW K S ρ O.length v w) : ∃ a vs, v = .ref a ∧ SqL K H a vs ∧ RelWs K S ρ O.length vs ws := by
  by_cases e : lvS O w = some ws
  · obtain ⟨a, vs, h1, h2, h3⟩ := lvS_inv wd e r
    exact ⟨a, vs, h1, .of h2, h3⟩
  · cases w with
    | rl xs =>
      cases h
      cases r with
      | rl h r => exact ⟨_, _, rfl, SubH.sqL wd.sub h, r.relWs⟩
    | d x => cases x <;> first | exact absurd h e | cases h
    | o k => exact absurd h e
    | tp _ => cases h
    | v _ => cases h
    | exc _ _ _ => cases h
    | gl _ => cases h
    | xv _ _ => cases h
mutual
theorem Rs.rep (wd : Wd K S ρ O H) : ∀ {v : V} {w : W} {x : PyData}, Rs O w x → RelW K S ρ O.length v w → Rep K H v x
  | _, _, _, .d, r => by cases r with | d r => exact r.sub wd.sub
  | _, _, _, .o e q, r => by
    cases r with
    | o _ z =>
      subst z
      cases wd.own _ _ e with
      | lst h r => exact .lst h (RsL.rep wd q r)
  | _, _, _, .tp q, r => by cases r with | tp h r => exact .tup (.of (wd.sub _ _ h)) (RsL.rep wd q r)
theorem RsL.rep (wd : Wd K S ρ O H) : ∀ {v : List V} {w : List W} {x : List PyData}, RsL O w x → RelWs K S ρ O.length v w → RepL K H v x
  | _, _, _, .nil, r => by cases r; exact .nil
  | _, _, _, .cons h q, r => by cases r with | cons r t => exact .cons (Rs.rep wd h r) (RsL.rep wd q t)
end
theorem mkT_rel {a : Addr} {vs : List V} (h : S a = some (.tup vs)) (r : RelWs K S ρ n vs ws) : RelW K S ρ n (.ref a) (mkT ws) := by
  unfold mkT
  split
  · rename_i xs e
    rw [allD_eq e] at r
    exact .d (.tup (.of h) r.repL)
  · exact .tp h r
theorem mkT_tv (ws : List W) : tv (mkT ws) = some ws := by
  unfold mkT
  split
  · rename_i xs e
    rw [allD_eq e]; rfl
  · rfl
theorem KE.newT {Q' : DQ} {Q : VK} {p : Addr} {vs : List V} (kq : KE K S ρ O.length H Q' Q) (wd : Wd K S ρ O H) (np : H p = none) (r : RelWs K S ρ O.length vs ws) (h : Q' (mkT ws) O) : Q (.ref p) (upd H p (.tup vs)) := by
  obtain ⟨w1, x1⟩ := wd.lay (u := .tup vs) np
  exact kq _ O _ ρ _ _ x1 w1 (mkT_rel upd_same (r.ext x1)) h
theorem KE.newL {Q' : DQ} {Q : VK} {p : Addr} {vs : List V} {xs : List PyData} (kq : KE K S ρ O.length H Q' Q) (wd : Wd K S ρ O H) (np : H p = none) (r : RelWs K S ρ O.length vs ws) (e : allD ws = some xs) (h : Q' (.d (.list xs)) O) : Q (.ref p) (upd H p (.lst vs)) := by
  obtain ⟨w1, x1⟩ := wd.lay (u := .lst vs) np
  rw [allD_eq e] at r
  exact kq _ O _ ρ _ _ x1 w1 (.d (.lst upd_same (r.ext x1).repL)) h
theorem KE.newO {Q' : DQ} {Q : VK} {p : Addr} {vs : List V} (kq : KE K S ρ O.length H Q' Q) (wd : Wd K S ρ O H) (np : H p = none) (r : RelWs K S ρ O.length vs ws) (h : Q' (.o O.length) (O ++ [.lst ws])) : Q (.ref p) (upd H p (.lst vs)) := by
  obtain ⟨w1, x1⟩ := wd.push (u := .lst vs) np (.lst upd_same r)
  exact kq _ _ _ _ _ _ x1 w1 (.o (by simp) (by rw [rhoP_eq])) h
theorem KE.back {Q' : DQ} {Q : VK} (kq : KE K S ρ O.length H Q' Q) (wd : Wd K S ρ O H) (r : RelW K S ρ O.length v w) (h : Q' w O) : Q v H := kq w O S ρ v H .refl wd r h
/-- a changed list -/
theorem KE.put {Q' : DQ} {Q : VK} {k : Nat} {ob : Ob} {vs : List V} {y : V} {wy : W} (kq : KE K S ρ O.length H Q' Q) (wd : Wd K S ρ O H) (hk : O[k]? = some ob) (hd : ob ≠ .dead) (r : RelWs K S ρ O.length vs ws) (ry : RelW K S ρ O.length y wy) (h : Q' wy (O.set k (.lst ws))) : Q y (upd H (ρ k) (.lst vs)) := by
  obtain ⟨w1, x1⟩ := wd.write (u := .lst vs) (ob' := .lst ws) hk hd (.lst upd_same r)
  exact kq _ _ _ _ _ _ x1 w1 (ry.ext x1) h
end

/-! ### operators on ints, bools, texts -/
section
variable {X : Cx}
def fI (C : Int → Int → Prop) (g : Int → Int → PyData) : F2 := fun x y O Q => match x, y with
  | .d (.int i), .d (.int j) => C i j ∧ Q (.d (g i j)) O
  | _, _ => False
theorem fI_ok {f : Value → Value → Sem Value} {C : Int → Int → Prop} {g : Int → Int → PyData} {gV : Int → Int → V} (h : OpR X f (rI C gV)) (hr : ∀ i j S, Rep X.K S (gV i j) (g i j)) : OpD X f (fI C g) :=
  h.imp fun x y H Q ⟨wx, wy, O, S, ρ, Q', wd, r1, r2, q, kq⟩ => by
    unfold fI at q
    split at q
    · cases r1 with
      | d r1 =>
        cases r1
        cases r2 with
        | d r2 =>
          cases r2
          exact ⟨_, _, rfl, rfl, q.1, kq.back wd (.d (hr _ _ _)) q.2⟩
    · exact q.elim
def fI0 (g : Int → Int → PyData) : F2 := fun x y O Q => match x, y with
  | .d (.int i), .d (.int j) => Q (.d (g i j)) O
  | _, _ => False
theorem fI0_ok {f : Value → Value → Sem Value} {g : Int → Int → PyData} {gV : Int → Int → V} (h : OpR X f (rI0 gV)) (hr : ∀ i j S, Rep X.K S (gV i j) (g i j)) : OpD X f (fI0 g) :=
  h.imp fun x y H Q ⟨wx, wy, O, S, ρ, Q', wd, r1, r2, q, kq⟩ => by
    unfold fI0 at q
    split at q
    · cases r1 with
      | d r1 =>
        cases r1
        cases r2 with
        | d r2 =>
          cases r2
          exact ⟨_, _, rfl, rfl, kq.back wd (.d (hr _ _ _)) q⟩
    · exact q.elim
abbrev fAdd : F2 := fI0 fun i j => .int (i + j)
abbrev fSub : F2 := fI0 fun i j => .int (i - j)
abbrev fMul : F2 := fI (fun i j => CMul i j ∨ CMulW i j) fun i j => .int (i * j)
abbrev fDiv : F2 := fI CDivW fun i j => .int (i / j)
abbrev fMod : F2 := fI (fun _ j => 0 < j) fun i j => .int (i % j)
abbrev fPow : F2 := fI CPow fun i j => .int (i ^ j.toNat)
abbrev fLt : F2 := fI0 fun i j => .bool (decide (i < j))
abbrev fLe : F2 := fI0 fun i j => .bool (decide (i ≤ j))
abbrev fGt : F2 := fI0 fun i j => .bool (decide (j < i))
abbrev fGe : F2 := fI0 fun i j => .bool (decide (j ≤ i))
theorem o_add : OpD X (binaryOp .Add) fAdd := fI0_ok op_add fun _ _ _ => .int _
theorem o_sub : OpD X (binaryOp .Sub) fSub := fI0_ok op_sub fun _ _ _ => .int _
theorem o_mul : OpD X (binaryOp .Mult) fMul := fI_ok (opI fun _ _ _ _ _ _ _ hc q => mul_int q (hc.elim (·.ok) (·.ok))) fun _ _ _ => .int _
theorem o_div : OpD X (binaryOp .FloorDiv) fDiv := fI_ok op_fdivW fun _ _ _ => .int _
theorem o_mod : OpD X (binaryOp .Mod) fMod := fI_ok op_mod fun _ _ _ => .int _
theorem o_pow : OpD X (binaryOp .Pow) fPow := fI_ok op_pow fun _ _ _ => .int _
theorem o_lt : OpD X (compareOp .Lt) fLt := fI0_ok op_lt fun _ _ _ => .bl _
theorem o_le : OpD X (compareOp .LtE) fLe := fI0_ok op_le fun _ _ _ => .bl _
theorem o_gt : OpD X (compareOp .Gt) fGt := fI0_ok op_gt fun _ _ _ => .bl _
theorem o_ge : OpD X (compareOp .GtE) fGe := fI0_ok op_ge fun _ _ _ => .bl _
theorem o_iadd : OpD X (inplaceOp .Add) fAdd := fI0_ok iop_add fun _ _ _ => .int _
theorem o_isub : OpD X (inplaceOp .Sub) fSub := fI0_ok iop_sub fun _ _ _ => .int _
def fAddS : F2 := fun x y O Q => match x, y with
  | .d (.str i), .d (.str j) => i.length + j.length ≤ sizeLine ∧ Q (.d (.str (i ++ j))) O
  | _, _ => False
theorem o_addS : OpD X (binaryOp .Add) fAddS := (op_add_str (X := X)).imp fun x y H Q ⟨wx, wy, O, S, ρ, Q', wd, r1, r2, q, kq⟩ => by
  unfold fAddS at q
  split at q
  · cases r1 with
    | d r1 =>
      cases r1
      cases r2 with
      | d r2 =>
        cases r2
        exact ⟨_, _, rfl, rfl, q.1, kq.back wd (.d (.str _)) q.2⟩
  · exact q.elim
/-- == of scalars: ints with ints, texts with texts, None, a bool with a bool; texts or None beside ints -/
def eqS : PyData → PyData → Option Bool
  | .int i, .int j => some (decide (i = j))
  | .str i, .str j => some (decide (i = j))
  | .bool i, .bool j => some (decide (i = j))
  | .none, .none => some true
  | .none, .int _ => some false | .int _, .none => some false | .none, .str _ => some false | .str _, .none => some false | .none, .bool _ => some false | .bool _, .none => some false
  | .int _, .str _ => some false | .str _, .int _ => some false | .bool _, .str _ => some false | .str _, .bool _ => some false
  | _, _ => none
theorem eqS_scal {K : PySem.W.Frag} {S : Hp} {x y : V} {a b : PyData} {r : Bool} (e : eqS a b = some r) (h1 : Rep K S x a) (h2 : Rep K S y b) : scal x y = true ∧ decide (x = y) = r := by
  cases h1 <;> cases h2 <;> simp_all [eqS, scal]
def fEq : F2 := fun x y O Q => match x, y with
  | .d a, .d b => match eqS a b with
    | some r => Q (.d (.bool r)) O
    | none => False
  | _, _ => False
def fNe : F2 := fun x y O Q => match x, y with
  | .d a, .d b => match eqS a b with
    | some r => Q (.d (.bool !r)) O
    | none => False
  | _, _ => False
theorem o_eq : OpD X (compareOp .Eq) fEq := (op_eq (X := X)).imp fun x y H Q ⟨wx, wy, O, S, ρ, Q', wd, r1, r2, q, kq⟩ => by
  unfold fEq at q
  split at q
  · split at q
    · rename_i r e
      cases r1 with
      | d r1 =>
        cases r2 with
        | d r2 =>
          obtain ⟨h1, h2⟩ := eqS_scal e r1 r2
          exact ⟨h1, by rw [h2]; exact kq.back wd (.d (.bl _)) q⟩
    · exact q.elim
  · exact q.elim
theorem o_ne : OpD X (compareOp .NotEq) fNe := (op_ne (X := X)).imp fun x y H Q ⟨wx, wy, O, S, ρ, Q', wd, r1, r2, q, kq⟩ => by
  unfold fNe at q
  split at q
  · split at q
    · rename_i r e
      cases r1 with
      | d r1 =>
        cases r2 with
        | d r2 =>
          obtain ⟨h1, h2⟩ := eqS_scal e r1 r2
          exact ⟨h1, by rw [h2]; exact kq.back wd (.d (.bl _)) q⟩
    · exact q.elim
  · exact q.elim
/-- == of data of any depth, read through the objects -/
def okD (x : PyData) : Prop := x.plain = true ∧ x.depth ≤ 50
def fEqD : F2 := fun x y O Q => ∃ a b, Rs O x a ∧ Rs O y b ∧ okD a ∧ okD b ∧ Q (.d (.bool (PyData.eqv a b))) O
def fNeD : F2 := fun x y O Q => ∃ a b, Rs O x a ∧ Rs O y b ∧ okD a ∧ okD b ∧ Q (.d (.bool !(PyData.eqv a b))) O
theorem o_eqD (hu : X.A.units + 64 < cLine) : OpD X (compareOp .Eq) fEqD := by
  intro pins s σ H x y v u Q I rx ry ⟨wx, wy, O, S, ρ, Q', wd, r1, r2, ⟨a, b, s1, s2, o1, o2, q⟩, kq⟩
  obtain ⟨as, q1⟩ := Dp.reads I a x v ((s1.rep wd r1).dp o1.1) rx
  obtain ⟨bs, q2⟩ := Dp.reads I b y u ((s2.rep wd r2).dp o2.1) ry
  exact SeqAt.eq_plain q1 q2 o1.1 o2.1 (by have := o1.2; omega) ⟨.bl _, H, I, rfl, kq.back wd (.d (.bl _)) q⟩
theorem o_neD (hu : X.A.units + 64 < cLine) : OpD X (compareOp .NotEq) fNeD := by
  intro pins s σ H x y v u Q I rx ry ⟨wx, wy, O, S, ρ, Q', wd, r1, r2, ⟨a, b, s1, s2, o1, o2, q⟩, kq⟩
  obtain ⟨as, q1⟩ := Dp.reads I a x v ((s1.rep wd r1).dp o1.1) rx
  obtain ⟨bs, q2⟩ := Dp.reads I b y u ((s2.rep wd r2).dp o2.1) ry
  exact SeqAt.ne_plain q1 q2 o1.1 o2.1 (by have := o1.2; omega) ⟨.bl _, H, I, rfl, kq.back wd (.d (.bl _)) q⟩
/-- x in a list of data of any depth -/
def fInD : F2 := fun x y O Q => ∃ a bs, Rs O x a ∧ Rs O y (.list bs) ∧ okD a ∧ okD (.list bs) ∧ Q (.d (.bool (bs.any fun z => PyData.eqv z a))) O
def fNotInD : F2 := fun x y O Q => ∃ a bs, Rs O x a ∧ Rs O y (.list bs) ∧ okD a ∧ okD (.list bs) ∧ Q (.d (.bool !(bs.any fun z => PyData.eqv z a))) O
theorem o_inD (hu : X.A.units + 65 < cLine) : OpD X (compareOp .In) fInD := by
  intro pins s σ H x y v u Q I rx ry ⟨wx, wy, O, S, ρ, Q', wd, r1, r2, ⟨a, b, s1, s2, o1, o2, q⟩, kq⟩
  obtain ⟨as, q1⟩ := Dp.reads I a x v ((s1.rep wd r1).dp o1.1) rx
  obtain ⟨bs, q2⟩ := Dp.reads I (.list b) y u ((s2.rep wd r2).dp o2.1) ry
  exact SeqAt.in_list_data q2 q1 (by simpa [PyData.plain] using o2.1) o1.1 (by have := o1.2; omega) ⟨.bl _, H, I, rfl, kq.back wd (.d (.bl _)) q⟩
theorem o_notInD (hu : X.A.units + 65 < cLine) : OpD X (compareOp .NotIn) fNotInD := by
  intro pins s σ H x y v u Q I rx ry ⟨wx, wy, O, S, ρ, Q', wd, r1, r2, ⟨a, b, s1, s2, o1, o2, q⟩, kq⟩
  obtain ⟨as, q1⟩ := Dp.reads I a x v ((s1.rep wd r1).dp o1.1) rx
  obtain ⟨bs, q2⟩ := Dp.reads I (.list b) y u ((s2.rep wd r2).dp o2.1) ry
  exact SeqAt.notIn_list_data q2 q1 (by simpa [PyData.plain] using o2.1) o1.1 (by have := o1.2; omega) ⟨.bl _, H, I, rfl, kq.back wd (.d (.bl _)) q⟩
/-- one sign in a text -/
def fInS (neg : Bool) : F2 := fun x y O Q => match x, y with
  | .d (.str i), .d (.str z) => ∃ c, i = ⟨#[c]⟩ ∧ Q (.d (.bool (if neg then !decide (c ∈ z.cps.toList) else decide (c ∈ z.cps.toList)))) O
  | _, _ => False
/-- is None, is not None; is True .. -/
def isNone : W → Bool
  | .d .none => true
  | .v .non => true
  | _ => false
theorem isNone_rel {K : PySem.W.Frag} {S : Hp} {ρ : Nat → Addr} {n : Nat} {x : V} {w : W} (r : RelW K S ρ n x w) : decide (x = .non) = isNone w := by
  cases r with
  | d r => cases r <;> rfl
  | o => rfl
  | tp => rfl
  | rl => rfl
  | exc => rfl
  | gl => rfl
  | xv => rfl
  | v => cases x <;> rfl
def fIsN : F2 := fun x y O Q => match y with
  | .d .none => Q (.d (.bool (isNone x))) O
  | _ => False
def fNotN : F2 := fun x y O Q => match y with
  | .d .none => Q (.d (.bool (!isNone x))) O
  | _ => False
theorem o_isN : OpD X (compareOp .Is) fIsN := (op_isN (X := X)).imp fun x y H Q ⟨wx, wy, O, S, ρ, Q', wd, r1, r2, q, kq⟩ => by
  unfold fIsN at q
  split at q
  · cases r2 with
    | d r2 =>
      cases r2
      exact ⟨rfl, by rw [isNone_rel r1]; exact kq.back wd (.d (.bl _)) q⟩
  · exact q.elim
theorem o_notN : OpD X (compareOp .IsNot) fNotN := (op_notN (X := X)).imp fun x y H Q ⟨wx, wy, O, S, ρ, Q', wd, r1, r2, q, kq⟩ => by
  unfold fNotN at q
  split at q
  · cases r2 with
    | d r2 =>
      cases r2
      exact ⟨rfl, by rw [isNone_rel r1]; exact kq.back wd (.d (.bl _)) q⟩
  · exact q.elim
def fIsB (neg : Bool) : F2 := fun x y O Q => match x, y with
  | .d (.bool a), .d (.bool b) => Q (.d (.bool (if neg then !decide (a = b) else decide (a = b)))) O
  | _, _ => False
theorem o_isB : OpD X (compareOp .Is) (fIsB false) := (op_isBl (X := X)).imp fun x y H Q ⟨wx, wy, O, S, ρ, Q', wd, r1, r2, q, kq⟩ => by
  unfold fIsB at q
  split at q
  · cases r1 with
    | d r1 =>
      cases r1
      cases r2 with
      | d r2 =>
        cases r2
        exact ⟨_, _, rfl, rfl, kq.back wd (.d (.bl _)) q⟩
  · exact q.elim
theorem o_notB : OpD X (compareOp .IsNot) (fIsB true) := (op_notBl (X := X)).imp fun x y H Q ⟨wx, wy, O, S, ρ, Q', wd, r1, r2, q, kq⟩ => by
  unfold fIsB at q
  split at q
  · cases r1 with
    | d r1 =>
      cases r1
      cases r2 with
      | d r2 =>
        cases r2
        exact ⟨_, _, rfl, rfl, kq.back wd (.d (.bl _)) q⟩
  · exact q.elim
def fNeg : F1 := fun x O Q => match x with
  | .d (.int i) => Q (.d (.int (-i))) O
  | _ => False
theorem o_neg : UnD X (unaryOp .USub) fNeg := (un_neg (X := X)).imp fun x H Q ⟨wx, O, S, ρ, Q', wd, r1, q, kq⟩ => by
  unfold fNeg at q
  split at q
  · cases r1 with
    | d r1 =>
      cases r1
      exact ⟨_, rfl, kq.back wd (.d (.int _)) q⟩
  · exact q.elim

/-! ### tuples and lists joined -/
def fAddT : F2 := fun x y O Q => ∃ xs ys, tv x = some xs ∧ tv y = some ys ∧ xs.length + ys.length ≤ sizeLine ∧ Q (mkT (xs ++ ys)) O
theorem RelW.asT {K : PySem.W.Frag} {S : Hp} {ρ : Nat → Addr} {n : Nat} {v : V} {w : W} {ws : List W} (h : tv w = some ws) (r : RelW K S ρ n v w) : RelW K S ρ n v (mkT ws) := by
  cases r with
  | d r =>
    unfold tv at h
    split at h
    · rename_i xs e
      cases h
      cases e
      rw [mkT_map]; exact .d r
    · rename_i e; cases e
    · cases h
  | tp h1 r =>
    cases h
    exact mkT_rel h1 r
  | o => cases h
  | rl => cases h
  | exc => cases h
  | gl => cases h
  | xv => cases h
  | v => cases h
theorem o_addT : OpD X (binaryOp .Add) fAddT := (op_catA (X := X)).imp fun x y H Q ⟨wx, wy, O, S, ρ, Q', wd, r1, r2, ⟨xs, ys, e1, e2, hl, q⟩, kq⟩ => by
  have q1 := r1.asT e1
  have q2 := r2.asT e2
  obtain ⟨a, vs, rfl, h1, g1⟩ := tv_inv e1 r1
  obtain ⟨b, us, rfl, h2, g2⟩ := tv_inv e2 r2
  refine ⟨a, b, vs, us, rfl, rfl, SubH.sqT wd.sub h1, SubH.sqT wd.sub h2, by rw [g1.length, g2.length]; exact hl, fun z => ?_, fun _ z => ?_, fun _ _ p np => ?_⟩
  · subst z
    cases g1
    exact kq.back wd q2 q
  · subst z
    cases g2
    rw [List.append_nil] at q
    exact kq.back wd q1 q
  · exact kq.newT wd np (g1.append g2) q
/-- list + list: a new list, never changed again | to be changed -/
def fAddL : F2 := fun x y O Q => ∃ xs ys zs, lvS O x = some xs ∧ lvS O y = some ys ∧ xs.length + ys.length ≤ sizeLine ∧ allD (xs ++ ys) = some zs ∧ Q (.d (.list zs)) O
def fAddO : F2 := fun x y O Q => ∃ xs ys, lvS O x = some xs ∧ lvS O y = some ys ∧ xs.length + ys.length ≤ sizeLine ∧ Q (.o O.length) (O ++ [.lst (xs ++ ys)])
theorem o_addL : OpD X (binaryOp .Add) fAddL := (op_cat (X := X)).imp fun x y H Q ⟨wx, wy, O, S, ρ, Q', wd, r1, r2, ⟨xs, ys, zs, e1, e2, hl, ez, q⟩, kq⟩ => by
  obtain ⟨a, vs, rfl, h1, g1⟩ := lvS_inv wd e1 r1
  obtain ⟨b, us, rfl, h2, g2⟩ := lvS_inv wd e2 r2
  exact ⟨a, b, vs, us, rfl, rfl, h1, h2, by rw [g1.length, g2.length]; exact hl, fun p np => kq.newL wd np (g1.append g2) ez q⟩
theorem o_addO : OpD X (binaryOp .Add) fAddO := (op_cat (X := X)).imp fun x y H Q ⟨wx, wy, O, S, ρ, Q', wd, r1, r2, ⟨xs, ys, e1, e2, hl, q⟩, kq⟩ => by
  obtain ⟨a, vs, rfl, h1, g1⟩ := lvS_inv wd e1 r1
  obtain ⟨b, us, rfl, h2, g2⟩ := lvS_inv wd e2 r2
  exact ⟨a, b, vs, us, rfl, rfl, h1, h2, by rw [g1.length, g2.length]; exact hl, fun p np => kq.newO wd np (g1.append g2) q⟩
/-- [x] * n -/
def fRepL : F2 := fun x y O Q => ∃ xs n zs, lvS O x = some xs ∧ y = .d (.int n) ∧ -(2 ^ 63) ≤ n ∧ n < 2 ^ 63 ∧ xs.length * n.toNat ≤ sizeLine ∧ allD (List.replicate n.toNat xs).flatten = some zs ∧ Q (.d (.list zs)) O
def fRepO : F2 := fun x y O Q => ∃ xs n, lvS O x = some xs ∧ y = .d (.int n) ∧ -(2 ^ 63) ≤ n ∧ n < 2 ^ 63 ∧ xs.length * n.toNat ≤ sizeLine ∧ Q (.o O.length) (O ++ [.lst (List.replicate n.toNat xs).flatten])
theorem o_repL : OpD X (binaryOp .Mult) fRepL := (op_rep (X := X)).imp fun x y H Q ⟨wx, wy, O, S, ρ, Q', wd, r1, r2, ⟨xs, n, zs, e1, e2, h1, h2, hl, ez, q⟩, kq⟩ => by
  obtain ⟨a, vs, rfl, g, g1⟩ := lvS_inv wd e1 r1
  subst e2
  cases r2 with
  | d r2 =>
    cases r2
    exact ⟨a, n, vs, rfl, rfl, g, h1, h2, by rw [g1.length]; exact hl, fun p np => kq.newL wd np (g1.rep _) ez q⟩
theorem o_repO : OpD X (binaryOp .Mult) fRepO := (op_rep (X := X)).imp fun x y H Q ⟨wx, wy, O, S, ρ, Q', wd, r1, r2, ⟨xs, n, e1, e2, h1, h2, hl, q⟩, kq⟩ => by
  obtain ⟨a, vs, rfl, g, g1⟩ := lvS_inv wd e1 r1
  subst e2
  cases r2 with
  | d r2 =>
    cases r2
    exact ⟨a, n, vs, rfl, rfl, g, h1, h2, by rw [g1.length]; exact hl, fun p np => kq.newO wd np (g1.rep _) q⟩
end

/-! ### argument lists, displays -/
def dNil : DA := fun _ O Q _ => Q [] O
def dCons (t : DE) (u : DA) : DA := fun Γ O Q E => t Γ O (fun w O1 => u Γ O1 (fun ws O2 => Q (w :: ws) O2) E) E
section
variable {X : Cx} {Wx : WX} {e a b : Expr} {es : List Expr} {pos : Pos} {t : DE} {u : DA}
theorem d_nil : PDA X Wx [] dNil := L2.PA.imp pa_nil fun σ H Q ⟨Γ, O, S, ρ, Q', E', st, h, kq, _⟩ => kq [] O S ρ [] H .refl st.wd .nil h
theorem d_cons (h : PDE X Wx e t) (hr : PDA X Wx es u) (hs : starEach (e :: es) X.env = (false, eval e X.env) :: starEach es X.env := by rfl) : PDA X Wx (e :: es) (dCons t u) :=
  L2.PA.imp (pa_cons h hr hs) fun σ H Q ⟨Γ, O, S, ρ, Q', E', st, h, kq, kx⟩ => ⟨Γ, O, S, ρ, _, E', st, h, fun w1 O1 S1 ρ1 v1 H1 x1 wd1 r1 h1 =>
    ⟨Γ, O1, S1, ρ1, _, E', st.ext x1 wd1, h1, fun w2 O2 S2 ρ2 v2 H2 x2 wd2 r2 h2 => kq _ O2 S2 ρ2 _ H2 (x1.trans x2) wd2 (.cons (r1.ext x2) r2) h2, kx.ext x1⟩, kx⟩
def dTup (u : DA) : DE := fun Γ O Q E => u Γ O (fun ws O1 => ws.length ≤ sizeLine ∧ Q (mkT ws) O1) E
theorem d_tup {x1} (h : PDA X Wx es u) : PDE X Wx (.Tuple es x1 pos) (dTup u) :=
  (pe_tup h).imp fun σ H Q ⟨Γ, O, S, ρ, Q', E', st, h, kq, kx⟩ => ⟨Γ, O, S, ρ, _, E', st, h, fun ws O1 S1 ρ1 vs H1 x1 wd1 r1 h1 => ⟨by rw [r1.length]; exact h1.1, fun p np => (kq.ext x1).newT wd1 np r1 h1.2⟩, kx⟩
/-- a list that is never changed again | to be changed -/
def dLst (u : DA) : DE := fun Γ O Q E => u Γ O (fun ws O1 => ws.length ≤ sizeLine ∧ match allD ws with
  | some xs => Q (.d (.list xs)) O1
  | none => False) E
def dLstO (u : DA) : DE := fun Γ O Q E => u Γ O (fun ws O1 => ws.length ≤ sizeLine ∧ Q (.o O1.length) (O1 ++ [.lst ws])) E
theorem d_lst (h : PDA X Wx es u) : PDE X Wx (.List es pos) (dLst u) :=
  (pe_lst h).imp fun σ H Q ⟨Γ, O, S, ρ, Q', E', st, h, kq, kx⟩ => ⟨Γ, O, S, ρ, _, E', st, h, fun ws O1 S1 ρ1 vs H1 x1 wd1 r1 h1 => ⟨by rw [r1.length]; exact h1.1, fun p np => by
    obtain ⟨_, h1⟩ := h1
    split at h1
    · rename_i xs ex
      exact (kq.ext x1).newL wd1 np r1 ex h1
    · exact h1.elim⟩, kx⟩
theorem d_lstO (h : PDA X Wx es u) : PDE X Wx (.List es pos) (dLstO u) :=
  (pe_lst h).imp fun σ H Q ⟨Γ, O, S, ρ, Q', E', st, h, kq, kx⟩ => ⟨Γ, O, S, ρ, _, E', st, h, fun ws O1 S1 ρ1 vs H1 x1 wd1 r1 h1 => ⟨by rw [r1.length]; exact h1.1, fun p np => (kq.ext x1).newO wd1 np r1 h1.2⟩, kx⟩

/-! ### indices, slices -/
def IxD (X : Cx) (f : F2) : Prop := IxR X (rD X.K f)
theorem _root_.L2.IxR.imp {r r' : R2} (h : IxR X r) (i : ∀ x y H Q, r' x y H Q → r x y H Q) : IxR X r' := fun va sl pins s σ H x y v u Q I r1 r2 q => h va sl pins s σ H x y v u Q I r1 r2 (i x y H Q q)
theorem d_ix {f : F2} {ta tb : DE} (hf : IxD X f) (ha : PDE X Wx a ta) (hb : PDE X Wx b tb) (hs : PlainIx b := by exact fun _ _ => rfl) : PDE X Wx (.Subscript a b pos) (dOp f ta tb) := (pe_ix hf ha hb hs).imp fun _ _ _ q => op_read q
def fIxT : F2 := fun x y O Q => ∃ xs i w, tv x = some xs ∧ y = .d (.int i) ∧ atI xs i = some w ∧ Q w O
def fIxL : F2 := fun x y O Q => ∃ xs i w, lv O x = some xs ∧ y = .d (.int i) ∧ atI xs i = some w ∧ Q w O
def fIxS : F2 := fun x y O Q => match x, y with
  | .d (.str z), .d (.int i) => z.length ≤ sizeLine ∧ ∃ c, atI z.cps.toList i = some c ∧ Q (.d (.str ⟨#[c]⟩)) O
  | _, _ => False
theorem atI_rel {K : PySem.W.Frag} {S : Hp} {ρ : Nat → Addr} {n : Nat} {vs : List V} {ws : List W} {i : Int} {w : W} (r : RelWs K S ρ n vs ws) (h : atI ws i = some w) : ∃ v, atI vs i = some v ∧ RelW K S ρ n v w := by
  unfold atI at h ⊢
  rw [r.length]
  cases e : ixN ws.length i with
  | none => rw [e] at h; cases h
  | some j =>
    rw [e] at h
    obtain ⟨v, h1, h2⟩ := r.get (i := j) h
    exact ⟨v, h1, h2⟩
theorem i_t : IxD X fIxT := ix_tup.imp fun x y H Q ⟨wx, wy, O, S, ρ, Q', wd, r1, r2, ⟨xs, i, w, e1, e2, e3, q⟩, kq⟩ => by
  obtain ⟨a, vs, rfl, h1, g1⟩ := tv_inv e1 r1
  subst e2
  cases r2 with
  | d r2 =>
    cases r2
    obtain ⟨v, h3, h4⟩ := atI_rel g1 e3
    exact ⟨a, vs, i, v, rfl, rfl, SubH.sqT wd.sub h1, h3, kq.back wd h4 q⟩
theorem i_l : IxD X fIxL := ix_list.imp fun x y H Q ⟨wx, wy, O, S, ρ, Q', wd, r1, r2, ⟨xs, i, w, e1, e2, e3, q⟩, kq⟩ => by
  obtain ⟨a, vs, rfl, h1, g1⟩ := lv_inv wd e1 r1
  subst e2
  cases r2 with
  | d r2 =>
    cases r2
    obtain ⟨v, h3, h4⟩ := atI_rel g1 e3
    exact ⟨a, vs, i, v, rfl, rfl, h1, h3, kq.back wd h4 q⟩
theorem i_s : IxD X fIxS := ix_str.imp fun x y H Q ⟨wx, wy, O, S, ρ, Q', wd, r1, r2, q, kq⟩ => by
  unfold fIxS at q
  split at q
  · cases r1 with
    | d r1 =>
      cases r1
      cases r2 with
      | d r2 =>
        cases r2
        obtain ⟨hz, c, hc, q⟩ := q
        exact ⟨_, _, c, rfl, rfl, hz, hc, kq.back wd (.d (.str _)) q⟩
  · exact q.elim
abbrev DO := Gm → List Ob → (Option Int → List Ob → Prop) → DX → Prop
def KO (K : PySem.W.Frag) (S : Hp) (ρ : Nat → Addr) (n : Nat) (H : Hp) (Q' : Option Int → List Ob → Prop) (Q : Option Int → Hp → Prop) : Prop := ∀ b O' S' ρ' H', Ext S ρ n H S' ρ' O'.length H' → Wd K S' ρ' O' H' → Q' b O' → Q b H'
def iO (K : PySem.W.Frag) (Wx : WX) (t : DO) : TO := fun σ H Q => ∃ Γ O S ρ Q' E', At K S ρ H O σ Γ ∧ t Γ O Q' E' ∧ KO K S ρ O.length H Q' Q ∧ KX K S ρ O.length H σ E' Wx
abbrev PDO (X : Cx) (Wx : WX) (e : Option Expr) (t : DO) : Prop := PO X e (iO X.K Wx t)
def dNoP : DO := fun _ O Q _ => Q none O
def dPart (t : DE) : DO := fun Γ O Q E => t Γ O (fun w O1 => match w with
  | .d (.int i) => Q (some i) O1
  | _ => False) E
theorem _root_.L2.PO.imp {e : Option Expr} {t t' : TO} (h : PO X e t) (i : ∀ σ H Q, t' σ H Q → t σ H Q) : PO X e t' := ⟨fun pins s σ H Q I q => h.run pins s σ H Q I (i σ H Q q)⟩
theorem d_noP : PDO X Wx none dNoP := (po_none (X := X)).imp fun σ H Q ⟨Γ, O, S, ρ, Q', E', st, h, kq, _⟩ => kq none O S ρ H .refl st.wd h
theorem d_part (h : PDE X Wx e t) : PDO X Wx (some e) (dPart t) := (po_some h).imp fun σ H Q ⟨Γ, O, S, ρ, Q', E', st, h, kq, kx⟩ => ⟨Γ, O, S, ρ, _, E', st, h, fun w1 O1 S1 ρ1 v1 H1 x1 wd1 r1 h1 => by
  dsimp only at h1
  split at h1
  · cases r1 with
    | d r1 =>
      cases r1
      exact ⟨_, rfl, kq _ O1 S1 ρ1 H1 x1 wd1 h1⟩
  · exact h1.elim, kx⟩
abbrev FS := W → Option Int → Option Int → List Ob → DQ → Prop
def rS (K : PySem.W.Frag) (f : FS) : V → Option Int → Option Int → Hp → VK → Prop := fun x lo hi H Q => ∃ wx O S ρ Q', Wd K S ρ O H ∧ RelW K S ρ O.length x wx ∧ f wx lo hi O Q' ∧ KE K S ρ O.length H Q' Q
def dSl (f : FS) (t : DE) (tl th : DO) : DE := fun Γ O Q E => t Γ O (fun x O1 => tl Γ O1 (fun lo O2 => th Γ O2 (fun hi O3 => f x lo hi O3 Q) E) E) E
theorem _root_.L2.SlR.imp {r r' : V → Option Int → Option Int → Hp → VK → Prop} (h : SlR X r) (i : ∀ x lo hi H Q, r' x lo hi H Q → r x lo hi H Q) : SlR X r' := fun pins s σ H x v vl vu lo hi sl Q I rx hs pl pu q => h pins s σ H x v vl vu lo hi sl Q I rx hs pl pu (i _ _ _ _ _ q)
theorem d_sl {f : FS} {lo hi : Option Expr} {p2 : Pos} {tl th : DO} (hf : SlR X (rS X.K f)) (he : PDE X Wx e t) (hl : PDO X Wx lo tl) (hh : PDO X Wx hi th) : PDE X Wx (.Subscript e (.Slice lo hi none p2) pos) (dSl f t tl th) :=
  (pe_slice hf he hl hh).imp fun σ H Q ⟨Γ, O, S, ρ, Q', E', st, h, kq, kx⟩ => by
    refine ⟨Γ, O, S, ρ, _, E', st, h, fun w1 O1 S1 ρ1 v1 H1 x1 wd1 r1 h1 => ?_, kx⟩
    refine ⟨Γ, O1, S1, ρ1, _, E', st.ext x1 wd1, h1, fun i O2 S2 ρ2 H2 x2 wd2 h2 => ?_, kx.ext x1⟩
    have x12 := x1.trans x2
    refine ⟨Γ, O2, S2, ρ2, _, E', st.ext x12 wd2, h2, fun j O3 S3 ρ3 H3 x3 wd3 h3 => ?_, kx.ext x12⟩
    exact ⟨w1, O3, S3, ρ3, Q', wd3, (r1.ext x2).ext x3, h3, kq.ext (x12.trans x3)⟩
def cutW {α : Type} (xs : List α) (lo hi : Option Int) : List α := (xs.drop (HT.sIx xs.length 0 lo)).take (HT.sIx xs.length xs.length hi - HT.sIx xs.length 0 lo)
theorem cut_rel {K : PySem.W.Frag} {S : Hp} {ρ : Nat → Addr} {n : Nat} {vs : List V} {ws : List W} (r : RelWs K S ρ n vs ws) (lo hi : Option Int) : RelWs K S ρ n (cutV vs lo hi) (cutW ws lo hi) := by
  unfold cutV cutW
  rw [r.length]
  exact (r.drop _).take _
def fSlT : FS := fun x lo hi O Q => ∃ xs, tv x = some xs ∧ Q (mkT (cutW xs lo hi)) O
theorem cut_whole {α : Type} {xs : List α} {lo hi : Option Int} (h : HT.sIx xs.length 0 lo = 0 ∧ HT.sIx xs.length xs.length hi = xs.length) : cutW xs lo hi = xs := by
  unfold cutW
  rw [h.1, h.2]; simp
theorem s_t : SlR X (rS X.K fSlT) := sl_tupA.imp fun x lo hi H Q ⟨wx, O, S, ρ, Q', wd, r1, ⟨xs, e1, q⟩, kq⟩ => by
  have q1 := r1.asT e1
  obtain ⟨a, vs, rfl, h1, g1⟩ := tv_inv e1 r1
  refine ⟨a, vs, rfl, SubH.sqT wd.sub h1, fun hw => ?_, fun _ p np => kq.newT wd np (cut_rel g1 lo hi) q⟩
  rw [g1.length] at hw
  rw [cut_whole hw] at q
  exact kq.back wd q1 q
def fSlL : FS := fun x lo hi O Q => ∃ xs zs, lv O x = some xs ∧ allD (cutW xs lo hi) = some zs ∧ Q (.d (.list zs)) O
def fSlO : FS := fun x lo hi O Q => ∃ xs, lv O x = some xs ∧ Q (.o O.length) (O ++ [.lst (cutW xs lo hi)])
theorem s_l : SlR X (rS X.K fSlL) := sl_list.imp fun x lo hi H Q ⟨wx, O, S, ρ, Q', wd, r1, ⟨xs, zs, e1, ez, q⟩, kq⟩ => by
  obtain ⟨a, vs, rfl, h1, g1⟩ := lv_inv wd e1 r1
  exact ⟨a, vs, rfl, h1, fun p np => kq.newL wd np (cut_rel g1 lo hi) ez q⟩
theorem s_o : SlR X (rS X.K fSlO) := sl_list.imp fun x lo hi H Q ⟨wx, O, S, ρ, Q', wd, r1, ⟨xs, e1, q⟩, kq⟩ => by
  obtain ⟨a, vs, rfl, h1, g1⟩ := lv_inv wd e1 r1
  exact ⟨a, vs, rfl, h1, fun p np => kq.newO wd np (cut_rel g1 lo hi) q⟩

/-! ### built-in functions -/
abbrev FC := List W → List Ob → DQ → Prop
def rC (K : PySem.W.Frag) (f : FC) : List V → Hp → VK → Prop := fun xs H Q => ∃ ws O S ρ Q', Wd K S ρ O H ∧ RelWs K S ρ O.length xs ws ∧ f ws O Q' ∧ KE K S ρ O.length H Q' Q
def CallD (X : Cx) (g : Value) (f : FC) : Prop := CallR X g (rC X.K f)
theorem _root_.L2.CallR.imp {g : Value} {r r' : List V → Hp → VK → Prop} (h : CallR X g r) (i : ∀ x H Q, r' x H Q → r x H Q) : CallR X g r' := fun pins s σ H x v Q I r1 q => h pins s σ H x v Q I r1 (i x H Q q)
def dCB (f : FC) (u : DA) : DE := fun Γ O Q E => u Γ O (fun ws O1 => f ws O1 Q) E
theorem cb_read {f : FC} {u : DA} {σ : L2.St} {H : Hp} {Q : VK} (q : iE X.K Wx (dCB f u) σ H Q) : tCB (rC X.K f) (iA X.K Wx u) σ H Q := by
  obtain ⟨Γ, O, S, ρ, Q', E', st, h, kq, kx⟩ := q
  exact ⟨Γ, O, S, ρ, _, E', st, h, fun ws O1 S1 ρ1 vs H1 x1 wd1 r1 h1 => ⟨ws, O1, S1, ρ1, Q', wd1, r1, h1, kq.ext x1⟩, kx⟩
variable {x : Str} {p : Pos} {id T : String}
theorem d_cb {f : FC} (hc : CallD X (.builtin id) f) (hm : X.mg x = none) (hv : bootBuiltins x = some (.builtin id)) (ha : PDA X Wx (e :: es) u) (hg : Gl X x := by rfl) (hn : x ≠ "__name__" := by decide) (hdb : (x == ("__debug__" : Str)) = false := by decide)
    (he : starEach (e :: es) X.env = (false, eval e X.env) :: starEach es X.env := by rfl) (hpl : (backTo pos (starEach es X.env)).any (·.1) = false := by rfl) : PDE X Wx (.Call (.Name x p) (e :: es) [] pos) (dCB f u) := (pe_callB hc hg hm hv ha hn hdb he hpl).imp fun _ _ _ q => cb_read q
theorem d_ct {f : FC} (hc : CallD X (.type T) f) (hm : X.mg x = none) (hv : bootBuiltins x = some (.type T)) (ha : PDA X Wx (e :: es) u) (hg : Gl X x := by rfl) (hn : x ≠ "__name__" := by decide) (hdb : (x == ("__debug__" : Str)) = false := by decide)
    (he : starEach (e :: es) X.env = (false, eval e X.env) :: starEach es X.env := by rfl) (hpl : (backTo pos (starEach es X.env)).any (·.1) = false := by rfl) : PDE X Wx (.Call (.Name x p) (e :: es) [] pos) (dCB f u) := (pe_callTy hc hg hm hv ha hn hdb he hpl).imp fun _ _ _ q => cb_read q
def fLen : FC := fun ws O Q => match ws with
  | [.d (.str z)] => z.length ≤ sizeLine ∧ Q (.d (.int z.length)) O
  | [x] => ∃ xs, (tv x = some xs ∨ lv O x = some xs) ∧ Q (.d (.int xs.length)) O
  | _ => False
theorem c_len : CallD X (.builtin "len") fLen := ((call_len_seq (X := X)).or call_len_str).imp fun xs H Q ⟨ws, O, S, ρ, Q', wd, r, q, kq⟩ => by
  unfold fLen at q
  split at q
  · cases r with
    | cons r rr =>
      cases rr
      cases r with
      | d r =>
        cases r
        exact .inr ⟨_, rfl, q.1, kq.back wd (.d (.int _)) q.2⟩
  · cases r with
    | cons r rr =>
      cases rr
      obtain ⟨xs, h, q⟩ := q
      rcases h with h | h
      · obtain ⟨a, vs, rfl, h1, g1⟩ := tv_inv h r
        exact .inl ⟨a, vs, rfl, .inr (SubH.sqT wd.sub h1), by rw [g1.length]; exact kq.back wd (.d (.int _)) q⟩
      · obtain ⟨a, vs, rfl, h1, g1⟩ := lv_inv wd h r
        exact .inl ⟨a, vs, rfl, .inl h1, by rw [g1.length]; exact kq.back wd (.d (.int _)) q⟩
  · exact q.elim
def fInt : FC := fun ws O Q => match ws with
  | [.d (.int i)] => Q (.d (.int i)) O
  | [.d (.bool k)] => Q (.d (.int (if k then 1 else 0))) O
  | _ => False
theorem c_int : CallD X (.type "int") fInt := (call_int1 (X := X)).imp fun xs H Q ⟨ws, O, S, ρ, Q', wd, r, q, kq⟩ => by
  unfold fInt at q
  split at q
  · cases r with
    | cons r rr =>
      cases rr
      cases r with
      | d r =>
        cases r
        exact .inl ⟨_, rfl, kq.back wd (.d (.int _)) q⟩
  · cases r with
    | cons r rr =>
      cases rr
      cases r with
      | d r =>
        cases r
        exact .inr ⟨_, rfl, kq.back wd (.d (.int _)) q⟩
  · exact q.elim
def fAbs : FC := fun ws O Q => match ws with
  | [.d (.int i)] => Q (.d (.int (if i < 0 then -i else i))) O
  | _ => False
theorem c_abs : CallD X (.builtin "abs") fAbs := (call_abs (X := X)).imp fun xs H Q ⟨ws, O, S, ρ, Q', wd, r, q, kq⟩ => by
  unfold fAbs at q
  split at q
  · cases r with
    | cons r rr =>
      cases rr
      cases r with
      | d r =>
        cases r
        exact ⟨_, rfl, kq.back wd (.d (.int _)) q⟩
  · exact q.elim
def fMax : FC := fun ws O Q => match ws with
  | [.d (.int i), .d (.int j)] => Q (.d (.int (if j > i then j else i))) O
  | _ => False
theorem c_max (hc : X.calm = true) : CallD X (.builtin "max") fMax := (call_max2 hc).imp fun xs H Q ⟨ws, O, S, ρ, Q', wd, r, q, kq⟩ => by
  unfold fMax at q
  split at q
  · cases r with
    | cons r rr =>
      cases rr with
      | cons r2 rr =>
        cases rr
        cases r with
        | d r =>
          cases r
          cases r2 with
          | d r2 =>
            cases r2
            exact ⟨_, _, rfl, kq.back wd (.d (.int _)) q⟩
  · exact q.elim
/-- list(x), tuple(x) of a list or a tuple -/
def fListO : FC := fun ws O Q => ∃ x xs, ws = [x] ∧ (tv x = some xs ∨ lv O x = some xs) ∧ Q (.o O.length) (O ++ [.lst xs])
def fListL : FC := fun ws O Q => ∃ x xs zs, ws = [x] ∧ (tv x = some xs ∨ lv O x = some xs) ∧ allD xs = some zs ∧ Q (.d (.list zs)) O
def fTuple : FC := fun ws O Q => ∃ x xs, ws = [x] ∧ (tv x = some xs ∨ lv O x = some xs) ∧ Q (mkT xs) O
theorem sq_inv {K : PySem.W.Frag} {S : Hp} {ρ : Nat → Addr} {H : Hp} {O : List Ob} {v : V} {w : W} {ws : List W} (wd : Wd K S ρ O H) (h : tv w = some ws ∨ lv O w = some ws) (r : RelW K S ρ O.length v w) : ∃ a vs, v = .ref a ∧ (SqL K H a vs ∨ SqT K H a vs) ∧ RelWs K S ρ O.length vs ws := by
  rcases h with h | h
  · obtain ⟨a, vs, rfl, h1, g1⟩ := tv_inv h r
    exact ⟨a, vs, rfl, .inr (SubH.sqT wd.sub h1), g1⟩
  · obtain ⟨a, vs, rfl, h1, g1⟩ := lv_inv wd h r
    exact ⟨a, vs, rfl, .inl h1, g1⟩
theorem c_listO : CallD X (.type "list") fListO := (call_list_of (X := X)).imp fun xs H Q ⟨ws, O, S, ρ, Q', wd, r, ⟨x, xs', e, h, q⟩, kq⟩ => by
  subst e
  cases r with
  | cons r rr =>
    cases rr
    obtain ⟨a, vs, rfl, h1, g1⟩ := sq_inv wd h r
    exact ⟨a, vs, rfl, h1, fun l nl => kq.newO wd nl g1 q⟩
theorem c_listL : CallD X (.type "list") fListL := (call_list_of (X := X)).imp fun xs H Q ⟨ws, O, S, ρ, Q', wd, r, ⟨x, xs', zs, e, h, ez, q⟩, kq⟩ => by
  subst e
  cases r with
  | cons r rr =>
    cases rr
    obtain ⟨a, vs, rfl, h1, g1⟩ := sq_inv wd h r
    exact ⟨a, vs, rfl, h1, fun l nl => kq.newL wd nl g1 ez q⟩
theorem c_tuple : CallD X (.type "tuple") fTuple := (call_tuple_of (X := X)).imp fun xs H Q ⟨ws, O, S, ρ, Q', wd, r, ⟨x, xs', e, h, q⟩, kq⟩ => by
  subst e
  cases r with
  | cons r rr =>
    cases rr
    rcases h with h | h
    · have q1 := r.asT h
      obtain ⟨a, vs, rfl, h1, g1⟩ := tv_inv h r
      exact ⟨a, vs, rfl, .inr ⟨SubH.sqT wd.sub h1, kq.back wd q1 q⟩⟩
    · obtain ⟨a, vs, rfl, h1, g1⟩ := lv_inv wd h r
      exact ⟨a, vs, rfl, .inl ⟨h1, fun l nl => kq.newT wd nl g1 q⟩⟩
end
end UZ
/-! UZ, part D: statements, targets, loops, calls of own defs. -/
namespace UZ
open PySem PySem.Spec PyProof.Rows L2

structure DEnds where
  nx : Gm → List Ob → Prop
  rt : DQ
  bk : Gm → List Ob → Prop := fun _ _ => False
  ct : Gm → List Ob → Prop := fun _ _ => False
  ex : Xc → Gm → List Ob → Prop := fun _ _ _ => False
abbrev DS := DEnds → Gm → List Ob → Prop
/-- what the data's ends give the heap's ends -/
structure KS (K : PySem.W.Frag) (S : Hp) (ρ : Nat → Addr) (n : Nat) (H : Hp) (D' : DEnds) (D : Ends) (Wx : WX) : Prop where
  nx : ∀ Γ' O' S' ρ' σ' H', Ext S ρ n H S' ρ' O'.length H' → At K S' ρ' H' O' σ' Γ' → D'.nx Γ' O' → D.nx σ' H'
  rt : ∀ w O' S' ρ' v H', Ext S ρ n H S' ρ' O'.length H' → Wd K S' ρ' O' H' → RelW K S' ρ' O'.length v w → D'.rt w O' → D.rt v H'
  bk : ∀ Γ' O' S' ρ' σ' H', Ext S ρ n H S' ρ' O'.length H' → At K S' ρ' H' O' σ' Γ' → D'.bk Γ' O' → D.bk σ' H'
  ct : ∀ Γ' O' S' ρ' σ' H', Ext S ρ n H S' ρ' O'.length H' → At K S' ρ' H' O' σ' Γ' → D'.ct Γ' O' → D.ct σ' H'
  ex : ∀ x Γ' O' S' ρ' σ' cls dd H', Ext S ρ n H S' ρ' O'.length H' → At K S' ρ' H' O' σ' Γ' → RelX K S' ρ' O'.length H' cls dd x → D'.ex x Γ' O' → Wx cls dd σ' H'
section
variable {K : PySem.W.Frag} {S S1 : Hp} {ρ ρ1 : Nat → Addr} {n n1 : Nat} {H H1 : Hp} {D' : DEnds} {D : Ends} {Wx : WX} {O : List Ob} {σ : L2.St} {Γ : Gm}
theorem KS.ext (k : KS K S ρ n H D' D Wx) (x : Ext S ρ n H S1 ρ1 n1 H1) : KS K S1 ρ1 n1 H1 D' D Wx :=
  ⟨fun a b c d e f y => k.nx a b c d e f (x.trans y), fun a b c d e f y => k.rt a b c d e f (x.trans y), fun a b c d e f y => k.bk a b c d e f (x.trans y), fun a b c d e f y => k.ct a b c d e f (x.trans y), fun a b c d e f g h i y => k.ex a b c d e f g h i (x.trans y)⟩
theorem KS.kx (k : KS K S ρ O.length H D' D Wx) (st : At K S ρ H O σ Γ) : KX K S ρ O.length H σ (fun x O' => D'.ex x Γ O') Wx :=
  fun x O' S' ρ' cls dd H' y wd r q => k.ex x Γ O' S' ρ' σ cls dd H' y (st.ext y wd) r q
end
def iS (K : PySem.W.Frag) (Wx : WX) (t : DS) : TS := fun D σ H => ∃ Γ O S ρ D', At K S ρ H O σ Γ ∧ t D' Γ O ∧ KS K S ρ O.length H D' D Wx
abbrev PDS (X : Cx) (Wx : WX) (e : Stmt) (t : DS) : Prop := PS X e (iS X.K Wx t)
abbrev PDSs (X : Cx) (Wx : WX) (e : List Stmt) (t : DS) : Prop := PSs X e (iS X.K Wx t)
theorem _root_.L2.PS.imp {X : Cx} {e : Stmt} {t t' : TS} (h : PS X e t) (i : ∀ D σ H, t' D σ H → t D σ H) : PS X e t' := ⟨fun pins s σ H D I q => h.run pins s σ H D I (i D σ H q)⟩
theorem _root_.L2.PSs.imp {X : Cx} {e : List Stmt} {t t' : TS} (h : PSs X e t) (i : ∀ D σ H, t' D σ H → t D σ H) : PSs X e t' := ⟨fun pins s σ H D I q => h.run pins s σ H D I (i D σ H q)⟩
/-- what a body's context gives -/
structure Bx (X : Cx) (Wx : WX) : Prop where
  tk : Takes X Wx
  calm : X.calm = true
  hp : PassesOwn (model X.prog X.w) X.A X.env X.xe
  nd : X.N.Nodup

section
variable {X : Cx} {Wx : WX} {s : Stmt} {r : List Stmt} {e : Expr} {pos : Pos} {t : DE} {u v : DS} {c : DT}
def dNext : DS := fun D Γ O => D.nx Γ O
def dSeq (u v : DS) : DS := fun D Γ O => u { D with nx := v D } Γ O
theorem s_nil : PDSs X Wx [] dNext := (pss_nil (X := X)).imp fun D σ H ⟨Γ, O, S, ρ, D', st, h, ks⟩ => ks.nx Γ O S ρ σ H .refl st h
theorem s_one (h : PDS X Wx s u) : PDSs X Wx [s] u := pss_one h
theorem s_cons (h : PDS X Wx s u) (hr : PDSs X Wx r v) : PDSs X Wx (s :: r) (dSeq u v) := (pss_cons h hr).imp fun D σ H ⟨Γ, O, S, ρ, D', st, h, ks⟩ =>
  ⟨Γ, O, S, ρ, _, st, h, ⟨fun Γ1 O1 S1 ρ1 σ1 H1 x1 st1 h1 => ⟨Γ1, O1, S1, ρ1, D', st1, h1, ks.ext x1⟩, ks.rt, ks.bk, ks.ct, ks.ex⟩⟩
theorem s_pass : PDS X Wx (.Pass pos) dNext := (ps_pass (X := X)).imp fun D σ H ⟨Γ, O, S, ρ, D', st, h, ks⟩ => ks.nx Γ O S ρ σ H .refl st h
def dBreak : DS := fun D Γ O => D.bk Γ O
def dCont : DS := fun D Γ O => D.ct Γ O
theorem s_break : PDS X Wx (.Break pos) dBreak := (ps_break (X := X)).imp fun D σ H ⟨Γ, O, S, ρ, D', st, h, ks⟩ => ks.bk Γ O S ρ σ H .refl st h
theorem s_continue : PDS X Wx (.Continue pos) dCont := (ps_continue (X := X)).imp fun D σ H ⟨Γ, O, S, ρ, D', st, h, ks⟩ => ks.ct Γ O S ρ σ H .refl st h
def dNever : DS := fun _ _ _ => False
theorem s_never : PDS X Wx s dNever := (ps_never (X := X)).imp fun D σ H ⟨Γ, O, S, ρ, D', st, h, ks⟩ => h.elim
theorem ss_never : PDSs X Wx r dNever := (pss_never (X := X)).imp fun D σ H ⟨Γ, O, S, ρ, D', st, h, ks⟩ => h.elim
def dNeverE : DE := fun _ _ _ _ => False
def dRet (t : DE) : DS := fun D Γ O => t Γ O D.rt fun x O' => D.ex x Γ O'
theorem s_ret (h : PDE X Wx e t) : PDS X Wx (.Return (some e) pos) (dRet t) := (ps_ret h).imp fun D σ H ⟨Γ, O, S, ρ, D', st, h, ks⟩ => ⟨Γ, O, S, ρ, _, _, st, h, ks.rt, ks.kx st⟩
def dDrop (t : DE) : DS := fun D Γ O => t Γ O (fun _ O1 => D.nx Γ O1) fun x O' => D.ex x Γ O'
theorem s_expr (h : PDE X Wx e t) (hs : swapsWith e none pos.line X.env = pure false := by rfl) : PDS X Wx (.Expr e pos) (dDrop t) := (ps_expr h hs).imp fun D σ H ⟨Γ, O, S, ρ, D', st, h, ks⟩ =>
  ⟨Γ, O, S, ρ, _, _, st, h, fun w1 O1 S1 ρ1 v1 H1 x1 wd1 r1 h1 => ks.nx Γ O1 S1 ρ1 σ H1 x1 (st.ext x1 wd1) h1, ks.kx st⟩
def dIf (c : DT) (u v : DS) : DS := fun D Γ O => c Γ O (fun b O1 => if b = true then u D Γ O1 else v D Γ O1) fun x O' => D.ex x Γ O'
theorem s_if {ce : Expr} {a b : List Stmt} (hc : PDT X Wx ce c) (ha : PDSs X Wx a u) (hb : PDSs X Wx b v) : PDS X Wx (.If ce a b pos) (dIf c u v) := (ps_if hc ha hb).imp fun D σ H ⟨Γ, O, S, ρ, D', st, h, ks⟩ =>
  ⟨Γ, O, S, ρ, _, _, st, h, fun b O1 S1 ρ1 H1 x1 wd1 h1 => by
    cases b with
    | true => rw [if_pos rfl] at h1 ⊢; exact ⟨Γ, O1, S1, ρ1, D', st.ext x1 wd1, h1, ks.ext x1⟩
    | false => rw [if_neg (by decide)] at h1 ⊢; exact ⟨Γ, O1, S1, ρ1, D', st.ext x1 wd1, h1, ks.ext x1⟩, ks.kx st⟩

/-! ### targets -/
theorem RelS.set {K : PySem.W.Frag} {S : Hp} {ρ : Nat → Addr} {n : Nat} {σ : L2.St} {Γ : Gm} (h : RelS K S ρ n σ Γ) (i : Nat) {v : V} {w : W} (r : RelW K S ρ n v w) : RelS K S ρ n (σ.set i (some v)) (Γ.set i (some w)) := by
  refine ⟨by simp [h.1], fun j w' e => ?_⟩
  by_cases hj : j = i
  · subst hj
    have hl : j < Γ.length := by
      have := (List.getElem?_eq_some_iff.mp e).1
      simpa using this
    rw [List.getElem?_set_self hl] at e
    cases e
    exact ⟨v, by rw [List.getElem?_set_self (by rw [h.1]; exact hl)], r⟩
  · rw [List.getElem?_set_ne (Ne.symm hj)] at e ⊢
    exact h.2 j w' e
theorem At.set {K : PySem.W.Frag} {S : Hp} {ρ : Nat → Addr} {H : Hp} {O : List Ob} {σ : L2.St} {Γ : Gm} (h : At K S ρ H O σ Γ) (i : Nat) {v : V} {w : W} (r : RelW K S ρ O.length v w) : At K S ρ H O (σ.set i (some v)) (Γ.set i (some w)) := ⟨h.wd, h.rs.set i r⟩
abbrev DG := W → Gm → List Ob → (Gm → List Ob → Prop) → Prop
def KG (K : PySem.W.Frag) (S : Hp) (ρ : Nat → Addr) (n : Nat) (H : Hp) (Q' : Gm → List Ob → Prop) (Q : L2.St → Hp → Prop) : Prop := ∀ Γ' O' S' ρ' σ' H', Ext S ρ n H S' ρ' O'.length H' → At K S' ρ' H' O' σ' Γ' → Q' Γ' O' → Q σ' H'
def iG (K : PySem.W.Frag) (g : DG) : TG := fun v σ H Q => ∃ w Γ O S ρ Q', At K S ρ H O σ Γ ∧ RelW K S ρ O.length v w ∧ g w Γ O Q' ∧ KG K S ρ O.length H Q' Q
abbrev PDG (X : Cx) (tg : Expr) (g : DG) : Prop := PG X tg (iG X.K g)
theorem _root_.L2.PG.imp {tg : Expr} {t t' : TG} (h : PG X tg t) (i : ∀ v σ H Q, t' v σ H Q → t v σ H Q) : PG X tg t' := ⟨fun pins s σ H v u Q I r q => h.run pins s σ H v u Q I r (i v σ H Q q)⟩
def gNm (i : Nat) : DG := fun w Γ O Q => Q (Γ.set i (some w)) O
theorem g_nm {i : Nat} {x : Str} (hN : X.N.Nodup) (hi : X.N[i]? = some x := by rfl) (hx : Loc X.env.scope x := by first | exact Or.inl rfl | exact Or.inr rfl) (hf : X.fn x = true ∨ X.env.scope.names.lookup x = some .local := by first | exact .inl rfl | exact .inr rfl | assumption) : PDG X (.Name x pos) (gNm i) :=
  (pg_name hN hi hx hf).imp fun v σ H Q ⟨w, Γ, O, S, ρ, Q', st, r, h, kg⟩ => kg _ O S ρ _ H .refl (st.set i r) h
/-- the parts of a tuple | list -/
def gTp (n : Nat) (gs : List W → Gm → List Ob → (Gm → List Ob → Prop) → Prop) : DG := fun w Γ O Q => ∃ ws, tv w = some ws ∧ ws.length = n ∧ gs ws Γ O Q
def gEnd : List W → Gm → List Ob → (Gm → List Ob → Prop) → Prop := fun ws Γ O Q => ws = [] ∧ Q Γ O
def gCs (g : DG) (gs : List W → Gm → List Ob → (Gm → List Ob → Prop) → Prop) : List W → Gm → List Ob → (Gm → List Ob → Prop) → Prop := fun ws Γ O Q => match ws with
  | w :: r => g w Γ O fun Γ1 O1 => gs r Γ1 O1 Q
  | [] => False
def iGs (K : PySem.W.Frag) (g : List W → Gm → List Ob → (Gm → List Ob → Prop) → Prop) : TGs := fun vs σ H Q => ∃ ws Γ O S ρ Q', At K S ρ H O σ Γ ∧ RelWs K S ρ O.length vs ws ∧ g ws Γ O Q' ∧ KG K S ρ O.length H Q' Q
theorem _root_.L2.PGs.imp {tg : List Expr} {t t' : TGs} (h : PGs X tg t) (i : ∀ v σ H Q, t' v σ H Q → t v σ H Q) : PGs X tg t' := ⟨fun pins s σ H v u Q I r q => h.run pins s σ H v u Q I r (i v σ H Q q)⟩
theorem g_end : PGs X [] (iGs X.K gEnd) := L2.PGs.imp pgs_nil fun v σ H Q ⟨ws, Γ, O, S, ρ, Q', st, r, ⟨e, h⟩, kg⟩ => by
  subst e
  cases r
  exact ⟨rfl, kg Γ O S ρ σ H .refl st h⟩
theorem KG.ext {K : PySem.W.Frag} {S S1 : Hp} {ρ ρ1 : Nat → Addr} {n n1 : Nat} {H H1 : Hp} {Q' : Gm → List Ob → Prop} {Q : L2.St → Hp → Prop} (k : KG K S ρ n H Q' Q) (x : Ext S ρ n H S1 ρ1 n1 H1) : KG K S1 ρ1 n1 H1 Q' Q := fun a b c d e f y => k a b c d e f (x.trans y)
theorem g_cs {tg : Expr} {tgs : List Expr} {g : DG} {gs : List W → Gm → List Ob → (Gm → List Ob → Prop) → Prop} (h1 : PDG X tg g) (h2 : PGs X tgs (iGs X.K gs))
    (hs : (assignEach (tg :: tgs) X.env).map (·.2) = assign tg X.env :: (assignEach tgs X.env).map (·.2) := by rfl) : PGs X (tg :: tgs) (iGs X.K (gCs g gs)) := L2.PGs.imp (pgs_cons h1 h2 hs) fun v σ H Q ⟨ws, Γ, O, S, ρ, Q', st, r, h, kg⟩ => by
  unfold gCs at h
  split at h
  · cases r with
    | cons r rr =>
      exact ⟨_, _, rfl, _, Γ, O, S, ρ, _, st, r, h, fun Γ1 O1 S1 ρ1 σ1 H1 x1 st1 h1 => ⟨_, Γ1, O1, S1, ρ1, Q', st1, rr.ext x1, h1, kg.ext x1⟩⟩
  · exact h.elim
theorem g_tp {es : List Expr} {k n : Nat} {gs : List W → Gm → List Ob → (Gm → List Ob → Prop) → Prop} (hc : X.calm = true) (h : PGs X es (iGs X.K gs)) (hn : (assignEach es X.env).length = n := by rfl) (hst : (assignEach es X.env).findIdx? (·.1) = none := by rfl) : PDG X (.Tuple es k pos) (gTp n gs) :=
  (pg_tup hc h hn hst).imp fun v σ H Q ⟨w, Γ, O, S, ρ, Q', st, r, ⟨ws, e, hl, h⟩, kg⟩ => by
    obtain ⟨a, vs, rfl, h1, g1⟩ := tv_inv e r
    exact ⟨a, vs, rfl, SubH.sqT st.wd.sub h1, by rw [g1.length]; exact hl, ws, Γ, O, S, ρ, Q', st, g1, h, kg⟩
/-- o[i] = v of a list that may be changed -/
abbrev F3 := W → W → W → List Ob → (List Ob → Prop) → Prop
def fSetL : F3 := fun o i v O Q => match o, i with
  | .o k, .d (.int j) => ∃ ws m, O[k]? = some (.lst ws) ∧ ixN ws.length j = some m ∧ Q (O.set k (.lst (ws.set m v)))
  | _, _ => False
def rSet (K : PySem.W.Frag) (f : F3) : TSet := fun o i v H Q => ∃ wo wi wv O S ρ Q', Wd K S ρ O H ∧ RelW K S ρ O.length o wo ∧ RelW K S ρ O.length i wi ∧ RelW K S ρ O.length v wv ∧ f wo wi wv O Q' ∧ ∀ O' S' ρ' H', Ext S ρ O.length H S' ρ' O'.length H' → Wd K S' ρ' O' H' → Q' O' → Q H'
theorem _root_.L2.PSet.imp {t t' : TSet} (h : PSet X t) (i : ∀ o i v H Q, t' o i v H Q → t o i v H Q) : PSet X t' := fun pins s σ H o j v ov iv u Q I r1 r2 r3 q => h pins s σ H o j v ov iv u Q I r1 r2 r3 (i _ _ _ _ _ q)
theorem set_l : PSet X (rSet X.K fSetL) := L2.PSet.imp set_list fun o i v H Q ⟨wo, wi, wv, O, S, ρ, Q', wd, r1, r2, r3, q, kq⟩ => by
  unfold fSetL at q
  split at q
  · obtain ⟨ws, m, e, em, q⟩ := q
    cases r1 with
    | o hk z =>
      subst z
      cases r2 with
      | d r2 =>
        cases r2
        cases wd.own _ _ e with
        | lst h r =>
          obtain ⟨w1, x1⟩ := wd.write (u := .lst _) (ob' := .lst _) e (by intro z; cases z) (.lst upd_same (RelWs.set r3 m r))
          exact ⟨_, _, _, m, rfl, rfl, h, by rw [r.length]; exact em, kq _ _ _ _ x1 w1 q⟩
  · exact q.elim
def noX : DX := fun _ _ => False
def gSubD (to ti : DE) (f : F3) : DG := fun w Γ O Q => to Γ O (fun o O1 => ti Γ O1 (fun i O2 => f o i w O2 fun O3 => Q Γ O3) noX) noX
theorem KX.no {K : PySem.W.Frag} {S : Hp} {ρ : Nat → Addr} {n : Nat} {H : Hp} {σ : L2.St} : KX K S ρ n H σ noX Wx := fun _ _ _ _ _ _ _ _ _ _ q => q.elim
theorem g_sub {o i : Expr} {to ti : DE} {f : F3} (hs : PSet X (rSet X.K f)) (ho : PDE X Wx o to) (hi : PDE X Wx i ti)
    (ha : ∀ v, assign (.Subscript o i pos) X.env v = (do
      let ov ← holding [v] (eval o X.env)
      let iv ← holding [v, ov] (eval i X.env)
      standAt pos
      holding [v, ov, iv] (setItem ov iv v)
      release [v, ov, iv] []) := by intro _; rfl) : PDG X (.Subscript o i pos) (gSubD to ti f) :=
  (pg_sub ho hi hs ha).imp fun v σ H Q ⟨w, Γ, O, S, ρ, Q', st, r, h, kg⟩ => by
    refine ⟨Γ, O, S, ρ, _, _, st, h, fun w1 O1 S1 ρ1 v1 H1 x1 wd1 r1 h1 => ?_, .no⟩
    refine ⟨Γ, O1, S1, ρ1, _, _, st.ext x1 wd1, h1, fun w2 O2 S2 ρ2 v2 H2 x2 wd2 r2 h2 => ?_, .no⟩
    refine ⟨w1, w2, w, O2, S2, ρ2, _, wd2, r1.ext x2, r2, (r.ext x1).ext x2, h2, fun O3 S3 ρ3 H3 x3 wd3 h3 => ?_⟩
    have xx := x1.trans (x2.trans x3)
    exact kg Γ O3 S3 ρ3 σ H3 xx (st.ext xx wd3) h3
/-- target = e -/
def dAsg (t : DE) (g : DG) : DS := fun D Γ O => t Γ O (fun w O1 => g w Γ O1 D.nx) fun x O' => D.ex x Γ O'
theorem asg_read {g : DG} {D : Ends} {σ : L2.St} {H : Hp} (q : iS X.K Wx (dAsg t g) D σ H) : tAsg (iE X.K Wx t) (iG X.K g) D σ H := by
  obtain ⟨Γ, O, S, ρ, D', st, h, ks⟩ := q
  exact ⟨Γ, O, S, ρ, _, _, st, h, fun w1 O1 S1 ρ1 v1 H1 x1 wd1 r1 h1 => ⟨w1, Γ, O1, S1, ρ1, _, st.ext x1 wd1, r1, h1, fun Γ2 O2 S2 ρ2 σ2 H2 x2 st2 h2 => ks.nx Γ2 O2 S2 ρ2 σ2 H2 (x1.trans x2) st2 h2⟩, ks.kx st⟩
theorem s_asg {tg : Expr} {g : DG} (he : PDE X Wx e t) (hg : PDG X tg g) (hs : swapsWithSole [tg] e pos.line X.env = pure false := by rfl) (hw : swappedStores [tg] e X.env = pure none := by rfl)
    (h1 : (assignEach [tg] X.env).map (·.2) = [assign tg X.env] := by rfl) : PDS X Wx (.Assign [tg] e pos) (dAsg t g) := (ps_asg he hg hs hw h1).imp fun _ _ _ q => asg_read q
/-- name = e -/
def dSet (i : Nat) (t : DE) : DS := fun D Γ O => t Γ O (fun w O1 => D.nx (Γ.set i (some w)) O1) fun x O' => D.ex x Γ O'
theorem set_read {i : Nat} {D : Ends} {σ : L2.St} {H : Hp} (q : iS X.K Wx (dSet i t) D σ H) : tAsg (iE X.K Wx t) (gName i) D σ H := by
  obtain ⟨Γ, O, S, ρ, D', st, h, ks⟩ := q
  exact ⟨Γ, O, S, ρ, _, _, st, h, fun w1 O1 S1 ρ1 v1 H1 x1 wd1 r1 h1 => ks.nx _ O1 S1 ρ1 _ H1 x1 ((st.ext x1 wd1).set i r1) h1, ks.kx st⟩
theorem s_set {i : Nat} {x : Str} {pos' : Pos} (c : Bx X Wx) (he : PDE X Wx e t) (hi : X.N[i]? = some x := by rfl) (hx : Loc X.env.scope x := by first | exact Or.inl rfl | exact Or.inr rfl) (hs : swapsWith e (some (.Name x pos')) pos.line X.env = pure false := by rfl) (hf : X.fn x = true ∨ X.env.scope.names.lookup x = some .local := by first | exact .inl rfl | exact .inr rfl | assumption) :
    PDS X Wx (.Assign [.Name x pos'] e pos) (dSet i t) := (ps_set c.nd hi hx he hs hf).imp fun _ _ _ q => set_read q
/-- a, b = x, y (locals) -/
def dPar (i j : Nat) (u : DA) : DS := fun D Γ O => u Γ O (fun ws O1 => match ws with
  | [v, w] => D.nx ((Γ.set i (some v)).set j (some w)) O1
  | _ => False) fun x O' => D.ex x Γ O'
theorem s_par {i j : Nat} {x y : Str} {a b : Expr} {ta : DA} {px py pt : Pos} {kt k2 pt2} (c : Bx X Wx) (ha : PDA X Wx [a, b] ta) (hi : X.N[i]? = some x := by rfl) (hj : X.N[j]? = some y := by rfl) (hij : i ≠ j := by decide)
    (hx : X.env.scope.names.lookup x = some .local := by rfl) (hy : X.env.scope.names.lookup y = some .local := by rfl)
    (hw : swappedStores [.Tuple [.Name x px, .Name y py] kt pt] (.Tuple [a, b] k2 pt2) X.env = pure (some [x, y]) := by rfl)
    (hs : swapsWithSole [.Tuple [.Name x px, .Name y py] kt pt] (.Tuple [a, b] k2 pt2) pos.line X.env = pure false := by rfl) :
    PDS X Wx (.Assign [.Tuple [.Name x px, .Name y py] kt pt] (.Tuple [a, b] k2 pt2) pos) (dPar i j ta) := (ps_par c.calm c.nd hi hj hij hx hy ha hw hs).imp fun D σ H ⟨Γ, O, S, ρ, D', st, h, ks⟩ =>
  ⟨Γ, O, S, ρ, _, _, st, h, fun ws O1 S1 ρ1 vs H1 x1 wd1 r1 h1 => by
    dsimp only at h1
    split at h1
    · cases r1 with
      | cons r rr =>
        cases rr with
        | cons r2 rr =>
          cases rr
          exact ⟨_, _, rfl, ks.nx _ O1 S1 ρ1 _ H1 x1 (((st.ext x1 wd1).set i r).set j r2) h1⟩
    · exact h1.elim, ks.kx st⟩
/-- name op= e -/
def rIp (K : PySem.W.Frag) (f : F2) : TIp := rD K f
def dAug (i : Nat) (t : DE) (f : F2) : DS := fun D Γ O => match Γ[i]? with
  | some (some x) => t Γ O (fun y O1 => f x y O1 fun z O2 => D.nx (Γ.set i (some z)) O2) fun x O' => D.ex x Γ O'
  | _ => False
theorem s_aug {i : Nat} {x : Str} {op : Operator} {f : F2} {pos' : Pos} (c : Bx X Wx) (ho : OpD X (inplaceOp op) f) (he : PDE X Wx e t) (hi : X.N[i]? = some x := by rfl) (hx : Loc X.env.scope x := by first | exact Or.inl rfl | exact Or.inr rfl) (hf : X.fn x = true ∨ X.env.scope.names.lookup x = some .local := by first | exact .inl rfl | exact .inr rfl | assumption) :
    PDS X Wx (.AugAssign (.Name x pos') op e pos) (dAug i t f) := (ps_aug (ti := rD X.K f) c.nd hi hx he ho hf).imp fun D σ H ⟨Γ, O, S, ρ, D', st, h, ks⟩ => by
  unfold dAug at h
  split at h
  · rename_i w e1
    obtain ⟨v, e2, r⟩ := st.rs.2 i w e1
    refine ⟨v, e2, Γ, O, S, ρ, _, _, st, h, fun w1 O1 S1 ρ1 v1 H1 x1 wd1 r1 h1 => ?_, ks.kx st⟩
    exact ⟨w, w1, O1, S1, ρ1, _, wd1, r.ext x1, r1, h1, fun w2 O2 S2 ρ2 v2 H2 x2 wd2 r2 h2 => ks.nx _ O2 S2 ρ2 _ H2 (x1.trans x2) ((st.ext (x1.trans x2) wd2).set i r2) h2⟩
  · exact h.elim
end

/-! ### while -/
section
variable {X : Cx} {Wx : WX} {pos : Pos}
def dWh (c : DT) (b : DS) : Nat → DS
  | 0 => fun _ _ _ => False
  | n + 1 => fun D Γ O => ∃ N : Gm → List Ob → Prop, (∀ Γ' O', N Γ' O' → dWh c b n D Γ' O') ∧ c Γ O (fun k O1 => if k = true then b { D with nx := N, ct := N, bk := D.nx } Γ O1 else D.nx Γ O1) fun x O' => D.ex x Γ O'
def dWhile (c : DT) (b : DS) : DS := fun D Γ O => ∃ n, dWh c b n D Γ O
theorem s_while {ce : Expr} {body : List Stmt} {c : DT} {b : DS} (bx : Bx X Wx) (hc : PDT X Wx ce c) (hb : PDSs X Wx body b) : PDS X Wx (.While ce body [] pos) (dWhile c b) := (ps_while bx.hp hc hb).imp fun D σ H ⟨Γ, O, S, ρ, D', st, ⟨n, h⟩, ks⟩ => by
  refine ⟨fun m σ1 H1 => ∃ Γ1 O1 S1 ρ1, Ext S ρ O.length H S1 ρ1 O1.length H1 ∧ At X.K S1 ρ1 H1 O1 σ1 Γ1 ∧ dWh c b m D' Γ1 O1, ⟨n, Γ, O, S, ρ, .refl, st, h⟩, ?_⟩
  rintro m σ1 H1 ⟨Γ1, O1, S1, ρ1, x1, st1, h1⟩
  cases m with
  | zero => exact h1.elim
  | succ m =>
    obtain ⟨N, hN, h1⟩ := h1
    refine ⟨Γ1, O1, S1, ρ1, _, _, st1, h1, fun k O2 S2 ρ2 H2 x2 wd2 h2 => ?_, (ks.ext x1).kx st1⟩
    have x12 := x1.trans x2
    cases k with
    | false =>
      dsimp only at h2 ⊢
      rw [if_neg (by decide)] at h2 ⊢
      exact ks.nx Γ1 O2 S2 ρ2 σ1 H2 x12 (st1.ext x2 wd2) h2
    | true =>
      dsimp only at h2 ⊢
      rw [if_pos rfl] at h2 ⊢
      refine ⟨fun σ3 H3 => ∃ Γ3 O3 S3 ρ3, Ext S ρ O.length H S3 ρ3 O3.length H3 ∧ At X.K S3 ρ3 H3 O3 σ3 Γ3 ∧ dWh c b m D' Γ3 O3, fun σ' H' q => ⟨m, Nat.lt_succ_self _, q⟩, Γ1, O2, S2, ρ2, _, st1.ext x2 wd2, h2, ?_⟩
      exact ⟨fun Γ3 O3 S3 ρ3 σ3 H3 x3 st3 h3 => ⟨Γ3, O3, S3, ρ3, x12.trans x3, st3, hN _ _ h3⟩, (ks.ext x12).rt, fun Γ3 O3 S3 ρ3 σ3 H3 x3 st3 h3 => ks.nx Γ3 O3 S3 ρ3 σ3 H3 (x12.trans x3) st3 h3,
        fun Γ3 O3 S3 ρ3 σ3 H3 x3 st3 h3 => ⟨Γ3, O3, S3, ρ3, x12.trans x3, st3, hN _ _ h3⟩, (ks.ext x12).ex⟩
end

/-! ### what is walked -/
/-- the iterator J goes through items, as long as chk holds of the objects -/
structure ItR (K : PySem.W.Frag) (S : Hp) (ρ : Nat → Addr) (n : Nat) (H : Hp) (J : It) (items : List W) (chk : List Ob → Prop) : Prop where
  go : ∀ i O' S' ρ' H', Ext S ρ n H S' ρ' O'.length H' → Wd K S' ρ' O' H' → chk O' → i < items.length → J.go i H'
  yld : ∀ i w O' S' ρ' H' x H'', Ext S ρ n H S' ρ' O'.length H' → Wd K S' ρ' O' H' → chk O' → items[i]? = some w → J.yld i H' x H'' → ∃ S'', Ext S' ρ' O'.length H' S'' ρ' O'.length H'' ∧ Wd K S'' ρ' O' H'' ∧ RelW K S'' ρ' O'.length x w
  stop : ∀ O' S' ρ' H', Ext S ρ n H S' ρ' O'.length H' → Wd K S' ρ' O' H' → chk O' → J.stop items.length H'
abbrev DI := Gm → List Ob → (List W → (List Ob → Prop) → List Ob → Prop) → DX → Prop
def iI (K : PySem.W.Frag) (Wx : WX) (t : DI) : TI := fun σ H R => ∃ Γ O S ρ Q' E', At K S ρ H O σ Γ ∧ t Γ O Q' E' ∧
  (∀ items chk O' S' ρ' J H', Ext S ρ O.length H S' ρ' O'.length H' → Wd K S' ρ' O' H' → ItR K S' ρ' O'.length H' J items chk → Q' items chk O' → R J H') ∧ KX K S ρ O.length H σ E' Wx
abbrev PDI (X : Cx) (Wx : WX) (tg e : Expr) (t : DI) : Prop := PI X tg e (iI X.K Wx t)
theorem _root_.L2.PI.imp {X : Cx} {tg e : Expr} {t t' : TI} (h : PI X tg e t) (i : ∀ σ H R, t' σ H R → t σ H R) : PI X tg e t' := ⟨fun pins s σ H R I q => h.run pins s σ H R I (i σ H R q)⟩
theorem ItR.ext {K : PySem.W.Frag} {S S1 : Hp} {ρ ρ1 : Nat → Addr} {n n1 : Nat} {H H1 : Hp} {J : It} {items : List W} {chk : List Ob → Prop} (h : ItR K S ρ n H J items chk) (x : Ext S ρ n H S1 ρ1 n1 H1) : ItR K S1 ρ1 n1 H1 J items chk :=
  ⟨fun i O' S' ρ' H' y => h.go i O' S' ρ' H' (x.trans y), fun i w O' S' ρ' H' z H'' y => h.yld i w O' S' ρ' H' z H'' (x.trans y), fun O' S' ρ' H' y => h.stop O' S' ρ' H' (x.trans y)⟩
def dForL (g : DG) (b : DS) (chk : List Ob → Prop) : List W → DS
  | [] => fun D Γ O => chk O ∧ D.nx Γ O
  | w :: ws => fun D Γ O => chk O ∧ ∃ N : Gm → List Ob → Prop, (∀ Γ' O', N Γ' O' → dForL g b chk ws D Γ' O') ∧ g w Γ O fun Γ1 O1 => b { D with nx := N, ct := N, bk := D.nx } Γ1 O1
def dFor (it : DI) (g : DG) (b : DS) : DS := fun D Γ O => it Γ O (fun items chk O1 => dForL g b chk items D Γ O1) fun x O' => D.ex x Γ O'
theorem dForL_chk {g : DG} {b : DS} {chk : List Ob → Prop} {ws : List W} {D : DEnds} {Γ : Gm} {O : List Ob} (h : dForL g b chk ws D Γ O) : chk O := by
  cases ws with
  | nil => exact h.1
  | cons _ _ => exact h.1
section
variable {X : Cx} {Wx : WX} {pos : Pos}
theorem s_for {tg iter : Expr} {body : List Stmt} {it : DI} {g : DG} {b : DS} (bx : Bx X Wx) (hi : PDI X Wx tg iter it) (hg : PDG X tg g) (hb : PDSs X Wx body b)
    (hs : ∀ x, foldedSetIterable iter X.env x = pure x := by intro _; rfl) : PDS X Wx (.For tg iter body [] pos) (dFor it g b) := (ps_for bx.hp bx.calm hi hg hb hs).imp fun D σ H ⟨Γ, O, S, ρ, D', st, h, ks⟩ => by
  refine ⟨Γ, O, S, ρ, _, _, st, h, fun items chk O1 S1 ρ1 J H1 x1 wd1 ir h1 => ?_, ks.kx st⟩
  refine ⟨fun i m σ2 H2 => ∃ Γ2 O2 S2 ρ2, Ext S1 ρ1 O1.length H1 S2 ρ2 O2.length H2 ∧ At X.K S2 ρ2 H2 O2 σ2 Γ2 ∧ i ≤ items.length ∧ m = items.length - i ∧ dForL g b chk (items.drop i) D' Γ2 O2,
    ⟨items.length, Γ, O1, S1, ρ1, .refl, st.ext x1 wd1, Nat.zero_le _, by simp, h1⟩, ?_⟩
  rintro i m σ2 H2 ⟨Γ2, O2, S2, ρ2, x2, st2, hi2, rfl, h2⟩
  by_cases hlt : i < items.length
  · have ew : items[i]? = some items[i] := List.getElem?_eq_getElem hlt
    rw [List.drop_eq_getElem_cons hlt] at h2
    refine .inr ⟨ir.go i O2 S2 ρ2 H2 x2 st2.wd h2.1 hlt, fun σ3 H3 => ∃ Γ3 O3 S3 ρ3, Ext S1 ρ1 O1.length H1 S3 ρ3 O3.length H3 ∧ At X.K S3 ρ3 H3 O3 σ3 Γ3 ∧ dForL g b chk (items.drop (i + 1)) D' Γ3 O3,
      fun σ3 H3 ⟨Γ3, O3, S3, ρ3, x3, st3, h3⟩ => ⟨items.length - (i + 1), by omega, Γ3, O3, S3, ρ3, x3, st3, hlt, rfl, h3⟩, fun x H' y => ?_⟩
    obtain ⟨S3, x3, wd3, r3⟩ := ir.yld i _ O2 S2 ρ2 H2 x H' x2 st2.wd h2.1 ew y
    obtain ⟨_, N, hN, h2⟩ := h2
    have x23 := x2.trans x3
    have x123 := x1.trans x23
    refine ⟨_, Γ2, O2, S3, ρ2, _, st2.ext x3 wd3, r3, h2, fun Γ4 O4 S4 ρ4 σ4 H4 x4 st4 h4 => ⟨Γ4, O4, S4, ρ4, _, st4, h4, ?_⟩⟩
    have x234 := x23.trans x4
    have kk := ks.ext (x123.trans x4)
    exact ⟨fun Γ5 O5 S5 ρ5 σ5 H5 x5 st5 h5 => ⟨Γ5, O5, S5, ρ5, x234.trans x5, st5, hN _ _ h5⟩, kk.rt, fun Γ5 O5 S5 ρ5 σ5 H5 x5 st5 h5 => kk.nx Γ5 O5 S5 ρ5 σ5 H5 x5 st5 h5, fun Γ5 O5 S5 ρ5 σ5 H5 x5 st5 h5 => ⟨Γ5, O5, S5, ρ5, x234.trans x5, st5, hN _ _ h5⟩, kk.ex⟩
  · have e : i = items.length := by omega
    subst e
    rw [List.drop_length] at h2
    exact .inl ⟨ir.stop O2 S2 ρ2 H2 x2 st2.wd h2.1, ks.nx Γ2 O2 S2 ρ2 σ2 H2 (x1.trans x2) st2 h2.2⟩

/-! ### iterators -/
def tt0 : List Ob → Prop := fun _ => True
/-- a list: its items; one that may be changed must stand as it is through the loop -/
def dItL (t : DE) : DI := fun Γ O Q E => t Γ O (fun w O1 => match w with
  | .d (.list xs) => Q (xs.map .d) tt0 O1
  | .rl xs => Q (xs.map .d) tt0 O1
  | .o k => ∃ ws, O1[k]? = some (.lst ws) ∧ Q ws (fun O2 => O2[k]? = some (.lst ws)) O1
  | _ => False) E
theorem itr_list {K : PySem.W.Frag} {S : Hp} {ρ : Nat → Addr} {n : Nat} {H : Hp} {a : Addr} {ws : List W} {chk : List Ob → Prop}
    (h : ∀ O' S' ρ' H', Ext S ρ n H S' ρ' O'.length H' → Wd K S' ρ' O' H' → chk O' → ∃ vs, SqL K H' a vs ∧ RelWs K S' ρ' O'.length vs ws) : ItR K S ρ n H (Itl K a) ws chk where
  go := fun i O' S' ρ' H' x wd c hi => by
    obtain ⟨vs, h1, h2⟩ := h O' S' ρ' H' x wd c
    obtain ⟨v, h3, _⟩ := h2.get (List.getElem?_eq_getElem hi)
    exact ⟨vs, v, h1, h3⟩
  yld := fun i w O' S' ρ' H' x H'' ex wd c hi y => by
    obtain ⟨vs, h1, h2⟩ := h O' S' ρ' H' ex wd c
    obtain ⟨v, h3, h4⟩ := h2.get hi
    obtain ⟨rfl, y⟩ := y
    have e : some v = some x := h3.symm.trans (y vs h1)
    cases e
    exact ⟨S', .refl, wd, h4⟩
  stop := fun O' S' ρ' H' x wd c => by
    obtain ⟨vs, h1, h2⟩ := h O' S' ρ' H' x wd c
    exact ⟨vs, h1, by rw [h2.length]; exact Nat.le_refl _⟩
theorem wd_list {K : PySem.W.Frag} {S : Hp} {ρ : Nat → Addr} {H : Hp} {O : List Ob} {v : V} {w : W} {xs : List PyData} (wd : Wd K S ρ O H) (h : w = .d (.list xs) ∨ w = .rl xs) (r : RelW K S ρ O.length v w) :
    ∃ a, v = .ref a ∧ ∀ O' S' ρ' H', Ext S ρ O.length H S' ρ' O'.length H' → Wd K S' ρ' O' H' → tt0 O' → ∃ vs, SqL K H' a vs ∧ RelWs K S' ρ' O'.length vs (xs.map .d) := by
  rcases h with rfl | rfl
  · cases r with
    | d r =>
      cases r with
      | lst h r => exact ⟨_, rfl, fun O' S' ρ' H' x wd' _ => ⟨_, .of (wd'.sub _ _ (x.sub _ _ h)), (r.sub x.sub).relWs⟩⟩
  · cases r with
    | rl h r => exact ⟨_, rfl, fun O' S' ρ' H' x wd' _ => ⟨_, SubH.sqL wd'.sub (SubH.sqL x.sub h), (r.sub x.sub).relWs⟩⟩
theorem wd_own {K : PySem.W.Frag} {S : Hp} {ρ : Nat → Addr} {H : Hp} {O : List Ob} {v : V} {k : Nat} {ws : List W} (r : RelW K S ρ O.length v (.o k)) :
    ∃ a, v = .ref a ∧ ∀ O' S' ρ' H', Ext S ρ O.length H S' ρ' O'.length H' → Wd K S' ρ' O' H' → O'[k]? = some (.lst ws) → ∃ vs, SqL K H' a vs ∧ RelWs K S' ρ' O'.length vs ws := by
  cases r with
  | o hk z =>
    subst z
    refine ⟨_, rfl, fun O' S' ρ' H' x wd' e => ?_⟩
    have q := wd'.own k _ e
    rw [x.rho k hk] at q
    cases q with
    | lst h r => exact ⟨_, .of h, r⟩
variable {tg e : Expr} {t : DE}
theorem it_l (h : PDE X Wx e t) : PDI X Wx tg e (dItL t) := (pi_list h).imp fun σ H R ⟨Γ, O, S, ρ, Q', E', st, h, kq, kx⟩ => ⟨Γ, O, S, ρ, _, E', st, h, fun w1 O1 S1 ρ1 v1 H1 x1 wd1 r1 h1 => by
  dsimp only at h1
  split at h1
  · obtain ⟨a, rfl, hl⟩ := wd_list wd1 (.inl rfl) r1
    obtain ⟨vs, h2, _⟩ := hl O1 S1 ρ1 H1 .refl wd1 trivial
    exact ⟨a, rfl, ⟨vs, h2⟩, kq _ _ O1 S1 ρ1 _ H1 x1 wd1 (itr_list hl) h1⟩
  · obtain ⟨a, rfl, hl⟩ := wd_list wd1 (.inr rfl) r1
    obtain ⟨vs, h2, _⟩ := hl O1 S1 ρ1 H1 .refl wd1 trivial
    exact ⟨a, rfl, ⟨vs, h2⟩, kq _ _ O1 S1 ρ1 _ H1 x1 wd1 (itr_list hl) h1⟩
  · obtain ⟨ws, ek, h1⟩ := h1
    obtain ⟨a, rfl, hl⟩ := wd_own (ws := ws) r1
    obtain ⟨vs, h2, _⟩ := hl O1 S1 ρ1 H1 .refl wd1 ek
    exact ⟨a, rfl, ⟨vs, h2⟩, kq _ _ O1 S1 ρ1 _ H1 x1 wd1 (itr_list hl) h1⟩
  · exact h1.elim, kx⟩
def dItT (t : DE) : DI := fun Γ O Q E => t Γ O (fun w O1 => ∃ ws, tv w = some ws ∧ Q ws tt0 O1) E
theorem it_t (h : PDE X Wx e t) : PDI X Wx tg e (dItT t) := (pi_tup h).imp fun σ H R ⟨Γ, O, S, ρ, Q', E', st, h, kq, kx⟩ => ⟨Γ, O, S, ρ, _, E', st, h, fun w1 O1 S1 ρ1 v1 H1 x1 wd1 r1 h1 => by
  obtain ⟨ws, ew, h1⟩ := h1
  obtain ⟨a, vs, rfl, hT, g⟩ := tv_inv ew r1
  refine ⟨a, rfl, ⟨vs, SubH.sqT wd1.sub hT⟩, kq _ _ O1 S1 ρ1 _ H1 x1 wd1 ⟨fun i O' S' ρ' H' x wd _ hi => ?_, fun i w O' S' ρ' H' x H'' ex wd _ hi y => ?_, fun O' S' ρ' H' x wd _ => ?_⟩ h1⟩
  · obtain ⟨v, h3, _⟩ := g.get (List.getElem?_eq_getElem hi)
    exact ⟨vs, v, SubH.sqT wd.sub (SubH.sqT x.sub hT), h3⟩
  · obtain ⟨v, h3, h4⟩ := g.get hi
    obtain ⟨rfl, y⟩ := y
    have e : some v = some x := h3.symm.trans (y vs (SubH.sqT wd.sub (SubH.sqT ex.sub hT)))
    cases e
    exact ⟨S', .refl, wd, h4.ext ex⟩
  · exact ⟨vs, SubH.sqT wd.sub (SubH.sqT x.sub hT), by rw [g.length]; exact Nat.le_refl _⟩, kx⟩
/-- reversed(list or tuple) -/
def dItRv (t : DE) : DI := fun Γ O Q E => t Γ O (fun w O1 => ∃ ws, tv w = some ws ∧ Q ws.reverse tt0 O1) E
theorem it_rv {p pos : Pos} (hm : X.mg "reversed" = none) (h : PDE X Wx e t) (hg : Gl X "reversed" := by rfl) (hs : starEach [e] X.env = (false, eval e X.env) :: starEach [] X.env := by rfl) : PDI X Wx tg (.Call (.Name "reversed" p) [e] [] pos) (dItRv t) :=
  (RT.pi_revA hg hm h hs).imp fun σ H R ⟨Γ, O, S, ρ, Q', E', st, h, kq, kx⟩ => ⟨Γ, O, S, ρ, _, E', st, h, fun w1 O1 S1 ρ1 v1 H1 x1 wd1 r1 h1 => by
  obtain ⟨ws, ew, h1⟩ := h1
  obtain ⟨a, vs, rfl, hT, g⟩ := tv_inv ew r1
  have gl := g.length
  have rg : ∀ i : Nat, i < ws.length → ws.reverse[i]? = ws[ws.length - 1 - i]? := fun i hi => List.getElem?_reverse hi
  refine ⟨a, vs, rfl, .inr ⟨SubH.sqT wd1.sub hT, kq _ _ O1 S1 ρ1 _ H1 x1 wd1 ⟨fun i O' S' ρ' H' x wd _ hi => ?_, fun i w O' S' ρ' H' x H'' ex wd _ hi y => ?_, fun O' S' ρ' H' x wd _ => ?_⟩ h1⟩⟩
  · rw [List.length_reverse] at hi
    have hlt : ws.length - 1 - i < ws.length := by omega
    obtain ⟨v, h3, _⟩ := g.get (List.getElem?_eq_getElem hlt)
    exact ⟨by omega, vs, v, SubH.sqT wd.sub (SubH.sqT x.sub hT), by rw [gl]; exact h3⟩
  · have hi' : i < ws.length := by
      have := (List.getElem?_eq_some_iff.mp hi).1
      simpa using this
    rw [rg i hi'] at hi
    obtain ⟨v, h3, h4⟩ := g.get hi
    obtain ⟨rfl, y⟩ := y
    have q := y vs (SubH.sqT wd.sub (SubH.sqT ex.sub hT))
    rw [gl] at q
    have e : some v = some x := h3.symm.trans q
    cases e
    exact ⟨S', .refl, wd, h4.ext ex⟩
  · show vs.length ≤ ws.reverse.length
    rw [List.length_reverse, gl]; exact Nat.le_refl _, kx⟩
/-- range(n), range(a, b) -/
def rng (lo : Int) (n : Nat) : List W := (List.range n).map fun (i : Nat) => .d (.int (lo + (i : Int)))
theorem itr_rng {K : PySem.W.Frag} {S : Hp} {ρ : Nat → Addr} {n : Nat} {H : Hp} (lo : Int) (m : Nat) : ItR K S ρ n H (Itr lo m) (rng lo m) tt0 where
  go := fun i O' S' ρ' H' x wd c hi => by
    show i < m
    simpa [rng] using hi
  yld := fun i w O' S' ρ' H' x H'' ex wd c hi y => by
    obtain ⟨rfl, rfl⟩ := y
    have hlt : i < m := by
      have := (List.getElem?_eq_some_iff.mp hi).1
      simpa [rng] using this
    have e : w = .d (.int (lo + (i : Int))) := by
      simp [rng, List.getElem?_range hlt] at hi
      exact hi.symm
    subst e
    exact ⟨S', .refl, wd, .d (.int _)⟩
  stop := fun O' S' ρ' H' x wd c => by
    show m ≤ (rng lo m).length
    simp [rng]
def dItR1 (u : DA) : DI := fun Γ O Q E => u Γ O (fun ws O1 => match ws with
  | [.d (.int j)] => -(2 ^ 62) ≤ j ∧ j < 2 ^ 62 ∧ Q (rng 0 j.toNat) tt0 O1
  | _ => False) E
def dItR2 (u : DA) : DI := fun Γ O Q E => u Γ O (fun ws O1 => match ws with
  | [.d (.int i), .d (.int j)] => (-(2 ^ 62) ≤ i ∧ i < 2 ^ 62 ∧ -(2 ^ 62) ≤ j ∧ j < 2 ^ 62) ∧ Q (rng i (j - i).toNat) tt0 O1
  | _ => False) E
theorem it_r1 {a : Expr} {u : DA} {p pos : Pos} (hm : X.mg "range" = none) (ha : PDA X Wx [a] u) (hg : Gl X "range" := by rfl) (hs : starEach [a] X.env = [(false, eval a X.env)] := by rfl) : PDI X Wx tg (.Call (.Name "range" p) [a] [] pos) (dItR1 u) :=
  (pi_range1 hg hm ha hs).imp fun σ H R ⟨Γ, O, S, ρ, Q', E', st, h, kq, kx⟩ => ⟨Γ, O, S, ρ, _, E', st, h, fun ws O1 S1 ρ1 vs H1 x1 wd1 r1 h1 => by
    dsimp only at h1
    split at h1
    · cases r1 with
      | cons r rr =>
        cases rr
        cases r with
        | d r =>
          cases r
          exact ⟨_, rfl, h1.1, h1.2.1, kq _ _ O1 S1 ρ1 _ H1 x1 wd1 (itr_rng _ _) h1.2.2⟩
    · exact h1.elim, kx⟩
theorem it_r2 {a b : Expr} {u : DA} {p pos : Pos} (hm : X.mg "range" = none) (ha : PDA X Wx [a, b] u) (hg : Gl X "range" := by rfl) (hs : starEach [a, b] X.env = [(false, eval a X.env), (false, eval b X.env)] := by rfl) (hs2 : starEach [b] X.env = [(false, eval b X.env)] := by rfl) : PDI X Wx tg (.Call (.Name "range" p) [a, b] [] pos) (dItR2 u) :=
  (pi_range2 hg hm ha hs hs2).imp fun σ H R ⟨Γ, O, S, ρ, Q', E', st, h, kq, kx⟩ => ⟨Γ, O, S, ρ, _, E', st, h, fun ws O1 S1 ρ1 vs H1 x1 wd1 r1 h1 => by
    dsimp only at h1
    split at h1
    · cases r1 with
      | cons r rr =>
        cases rr with
        | cons r2 rr =>
          cases rr
          cases r with
          | d r =>
            cases r
            cases r2 with
            | d r2 =>
              cases r2
              exact ⟨_, _, rfl, h1.1, kq _ _ O1 S1 ρ1 _ H1 x1 wd1 (itr_rng _ _) h1.2⟩
    · exact h1.elim, kx⟩
end
end UZ
/-! UZ, part E: promises of defs over data; calls; comprehensions; methods of lists; isinstance. -/
namespace UZ
open PySem PySem.Spec PyProof.Rows L2

/-! ### what leans on the first n objects alone -/
mutual
inductive Sc (n : Nat) : W → Prop
  | d {x : PyData} : Sc n (.d x)
  | o {k : Nat} : k < n → Sc n (.o k)
  | tp {ws : List W} : ScL n ws → Sc n (.tp ws)
  | rl {xs : List PyData} : Sc n (.rl xs)
  | v {y : V} : Sc n (.v y)
  | exc {a d : Addr} {fs : List (Str × PyData)} : Sc n (.exc a d fs)
  | gl {x : Str} : Sc n (.gl x)
  | xv {x : Str} {fs : List (Str × PyData)} : Sc n (.xv x fs)
inductive ScL (n : Nat) : List W → Prop
  | nil : ScL n []
  | cons {w : W} {ws : List W} : Sc n w → ScL n ws → ScL n (w :: ws)
end
theorem ScL.map {n : Nat} : ∀ xs : List PyData, ScL n (xs.map .d)
  | [] => .nil
  | _ :: xs => .cons .d (ScL.map xs)
inductive ScF {κ : Type} (n : Nat) : List (κ × W) → Prop
  | nil : ScF n []
  | cons {k : κ} {w : W} {ws : List (κ × W)} : Sc n w → ScF n ws → ScF n ((k, w) :: ws)
def ScO (n : Nat) : Ob → Prop
  | .lst ws => ScL n ws
  | .dK ws => ScF n ws
  | .dT ws => ScF n ws
  | .ins _ ws => ScF n ws
  | .dead => True
section
variable {K : PySem.W.Frag} {S S' : Hp} {ρ : Nat → Addr} {n m : Nat}
mutual
theorem RelW.sc : ∀ {v : V} {w : W}, RelW K S ρ n v w → Sc n w
  | _, _, .d _ => .d
  | _, _, .o h _ => .o h
  | _, _, .tp _ r => .tp (RelWs.sc r)
  | _, _, .rl _ _ => .rl
  | _, _, .v => .v
  | _, _, .exc _ _ => .exc
  | _, _, .gl _ => .gl
  | _, _, .xv _ _ _ => .xv
theorem RelWs.sc : ∀ {v : List V} {w : List W}, RelWs K S ρ n v w → ScL n w
  | _, _, .nil => .nil
  | _, _, .cons h r => .cons (RelW.sc h) (RelWs.sc r)
end
theorem RelF.sc {κ : Type} : ∀ {v : List (κ × V)} {w : List (κ × W)}, RelF K S ρ n v w → ScF n w
  | _, _, .nil => .nil
  | _, _, .cons h r => .cons h.sc (RelF.sc r)
theorem ObR.sc {H : Hp} {a : Addr} {ob : Ob} (h : ObR K S ρ n H a ob) : ScO n ob := by
  cases h with
  | lst _ r => exact r.sc
  | dK _ r => exact r.sc
  | dT _ r => exact r.sc
  | ins _ r => exact r.sc
  | dead => trivial
mutual
theorem RelW.low : ∀ {v : V} {w : W}, RelW K S ρ n v w → Sc m w → RelW K S ρ m v w
  | _, _, .d h, _ => .d h
  | _, _, .o _ h, .o q => .o q h
  | _, _, .tp h r, .tp q => .tp h (RelWs.low r q)
  | _, _, .rl h r, _ => .rl h r
  | _, _, .v, _ => .v
  | _, _, .exc h r, _ => .exc h r
  | _, _, .gl h, _ => .gl h
  | _, _, .xv c h q, _ => .xv c h q
theorem RelWs.low : ∀ {v : List V} {w : List W}, RelWs K S ρ n v w → ScL m w → RelWs K S ρ m v w
  | _, _, .nil, _ => .nil
  | _, _, .cons h r, .cons q q2 => .cons (RelW.low h q) (RelWs.low r q2)
end
theorem RelF.low {κ : Type} : ∀ {v : List (κ × V)} {w : List (κ × W)}, RelF K S ρ n v w → ScF m w → RelF K S ρ m v w
  | _, _, .nil, _ => .nil
  | _, _, .cons h r, .cons q q2 => .cons (h.low q) (RelF.low r q2)
theorem ObR.low {H : Hp} {a : Addr} {ob : Ob} (h : ObR K S ρ n H a ob) (q : ScO m ob) : ObR K S ρ m H a ob := by
  cases h with
  | lst h r => exact .lst h (r.low q)
  | dK h r => exact .dK h (r.low q)
  | dT h r => exact .dT h (r.low q)
  | ins h r => exact .ins h (r.low q)
  | dead => exact .dead
end
mutual
/-- resolved without the first n objects -/
inductive RsN (n : Nat) (O : List Ob) : W → PyData → Prop
  | d {x : PyData} : RsN n O (.d x) x
  | o {k : Nat} {ws : List W} {xs : List PyData} : n ≤ k → O[k]? = some (.lst ws) → RsNL n O ws xs → RsN n O (.o k) (.list xs)
  | tp {ws : List W} {xs : List PyData} : RsNL n O ws xs → RsN n O (.tp ws) (.tuple xs)
inductive RsNL (n : Nat) (O : List Ob) : List W → List PyData → Prop
  | nil : RsNL n O [] []
  | cons {w : W} {ws : List W} {x : PyData} {xs : List PyData} : RsN n O w x → RsNL n O ws xs → RsNL n O (w :: ws) (x :: xs)
end
theorem RsNL.map {n : Nat} {O : List Ob} : ∀ xs : List PyData, RsNL n O (xs.map .d) xs
  | [] => .nil
  | _ :: xs => .cons .d (RsNL.map xs)
def OkTake (O O1 : List Ob) : Prop := ∀ (k : Nat) ob, k < O.length → O1[k]? = some ob → O[k]? = some ob ∨ ScO O.length ob
theorem OkTake.refl (O : List Ob) : OkTake O O := fun _ _ _ h => .inl h
theorem OkTake.app (O X : List Ob) : OkTake O (O ++ X) := fun k ob hk h => by rw [List.getElem?_append_left hk] at h; exact .inl h
theorem OkTake.set {O O1 : List Ob} (h : OkTake O O1) {k : Nat} {ob : Ob} (s : ScO O.length ob) : OkTake O (O1.set k ob) := fun j o hj e => by
  by_cases z : j = k
  · subst z
    have hl := (List.getElem?_eq_some_iff.mp e).1
    rw [List.getElem?_set_self (by simpa using hl)] at e
    cases e
    exact .inr s
  · rw [List.getElem?_set_ne (Ne.symm z)] at e
    exact h j o hj e
section
variable {K : PySem.W.Frag} {S S1 : Hp} {ρ ρ1 : Nat → Addr} {H H1 : Hp} {O O1 : List Ob}
/-- THE END OF A DEF: all objects made in it are data from now on -/
theorem settle (wd0 : Wd K S ρ O H) (x1 : Ext S ρ O.length H S1 ρ1 O1.length H1) (wd1 : Wd K S1 ρ1 O1 H1) (ok : OkTake O O1) :
    ∃ S2, Ext S ρ O.length H S2 ρ1 (O1.take O.length).length H1 ∧ Wd K S2 ρ1 (O1.take O.length) H1 ∧ SubH S1 S2 ∧ (∀ k ws vs, O.length ≤ k → O1[k]? = some (.lst ws) → H1 (ρ1 k) = some (.lst vs) → S2 (ρ1 k) = some (.lst vs)) := by
  have hl : (O1.take O.length).length = O.length := by rw [List.length_take]; exact Nat.min_eq_left x1.le
  have tk : ∀ k, k < O.length → (O1.take O.length)[k]? = O1[k]? := fun k hk => by rw [List.getElem?_take]; exact if_pos hk
  have tk' : ∀ k ob, (O1.take O.length)[k]? = some ob → k < O.length ∧ O1[k]? = some ob := fun k ob e => by
    have h1 := (List.getElem?_eq_some_iff.mp e).1
    rw [hl] at h1
    rw [tk k h1] at e
    exact ⟨h1, e⟩
  let P : Addr → Prop := fun a => ∃ k ob, O.length ≤ k ∧ O1[k]? = some ob ∧ ob ≠ .dead ∧ ρ1 k = a
  have dec : ∀ a, Decidable (P a) := fun a => Classical.propDecidable _
  let S2 : Hp := fun a => @ite _ (P a) (dec a) (H1 a) (S1 a)
  have s2y : ∀ a, P a → S2 a = H1 a := fun a h => if_pos h
  have s2n : ∀ a, ¬ P a → S2 a = S1 a := fun a h => if_neg h
  have s12 : SubH S1 S2 := fun a o e => by
    by_cases p : P a
    · rw [s2y a p]; exact wd1.sub a o e
    · rw [s2n a p]; exact e
  refine ⟨S2, ⟨by omega, x1.sub.trans s12, x1.rho, fun k h1 h2 => by omega, x1.dom, x1.frame, fun a o h hs hk => ?_⟩, ⟨fun a o e => ?_, fun k ob e => ?_, fun k ob e hd => ?_, fun i j a b e1 e2 => ?_, fun k hk => wd1.th k (by have := x1.le; omega)⟩, s12, fun k ws vs hk e h => ?_⟩
  · rw [s2n a]
    · exact x1.sfr a o h hs hk
    · rintro ⟨k, ob, h1, h2, _, h4⟩
      have q := x1.new k h1 (Wd.lt h2)
      rw [h4, h] at q; cases q
  · by_cases p : P a
    · rw [s2y a p] at e; exact e
    · rw [s2n a p] at e; exact wd1.sub a o e
  · obtain ⟨hk, e⟩ := tk' k ob e
    rw [hl]
    have q := (wd1.own k ob e).mono s12 (fun _ _ => rfl) (Nat.le_refl _)
    refine q.low ?_
    rcases ok k ob hk e with z | z
    · exact (wd0.own k ob z).sc
    · exact z
  · obtain ⟨hk, e⟩ := tk' k ob e
    rw [s2n]
    · exact wd1.sep k ob e hd
    · rintro ⟨j, oj, h1, h2, h3, h4⟩
      have := wd1.inj j k oj ob h2 e h3 hd h4
      omega
  · obtain ⟨_, e1⟩ := tk' _ _ e1
    obtain ⟨_, e2⟩ := tk' _ _ e2
    exact wd1.inj i j a b e1 e2
  · rw [s2y (ρ1 k) ⟨k, _, hk, e, (fun z => nomatch z), rfl⟩]; exact h
mutual
theorem RsN.rep {S2 : Hp} {n : Nat} (wd1 : Wd K S1 ρ1 O1 H1) (s : SubH S1 S2) (g : ∀ k ws vs, n ≤ k → O1[k]? = some (.lst ws) → H1 (ρ1 k) = some (.lst vs) → S2 (ρ1 k) = some (.lst vs)) :
    ∀ {v : V} {w : W} {x : PyData}, RsN n O1 w x → RelW K S1 ρ1 O1.length v w → Rep K S2 v x
  | _, _, _, .d, r => by cases r with | d r => exact r.sub s
  | _, _, _, .o hk e q, r => by
    cases r with
    | o _ z =>
      subst z
      cases wd1.own _ _ e with
      | lst h r => exact .lst (g _ _ _ hk e h) (RsNL.rep wd1 s g q r)
  | _, _, _, .tp q, r => by cases r with | tp h r => exact .tup (.of (s _ _ h)) (RsNL.rep wd1 s g q r)
theorem RsNL.rep {S2 : Hp} {n : Nat} (wd1 : Wd K S1 ρ1 O1 H1) (s : SubH S1 S2) (g : ∀ k ws vs, n ≤ k → O1[k]? = some (.lst ws) → H1 (ρ1 k) = some (.lst vs) → S2 (ρ1 k) = some (.lst vs)) :
    ∀ {v : List V} {w : List W} {x : List PyData}, RsNL n O1 w x → RelWs K S1 ρ1 O1.length v w → RepL K S2 v x
  | _, _, _, .nil, r => by cases r; exact .nil
  | _, _, _, .cons h q, r => by cases r with | cons r t => exact .cons (RsN.rep wd1 s g h r) (RsNL.rep wd1 s g q t)
end
end

/-! ### promises of defs -/
abbrev DSp := List W → List Ob → DQ → DX → Prop
def KY (K : PySem.W.Frag) (S : Hp) (ρ : Nat → Addr) (n : Nat) (H : Hp) (E' : DX) (E : XK) : Prop := ∀ x O' S' ρ' cls dd H', Ext S ρ n H S' ρ' O'.length H' → Wd K S' ρ' O' H' → RelX K S' ρ' O'.length H' cls dd x → E' x O' → E cls dd H'
def spH (K : PySem.W.Frag) (sp : DSp) : Sp := fun vs H Q E => ∃ ws O S ρ Q' E', Wd K S ρ O H ∧ RelWs K S ρ O.length vs ws ∧ sp ws O Q' E' ∧ KE K S ρ O.length H Q' Q ∧ KY K S ρ O.length H E' E
/-- the def x of the module keeps the promise sp -/
structure FnD (P : Program) (w : World) (K : PySem.W.Frag) (mg : Str → Option Value) (base : Heap) (x : Str) (k : Nat) (ps : List Str) (sp : DSp) : Prop where
  ex : ∃ f fd, FnOk P w K mg base (L2.CX P w) k f fd ps (spH K sp) ∧ mg x = some (.ref f) ∧ PySem.W.keepIn K (.ref f) = true ∧ Binds K fd ps []
theorem FnD.imp {P : Program} {w : World} {K : PySem.W.Frag} {mg : Str → Option Value} {base : Heap} {x : Str} {k : Nat} {ps : List Str} {sp sp' : DSp} (F : FnD P w K mg base x k ps sp) (h : ∀ ws O Q E, sp' ws O Q E → sp ws O Q E) : FnD P w K mg base x k ps sp' := by
  obtain ⟨f, fd, F, r⟩ := F.ex
  exact ⟨f, fd, F.imp fun vs H Q E ⟨ws, O, S, ρ, Q', E', a, b, c, d⟩ => ⟨ws, O, S, ρ, Q', E', a, b, h _ _ _ _ c, d⟩, r⟩
theorem FnD.mono {P : Program} {w : World} {K : PySem.W.Frag} {mg : Str → Option Value} {base : Heap} {x : Str} {j k : Nat} {ps : List Str} {sp : DSp} (F : FnD P w K mg base x j ps sp) (h : j ≤ k) : FnD P w K mg base x k ps sp := by
  obtain ⟨f, fd, F, r⟩ := F.ex
  exact ⟨f, fd, F.mono h, r⟩
def dCall (sp : DSp) (u : DA) : DE := fun Γ O Q E => u Γ O (fun ws O1 => sp ws O1 Q E) E
section
variable {X : Cx} {Wx : WX} {e : Expr} {es : List Expr} {u : DA} {x : Str} {p pos : Pos} {k : Nat} {ps : List Str} {sp : DSp}
theorem d_call (bx : Bx X Wx) (F : FnD X.prog X.w X.K X.mg X.base x k ps sp) (hr : Room k X.A) (ha : PDA X Wx (e :: es) u) (hg : Gl X x := by rfl) (hdb : (x == ("__debug__" : Str)) = false := by decide)
    (he : starEach (e :: es) X.env = (false, eval e X.env) :: starEach es X.env := by rfl) (hpl : (backTo pos (starEach es X.env)).any (·.1) = false := by rfl) : PDE X Wx (.Call (.Name x p) (e :: es) [] pos) (dCall sp u) := by
  obtain ⟨f, fd, F, gm, kp, b⟩ := F.ex
  exact (pe_callS F hr hg gm kp b (fun σ => passAt bx.tk σ) ha hdb he hpl).imp fun σ H Q ⟨Γ, O, S, ρ, Q', E', st, h, kq, kx⟩ =>
    ⟨Γ, O, S, ρ, _, E', st, h, fun ws O1 S1 ρ1 vs H1 x1 wd1 r1 h1 => ⟨ws, O1, S1, ρ1, Q', E', wd1, r1, h1, kq.ext x1, fun y O2 S2 ρ2 c d H2 x2 wd2 r2 q2 => kx y O2 S2 ρ2 c d H2 (x1.trans x2) wd2 r2 q2⟩, kx⟩
/-- a call without arguments that raises nothing -/
def dCall0 (sp : DSp) : DE := fun _ O Q _ => sp [] O Q noX
theorem d_call0 (F : FnD X.prog X.w X.K X.mg X.base x k ps sp) (hr : Room k X.A) (hg : Gl X x := by rfl) (hdb : (x == ("__debug__" : Str)) = false := by decide) : PDE X Wx (.Call (.Name x p) [] [] pos) (dCall0 sp) := by
  obtain ⟨f, fd, F, gm, kp, b⟩ := F.ex
  exact (pe_call0 F hr hg gm kp b .nil passL hdb).imp fun σ H Q ⟨Γ, O, S, ρ, Q', E', st, h, kq, kx⟩ => ⟨[], O, S, ρ, Q', noX, st.wd, .nil, h, kq, fun _ _ _ _ _ _ _ _ _ _ q => q.elim⟩
end
def startD (N : List Str) (ws : List W) : Gm := ws.map some ++ List.replicate (N.length - ws.length) none
theorem start_rel {K : PySem.W.Frag} {S : Hp} {ρ : Nat → Addr} {n : Nat} {N : List Str} {vs : List V} {ws : List W} (r : RelWs K S ρ n vs ws) : RelS K S ρ n (L2.start N vs) (startD N ws) := by
  unfold L2.start startD
  refine ⟨by simp [r.length], fun i w e => ?_⟩
  by_cases hi : i < ws.length
  · rw [List.getElem?_append_left (by simpa using hi)] at e
    simp only [List.getElem?_map, Option.map_eq_some_iff] at e
    obtain ⟨w', e1, e2⟩ := e
    cases e2
    obtain ⟨v, h1, h2⟩ := r.get e1
    exact ⟨v, by rw [List.getElem?_append_left (by rw [List.length_map, r.length]; exact hi), List.getElem?_map, h1]; rfl, h2⟩
  · rw [List.getElem?_append_right (by simpa using Nat.le_of_not_lt hi)] at e
    have := List.mem_of_getElem? e
    rw [List.mem_replicate] at this
    cases this.2
/-- the ends of a def's body: what it gives, as it stands or settled -/
def Fin (O : List Ob) (Q : DQ) : DQ := fun w O1 => Q w O1 ∨ ∃ x, RsN O.length O1 w x ∧ OkTake O O1 ∧ Q (.d x) (O1.take O.length)
def endsD (O : List Ob) (Q : DQ) (E : DX) : DEnds := { nx := fun _ O1 => Fin O Q (.d .none) O1, rt := Fin O Q, ex := fun x _ O1 => E x O1 ∨ (OkTake O O1 ∧ E x (O1.take O.length)) }
/-- the context of a def's body -/
abbrev wE (E : XK) : WX := fun cls d _ H => E cls d H
section
variable {P : Program} {w : World} {K : PySem.W.Frag} {mg : Str → Option Value} {base : Heap}
theorem fn_O {x qual : Str} {st : Stmt} {f : Addr} {fd : FuncData} {N ps : List Str} {k : Nat} {sp : DSp} (t : DS) (F : Fun K x qual st f fd) (S : FnScope N ps (defScope st))
    (len : ∀ ws O Q E, sp ws O Q E → ws.length = ps.length)
    (body : ∀ (cdv : Value) (A : Around) (outer : List Env) (s : Shared) (H : Hp) (E : XK), Room k (A.deeper (envOfC qual (defScope st) s.heap.objs.size f cdv)) → Bx (cxOf (L2.CX P w) P w K mg base N qual (defScope st) f cdv A outer s H E) (wE E) →
      PDSs (cxOf (L2.CX P w) P w K mg base N qual (defScope st) f cdv A outer s H E) (wE E) (defBody st) t)
    (run : ∀ ws O Q E, sp ws O Q E → t (endsD O Q E) (startD N ws) O) : FnOk P w K mg base (L2.CX P w) (k + 1) f fd ps (spH K sp) := by
  refine F.okX S (fun vs H Q E ⟨ws, O, S, ρ, Q', E', _, r, h, _⟩ => r.length.trans (len ws O Q' E' h)) (fun cdv A outer s H vs Q E hr hsp => ?_)
  obtain ⟨ws, O, S0, ρ, Q', E', wd, r, h, kq, ky⟩ := hsp
  refine ⟨_, body cdv A outer s H E hr ⟨takes_of rfl rfl rfl rfl, rfl, passes_of rfl, S.nd⟩, startD N ws, O, S0, ρ, _, ⟨wd, start_rel r⟩, run ws O Q' E' h, ?_⟩
  have fin : ∀ w1 O1 S1 ρ1 v1 H1, Ext S0 ρ O.length H S1 ρ1 O1.length H1 → Wd K S1 ρ1 O1 H1 → RelW K S1 ρ1 O1.length v1 w1 → Fin O Q' w1 O1 → Q v1 H1 := fun w1 O1 S1 ρ1 v1 H1 x1 wd1 r1 h1 => by
    rcases h1 with h1 | ⟨y, ry, ok, h1⟩
    · exact kq w1 O1 S1 ρ1 v1 H1 x1 wd1 r1 h1
    · obtain ⟨S2, x2, wd2, s12, g⟩ := settle wd x1 wd1 ok
      exact kq (.d y) _ S2 ρ1 v1 H1 x2 wd2 (.d (RsN.rep wd1 s12 g ry r1)) h1
  refine ⟨fun Γ1 O1 S1 ρ1 σ1 H1 x1 st1 h1 => fin _ O1 S1 ρ1 .non H1 x1 st1.wd (.d .non) h1, fin, fun _ _ _ _ _ _ _ _ q => q.elim, fun _ _ _ _ _ _ _ _ q => q.elim, fun y Γ1 O1 S1 ρ1 σ1 cls dd H1 x1 st1 rx h1 => ?_⟩
  rcases h1 with h1 | ⟨ok, h1⟩
  · exact ky y O1 S1 ρ1 cls dd H1 x1 st1.wd rx h1
  · obtain ⟨S2, x2, wd2, s12, g⟩ := settle wd x1 st1.wd ok
    refine ky y _ S2 ρ1 _ _ H1 x2 wd2 ?_ h1
    cases rx with
    | plain c => exact .plain c
    | fld c e r => exact .fld c (s12 _ _ e) (r.sub s12)
theorem fn_D {x qual : Str} {st : Stmt} {f : Addr} {fd : FuncData} {N ps : List Str} {k : Nat} {sp : DSp} (t : DS) (F : Fun K x qual st f fd) (gm : mg x = some (.ref f)) (b : Binds K fd ps []) (S : FnScope N ps (defScope st))
    (len : ∀ ws O Q E, sp ws O Q E → ws.length = ps.length)
    (body : ∀ (cdv : Value) (A : Around) (outer : List Env) (s : Shared) (H : Hp) (E : XK), Room k (A.deeper (envOfC qual (defScope st) s.heap.objs.size f cdv)) → Bx (cxOf (L2.CX P w) P w K mg base N qual (defScope st) f cdv A outer s H E) (wE E) →
      PDSs (cxOf (L2.CX P w) P w K mg base N qual (defScope st) f cdv A outer s H E) (wE E) (defBody st) t)
    (run : ∀ ws O Q E, sp ws O Q E → t (endsD O Q E) (startD N ws) O) : FnD P w K mg base x (k + 1) ps sp := ⟨f, fd, fn_O t F S len body run, gm, F.kp, b⟩
/-- the law's own promise, from what it says of a script -/
theorem law_sp {H : Hp} {a : Addr} {ns : List Int} (hS : SqL K H a (ns.map V.int)) {sp : DSp} (h : ∀ Q : DQ, Q (.d (.bool true)) [] → sp [.rl (ns.map .int)] [] Q noX) : spH K sp [.ref a] H (fun v _ => v = .bl true) fun _ _ _ => False := by
  have ri : ∀ ns : List Int, RepL K H (ns.map V.int) (ns.map .int) := fun ns => by
    induction ns with
    | nil => exact .nil
    | cons i ns ih => exact .cons (.int i) ih
  refine ⟨[.rl (ns.map .int)], [], H, fun _ => 0, fun w _ => w = .d (.bool true), noX, ⟨fun _ _ e => e, fun k ob e => ?_, fun k ob e => ?_, fun j k a b e => ?_, fun k hk => absurd hk (Nat.not_lt_zero _)⟩, .cons (.rl hS (ri ns)) .nil, h _ rfl, fun w O' S' ρ' v H' _ _ r q => ?_, fun _ _ _ _ _ _ _ _ _ _ q => q.elim⟩
  · cases e
  · cases e
  · cases e
  · subst q
    cases r with
    | d r => cases r; rfl
end

/-! ### comprehensions -/
/-- the targets of a comprehension: a name, or a tuple of names -/
inductive Tg where
  | one (i : Nat) | many (is : List Nat)
def tgNs : List Nat → TGs
  | [] => gNil
  | i :: is => gCons (gName i) (tgNs is)
def tgH (K : PySem.W.Frag) : Tg → TG
  | .one i => gName i
  | .many is => gTup K is.length (tgNs is)
def Tg.ix : Tg → List Nat
  | .one i => [i]
  | .many is => is
def setAll : List Nat → List W → Gm → Gm
  | i :: is, w :: ws, Γ => setAll is ws (Γ.set i (some w))
  | _, _, Γ => Γ
def tgD (g : Tg) (w : W) (Γ : Gm) (Q : Gm → Prop) : Prop := match g with
  | .one i => Q (Γ.set i (some w))
  | .many is => ∃ ws, tv w = some ws ∧ ws.length = is.length ∧ Q (setAll is ws Γ)
def wipeD (Γ : Gm) : List Nat → Gm
  | [] => Γ
  | i :: is => (wipeD Γ is).set i none
theorem wipe_set {σ : L2.St} {i : Nat} {o : Option V} : ∀ {vs : List Nat}, i ∈ vs → wipe (σ.set i o) vs = wipe σ vs
  | [], h => by cases h
  | j :: vs, h => by
    by_cases e : j = i
    · subst e
      have q : ∀ (us : List Nat) (τ : L2.St), (wipe (τ.set j o) us).set j none = (wipe τ us).set j none := by
        intro us
        induction us with
        | nil => intro τ; show (τ.set j o).set j none = τ.set j none; rw [List.set_set]
        | cons a us ih =>
          intro τ
          show ((wipe (τ.set j o) us).set a none).set j none = ((wipe τ us).set a none).set j none
          by_cases ea : a = j
          · subst ea; rw [List.set_set, List.set_set]; exact ih τ
          · rw [List.set_comm _ _ ea, List.set_comm _ _ ea, ih τ]
      exact q vs σ
    · have hm : i ∈ vs := by
        rcases List.mem_cons.mp h with z | z
        · exact absurd z.symm e
        · exact z
      show (wipe (σ.set i o) vs).set j none = (wipe σ vs).set j none
      rw [wipe_set hm]
theorem wipe_idem (σ : L2.St) (vs : List Nat) : wipe (wipe σ vs) vs = wipe σ vs := by
  have q : ∀ (us : List Nat) (τ : L2.St) (i : Nat), (wipe (τ.set i none) us) = (wipe τ us).set i none := by
    intro us
    induction us with
    | nil => intro τ i; rfl
    | cons a us ih =>
      intro τ i
      show (wipe (τ.set i none) us).set a none = ((wipe τ us).set a none).set i none
      rw [ih τ i]
      by_cases ea : a = i
      · subst ea; rfl
      · exact List.set_comm _ _ (Ne.symm ea)
  induction vs with
  | nil => rfl
  | cons a vs ih =>
    show (wipe ((wipe σ vs).set a none) vs).set a none = (wipe σ vs).set a none
    rw [q, ih, List.set_set]
theorem RelS.wipe {K : PySem.W.Frag} {S : Hp} {ρ : Nat → Addr} {n : Nat} {σ : L2.St} {Γ : Gm} (h : RelS K S ρ n σ Γ) : ∀ vs : List Nat, RelS K S ρ n (L2.wipe σ vs) (wipeD Γ vs)
  | [] => h
  | i :: vs => by
    have q := RelS.wipe h vs
    show RelS K S ρ n ((L2.wipe σ vs).set i none) ((wipeD Γ vs).set i none)
    refine ⟨by simp [q.1], fun j w e => ?_⟩
    by_cases hj : j = i
    · subst hj
      have hl : j < (wipeD Γ vs).length := by
        have := (List.getElem?_eq_some_iff.mp e).1
        simpa using this
      rw [List.getElem?_set_self hl] at e
      cases e
    · rw [List.getElem?_set_ne (Ne.symm hj)] at e ⊢
      exact q.2 j w e
section
variable {K : PySem.W.Frag} {S : Hp} {ρ : Nat → Addr} {H : Hp} {O : List Ob}
theorem tgNs_run : ∀ {is : List Nat} {vs : List V} {ws : List W} {σ : L2.St} {Γ : Gm} {us : List Nat} {Q : L2.St → Hp → Prop}, RelWs K S ρ O.length vs ws → ws.length = is.length → At K S ρ H O σ Γ → (∀ i ∈ is, i ∈ us) →
    (∀ σ', At K S ρ H O σ' (setAll is ws Γ) → L2.wipe σ' us = L2.wipe σ us → Q σ' H) → tgNs is vs σ H Q
  | [], vs, ws, σ, Γ, us, Q, r, hl, st, _, k => by
    cases ws with
    | nil => cases r; exact ⟨rfl, k σ st rfl⟩
    | cons _ _ => cases hl
  | i :: is, vs, ws, σ, Γ, us, Q, r, hl, st, hu, k => by
    cases r with
    | nil => cases hl
    | cons r rr =>
      refine ⟨_, _, rfl, ?_⟩
      show tgNs is _ (σ.set i (some _)) H Q
      refine tgNs_run rr (by simpa using hl) (st.set i r) (fun j hj => hu j (List.mem_cons_of_mem _ hj)) fun σ' st' e => ?_
      exact k σ' st' (e.trans (wipe_set (hu i List.mem_cons_self)))
theorem tg_run {g : Tg} {v : V} {w : W} {σ : L2.St} {Γ : Gm} {us : List Nat} {Q : L2.St → Hp → Prop} {Q' : Gm → Prop} (r : RelW K S ρ O.length v w) (st : At K S ρ H O σ Γ) (hu : ∀ i ∈ g.ix, i ∈ us) (h : tgD g w Γ Q')
    (k : ∀ σ' Γ', At K S ρ H O σ' Γ' → L2.wipe σ' us = L2.wipe σ us → Q' Γ' → Q σ' H) : tgH K g v σ H Q := by
  cases g with
  | one i => exact k _ _ (st.set i r) (wipe_set (hu i List.mem_cons_self)) h
  | many is =>
    obtain ⟨ws, e, hl, h⟩ := h
    obtain ⟨a, vs, rfl, h1, g1⟩ := tv_inv e r
    exact ⟨a, vs, rfl, SubH.sqT st.wd.sub h1, by rw [g1.length]; exact hl, tgNs_run g1 hl st hu fun σ' st' e => k σ' _ st' e h⟩
/-- a list that stands in H, in neither part of the world, is taken in -/
theorem Wd.adoptL {D : Addr} {vs : List V} (wd : Wd K S ρ O H) (hD : H D = some (.lst vs)) (nS : S D = none) (nO : ∀ k, k < O.length → ρ k ≠ D) : Wd K (upd S D (.lst vs)) ρ O H := by
  refine ⟨fun a o e => ?_, fun k ob e => ?_, fun k ob e hd => ?_, wd.inj, wd.th⟩
  · by_cases z : a = D
    · subst z; rw [upd_same] at e; cases e; exact hD
    · rw [upd_ne z] at e; exact wd.sub a o e
  · exact (wd.own k ob e).mono (fun a o h => by rw [upd_ne (fun z => by rw [z, nS] at h; cases h)]; exact h) (fun _ _ => rfl) (Nat.le_refl _)
  · rw [upd_ne (nO k (Wd.lt e))]; exact wd.sep k ob e hd
theorem Wd.adoptO {D : Addr} {vs : List V} {ws : List W} (wd : Wd K S ρ O H) (hD : H D = some (.lst vs)) (nS : S D = none) (nO : ∀ k, k < O.length → ρ k ≠ D) (r : RelWs K S ρ O.length vs ws) : Wd K S (rhoP ρ O.length D) (O ++ [.lst ws]) H := by
  have rr : ∀ k, k < O.length → rhoP ρ O.length D k = ρ k := fun k h => rhoP_lt h
  have len : (O ++ [Ob.lst ws]).length = O.length + 1 := by simp
  have cs : ∀ k o, (O ++ [Ob.lst ws])[k]? = some o → (k < O.length ∧ O[k]? = some o) ∨ (k = O.length ∧ o = .lst ws) := fun k o h => by
    by_cases hk : k < O.length
    · rw [List.getElem?_append_left hk] at h; exact .inl ⟨hk, h⟩
    · rw [List.getElem?_append_right (Nat.le_of_not_lt hk)] at h
      by_cases e : k = O.length
      · subst e; simp at h; exact .inr ⟨rfl, h.symm⟩
      · obtain ⟨m, hm⟩ := Nat.exists_eq_succ_of_ne_zero (show k - O.length ≠ 0 by omega)
        rw [hm] at h; simp at h
  refine ⟨wd.sub, fun k o h => ?_, fun k o h hd => ?_, fun j k a b h1 h2 d1 d2 e => ?_, fun k hk => ?_⟩
  · rcases cs k o h with ⟨hk, h⟩ | ⟨rfl, rfl⟩
    · rw [rr k hk]; exact (wd.own k o h).mono (.refl _) rr (by omega)
    · rw [rhoP_eq]; exact .lst hD (r.mono (.refl _) rr (by omega))
  · rcases cs k o h with ⟨hk, h⟩ | ⟨rfl, rfl⟩
    · rw [rr k hk]; exact wd.sep k o h hd
    · rw [rhoP_eq]; exact nS
  · rcases cs j a h1 with ⟨hj, g1⟩ | ⟨ej, ea⟩ <;> rcases cs k b h2 with ⟨hk, g2⟩ | ⟨ek, eb⟩
    · rw [rr j hj, rr k hk] at e; exact wd.inj j k a b g1 g2 d1 d2 e
    · rw [rr j hj, ek, rhoP_eq] at e; exact absurd e (nO j hj)
    · rw [rr k hk, ej, rhoP_eq] at e; exact absurd e.symm (nO k hk)
    · rw [ej, ek]
  · by_cases hk' : k < O.length
    · rw [rr k hk']; exact wd.th k hk'
    · have e : k = O.length := by omega
      subst e
      exact ⟨_, by rw [rhoP_eq]; exact hD⟩
end
/-- the turns: what is made so far, the items left -/
def dLcL (g : Tg) (tt : DT) (te : DE) (chk : List Ob → Prop) (Γ : Gm) : List W → List W → List Ob → (List W → List Ob → Prop) → Prop
  | [], acc, O, R => chk O ∧ R acc O
  | w :: ws, acc, O, R => chk O ∧ ∃ N : List W → List Ob → Prop, (∀ acc' O', N acc' O' → dLcL g tt te chk Γ ws acc' O' R) ∧ tgD g w Γ fun Γ1 => tt Γ1 O (fun b O1 => if b = true then te Γ1 O1 (fun y O2 => acc.length < sizeLine ∧ N (acc ++ [y]) O2) noX else N acc O1) noX
def dYes : DT := fun _ O Q _ => Q true O
/-- never changed again | to be changed -/
def dLc (it : DI) (g : Tg) (tt : DT) (te : DE) (us : List Nat) : DE := fun Γ O Q E => it Γ O (fun items chk O1 => dLcL g tt te chk (wipeD Γ us) items [] O1 fun acc O2 => match allD acc with
  | some xs => Q (.d (.list xs)) O2
  | none => False) E
def dLcO (it : DI) (g : Tg) (tt : DT) (te : DE) (us : List Nat) : DE := fun Γ O Q E => it Γ O (fun items chk O1 => dLcL g tt te chk (wipeD Γ us) items [] O1 fun acc O2 => Q (.o O2.length) (O2 ++ [.lst acc])) E
abbrev Wx0 : WX := fun _ _ _ _ => False
section
variable {X : Cx} {Wx : WX}
theorem lc_read {it : DI} {g : Tg} {tt : DT} {te : DE} {us : List Nat} {R : List W → List Ob → Prop} {Γ : Gm} {O : List Ob} {S : Hp} {ρ : Nat → Addr} {E' : DX} {σ : L2.St} {H : Hp} {Q : VK} (hu : ∀ i ∈ g.ix, i ∈ us)
    (st : At X.K S ρ H O σ Γ) (h : it Γ O (fun items chk O1 => dLcL g tt te chk (wipeD Γ us) items [] O1 R) E') (kx : KX X.K S ρ O.length H σ E' Wx)
    (fin : ∀ acc O1 S1 ρ1 H1 D vs, Ext S ρ O.length H S1 ρ1 O1.length H1 → Wd X.K S1 ρ1 O1 H1 → H D = none → H1 D = some (.lst vs) → S1 D = none → (∀ k, k < O1.length → ρ1 k ≠ D) → RelWs X.K S1 ρ1 O1.length vs acc → R acc O1 → Q (.ref D) H1) :
    tLc (iI X.K Wx it) (tgH X.K g) (iT X.K Wx0 tt) (iE X.K Wx0 te) us σ H Q := by
  refine ⟨Γ, O, S, ρ, _, E', st, h, fun items chk O1 S1 ρ1 J H1 x1 wd1 ir h1 => ?_, kx⟩
  intro D nD
  have nDH : H D = none := by
    cases e : H D with
    | none => rfl
    | some o =>
      obtain ⟨o', e'⟩ := x1.dom D o e
      rw [nD] at e'; cases e'
  have neD : ∀ a o, H1 a = some o → a ≠ D := fun a o h z => by rw [z, nD] at h; cases h
  have nS1 : S1 D = none := by
    cases e : S1 D with
    | none => rfl
    | some o => rw [wd1.sub D o e] at nD; cases nD
  -- the state of the loop: what is made stands at D, apart from the world
  let G : Nat → List W → Hp → Prop := fun i acc H' => ∃ O2 S2 ρ2 vs, Ext S1 ρ1 O1.length H1 S2 ρ2 O2.length H' ∧ Wd X.K S2 ρ2 O2 H' ∧ H' D = some (.lst vs) ∧ S2 D = none ∧ (∀ k, k < O2.length → ρ2 k ≠ D) ∧ RelWs X.K S2 ρ2 O2.length vs acc ∧ dLcL g tt te chk (wipeD Γ us) (items.drop i) acc O2 R
  -- a written D keeps the world
  have put : ∀ {H' : Hp} {O2 : List Ob} {S2 : Hp} {ρ2 : Nat → Addr} {vs' : List V}, Ext S1 ρ1 O1.length H1 S2 ρ2 O2.length H' → Wd X.K S2 ρ2 O2 H' → S2 D = none → (∀ k, k < O2.length → ρ2 k ≠ D) → Ext S1 ρ1 O1.length H1 S2 ρ2 O2.length (upd H' D (.lst vs')) ∧ Wd X.K S2 ρ2 O2 (upd H' D (.lst vs')) := fun {H' O2 S2 ρ2 vs'} x wd nS nO => by
    refine ⟨⟨x.le, x.sub, x.rho, x.new, fun a o h => ?_, fun a o h hk => by rw [upd_ne (neD a o h)]; exact x.frame a o h hk, x.sfr⟩, ⟨fun a o h => by rw [upd_ne (fun z => by rw [z, nS] at h; cases h)]; exact wd.sub a o h, fun k ob e => ?_, wd.sep, wd.inj, fun k hk => ?_⟩⟩
    · obtain ⟨o', e⟩ := x.dom a o h
      exact ⟨o', by rw [upd_ne (neD a o h)]; exact e⟩
    · exact (wd.own k ob e).at fun o q => by rw [upd_ne (nO k (Wd.lt e))]; exact q
    · obtain ⟨o, h⟩ := wd.th k hk
      exact ⟨o, by rw [upd_ne (nO k hk)]; exact h⟩
  have rhoD : ∀ k, k < O1.length → ρ1 k ≠ D := fun k hk z => by
    obtain ⟨o, q⟩ := wd1.th k hk
    rw [z, nD] at q; cases q
  -- a step of the world leaves D alone
  have stay : ∀ {H' H'' : Hp} {O2 O3 : List Ob} {S2 S3 : Hp} {ρ2 ρ3 : Nat → Addr} {vs : List V}, H' D = some (.lst vs) → S2 D = none → (∀ k, k < O2.length → ρ2 k ≠ D) → Ext S2 ρ2 O2.length H' S3 ρ3 O3.length H'' → H'' D = some (.lst vs) ∧ S3 D = none ∧ ∀ k, k < O3.length → ρ3 k ≠ D := fun {H' H'' O2 O3 S2 S3 ρ2 ρ3 vs} hD nS nO x => by
    refine ⟨x.frame D _ hD nO, x.sfr D _ hD nS nO, fun k hk => ?_⟩
    by_cases hk2 : k < O2.length
    · rw [x.rho k hk2]; exact nO k hk2
    · intro z
      have q := x.new k (Nat.le_of_not_lt hk2) hk
      rw [z, hD] at q; cases q
  have stW : ∀ {H' : Hp} {O2 : List Ob} {S2 : Hp} {ρ2 : Nat → Addr}, Ext S1 ρ1 O1.length H1 S2 ρ2 O2.length H' → Wd X.K S2 ρ2 O2 H' → At X.K S2 ρ2 H' O2 (L2.wipe σ us) (wipeD Γ us) := fun {H' O2 S2 ρ2} x wd => ⟨wd, (((st.ext x1 wd1).rs).ext x).wipe us⟩
  refine ⟨fun i m H' => i ≤ items.length ∧ m = items.length - i ∧ ∃ acc, G i acc H', ⟨items.length, Nat.zero_le _, by simp, [], ?_⟩, ?_⟩
  · obtain ⟨xx, ww⟩ := put (vs' := []) .refl wd1 nS1 rhoD
    exact ⟨O1, S1, ρ1, [], xx, ww, upd_same, nS1, rhoD, .nil, by rw [List.drop_zero]; exact h1⟩
  · rintro i m H2 ⟨hi, rfl, acc, O2, S2, ρ2, vs, x2, wd2, hD, nS, nO, rv, h2⟩
    by_cases hlt : i < items.length
    · have ew : items[i]? = some items[i] := List.getElem?_eq_getElem hlt
      rw [List.drop_eq_getElem_cons hlt] at h2
      refine .inr ⟨ir.go i O2 S2 ρ2 H2 x2 wd2 h2.1 hlt, fun H' => ∃ acc', G (i + 1) acc' H', fun H' ⟨acc', g⟩ => ⟨items.length - (i + 1), by omega, hlt, rfl, acc', g⟩, fun x H' y => ?_⟩
      obtain ⟨S3, x3, wd3, r3⟩ := ir.yld i _ O2 S2 ρ2 H2 x H' x2 wd2 h2.1 ew y
      obtain ⟨hD3, nS3, nO3⟩ := stay (O3 := O2) hD nS nO x3
      have x23 := x2.trans x3
      obtain ⟨_, N, hN, h2⟩ := h2
      refine tg_run r3 (stW x23 wd3) hu h2 fun σ4 Γ4 st4 ew4 h4 => ⟨ew4.trans (wipe_idem σ us) |>.trans rfl, ?_⟩
      refine ⟨Γ4, O2, S3, ρ2, _, noX, st4, h4, fun b O5 S5 ρ5 H5 x5 wd5 h5 => ?_, .no⟩
      obtain ⟨hD5, nS5, nO5⟩ := stay hD3 nS3 nO3 x5
      have x25 := x23.trans x5
      cases b with
      | false =>
        dsimp only at h5 ⊢
        rw [if_neg (by decide)] at h5 ⊢
        exact ⟨acc, O5, S5, ρ5, vs, x25, wd5, hD5, nS5, nO5, (rv.ext x3).ext x5, hN _ _ h5⟩
      | true =>
        dsimp only at h5 ⊢
        rw [if_pos rfl] at h5 ⊢
        refine ⟨Γ4, O5, S5, ρ5, _, noX, st4.ext x5 wd5, h5, fun z O6 S6 ρ6 v6 H6 x6 wd6 r6 h6 => ?_, .no⟩
        obtain ⟨hD6, nS6, nO6⟩ := stay hD5 nS5 nO5 x6
        have rv6 := ((rv.ext x3).ext x5).ext x6
        obtain ⟨xx, ww⟩ := put (vs' := vs ++ [v6]) (x25.trans x6) wd6 nS6 nO6
        exact ⟨vs, hD6, by rw [rv6.length]; exact h6.1, acc ++ [z], O6, S6, ρ6, vs ++ [v6], xx, ww, upd_same, nS6, nO6, rv6.append (.cons r6 .nil), hN _ _ h6.2⟩
    · have e : i = items.length := by omega
      subst e
      rw [List.drop_length] at h2
      exact .inl ⟨ir.stop O2 S2 ρ2 H2 x2 wd2 h2.1, fin acc O2 S2 ρ2 H2 D vs (x1.trans x2) wd2 nDH hD nS nO rv h2.2⟩
end
end UZ
/-! UZ, part F: comprehensions linked, methods of lists, isinstance, enumerate, zip, signs. -/
namespace PySem
open AutoSeq1 (wpAny_loadPart')
set_option maxHeartbeats 1000000 in
theorem uz_enumerate_new {v : Value} {o : Obj} {H : Heap → Prop} (B : Begins v o H) :
    Meets (Builtin.«enumerate.__new__» ⟨[.type "enumerate", v], []⟩) (fun _ R s => H s.heap ∧
      R (.ok (.ret (.ref (s.heap.push o).objs.size))) { s with heap := (s.heap.push o).push { cls := .type "enumerate", data := .fields #[.none, .bool false, .ref s.heap.objs.size, rawInt 0, .none, .none] } }) :=
  .of_wp fun prog w A R s h => by
    obtain ⟨hp, g, d, tk, os⟩ := s; obtain ⟨h1, h⟩ := h
    have hsub := sub_enumerate
    have q1 : ∀ {A' : Around} {E : Value → Shared → Prop} {Q : Value → Shared → Prop}, Q (.ref hp.objs.size) ⟨hp.push o, g, d, tk, os⟩ → wpAny (model prog w) A' (pyIter v) Q E ⟨hp, g, d, tk, os⟩ :=
      fun q => B.iter prog w _ _ ⟨hp, g, d, tk, os⟩ _ h1 q
    wp_walk using q1
    refine wpAny_stack_any fun st => wpAny_pure ?_
    split
    · rename_i c _ _ _ _ _
      cases (c == Value.type "enumerate")
      · wp_walk using q1
        exact ⟨_, rfl, h⟩
      · wp_walk using q1
        exact ⟨_, rfl, h⟩
    · wp_walk using q1
      exact ⟨_, rfl, h⟩
theorem uz_enum_begins {prog : Program} {w : World} {A : Around} {E : Value → Shared → Prop} {s : Shared} {v : Value} {o : Obj} {H : Heap → Prop} {Q : Value → Shared → Prop} (B : Begins v o H) (h1 : H s.heap)
    (h : ∀ h', IsEnum h' (s.heap.objs.size + 1) s.heap.objs.size 0 .none → h'.get? s.heap.objs.size = some o → h'.objs.size = s.heap.objs.size + 2 →
      (∀ b o, s.heap.get? b = some o → h'.get? b = some o) → Q (.ref (s.heap.objs.size + 1)) { s with heap := h' }) :
    wpAny (model prog w) A (call (.type "enumerate") [v]) Q E s := by
  refine callType_new F.called_enumerate (by decide) (F.typeCall_enumerate_1 _) (F.newCall_enumerate_1 _) (fun obj => F.args_object_init_2 obj _) F.entry_enumerate_new
    (uz_enumerate_new B) ⟨h1, ?_⟩
  have hz : (s.heap.push o).objs.size = s.heap.objs.size + 1 := Heap.size_push ..
  show _ ∧ _
  rw [hz]
  have he : IsEnum ((s.heap.push o).push { cls := .type "enumerate", data := .fields #[.none, .bool false, .ref s.heap.objs.size, rawInt 0, .none, .none] }) (s.heap.objs.size + 1) s.heap.objs.size 0 .none := by
    have := Heap.get?_push_size (s.heap.push o) (o := { cls := .type "enumerate", data := .fields #[.none, .bool false, .ref s.heap.objs.size, rawInt 0, .none, .none] }) rfl
    rw [hz] at this; exact this
  refine ⟨⟨_, he, rfl⟩, h _ he (Heap.get?_push_of_some _ (Heap.get?_push_size _ B.free)) (by rw [Heap.size_push, hz]) fun b o x => Heap.get?_push_of_some _ (Heap.get?_push_of_some _ x)⟩
end PySem
namespace UZ
open PySem PySem.Spec PyProof.Rows L2

/-! ### comprehensions -/
section
variable {X : Cx} {Wx : WX} {pos : Pos}
theorem Bx.blk (bx : Bx X Wx) (s : Shared) (H : Hp) (scope : Scope) (cenv : Env) (fp : List Addr) : Bx (X.blk s H scope cenv fp) Wx0 := ⟨takes0, bx.calm, PassesOwn.never, bx.nd⟩
theorem _root_.L2.PTs.imp {e : List Expr} {t t' : TT} (h : PTs X e t) (i : ∀ σ H Q, t' σ H Q → t σ H Q) : PTs X e t' := ⟨fun pins s σ H Q I q => h.run pins s σ H Q I (i σ H Q q)⟩
theorem ts_nil : PTs X [] (iT X.K Wx dYes) := L2.PTs.imp pts_nil fun σ H Q ⟨Γ, O, S, ρ, Q', E', st, h, kq, _⟩ => kq true O S ρ H .refl st.wd h
theorem ts_one {c : Expr} {t : DT} (h : PDT X Wx c t) : PTs X [c] (iT X.K Wx t) := pts_one h
variable {elt tg iter : Expr} {ifs : List Expr} {scope : Scope} {own : List (Str × Nat)} {it : DI} {g : Tg} {tt : DT} {te : DE}
theorem lcL_fin {K : PySem.W.Frag} {S : Hp} {ρ : Nat → Addr} {H : Hp} {O : List Ob} {Q' : DQ} {Q : VK} (wd : Wd K S ρ O H) (kq : KE K S ρ O.length H Q' Q) :
    ∀ (acc : List W) (O1 : List Ob) (S1 : Hp) (ρ1 : Nat → Addr) (H1 : Hp) (D : Addr) (vs : List V), Ext S ρ O.length H S1 ρ1 O1.length H1 → Wd K S1 ρ1 O1 H1 → H D = none → H1 D = some (.lst vs) → S1 D = none → (∀ k, k < O1.length → ρ1 k ≠ D) → RelWs K S1 ρ1 O1.length vs acc →
      (match allD acc with | some xs => Q' (.d (.list xs)) O1 | none => False) → Q (.ref D) H1 := fun acc O1 S1 ρ1 H1 D vs x1 wd1 nD hD nS nO r h => by
  split at h
  · rename_i xs e
    rw [allD_eq e] at r
    have w2 := wd1.adoptL hD nS nO
    have s12 : SubH S1 (upd S1 D (.lst vs)) := fun a o e => by rw [upd_ne (fun z => by rw [z, nS] at e; cases e)]; exact e
    have nne : ∀ a o, H a = some o → a ≠ D := fun a o e z => by rw [z, nD] at e; cases e
    exact kq _ O1 (upd S1 D (.lst vs)) ρ1 _ H1 ⟨x1.le, x1.sub.trans s12, x1.rho, x1.new, x1.dom, x1.frame, fun a o h hs hk => by rw [upd_ne (nne a o h)]; exact x1.sfr a o h hs hk⟩ w2 (.d (.lst upd_same (r.repL.sub s12))) h
  · exact h.elim
theorem lcO_fin {K : PySem.W.Frag} {S : Hp} {ρ : Nat → Addr} {H : Hp} {O : List Ob} {Q' : DQ} {Q : VK} (wd : Wd K S ρ O H) (kq : KE K S ρ O.length H Q' Q) :
    ∀ (acc : List W) (O1 : List Ob) (S1 : Hp) (ρ1 : Nat → Addr) (H1 : Hp) (D : Addr) (vs : List V), Ext S ρ O.length H S1 ρ1 O1.length H1 → Wd K S1 ρ1 O1 H1 → H D = none → H1 D = some (.lst vs) → S1 D = none → (∀ k, k < O1.length → ρ1 k ≠ D) → RelWs K S1 ρ1 O1.length vs acc →
      Q' (.o O1.length) (O1 ++ [.lst acc]) → Q (.ref D) H1 := fun acc O1 S1 ρ1 H1 D vs x1 wd1 nD hD nS nO r h => by
  have w2 := wd1.adoptO hD nS nO r
  have len : (O1 ++ [Ob.lst acc]).length = O1.length + 1 := by simp
  have hle := x1.le
  refine kq _ _ S1 (rhoP ρ1 O1.length D) _ H1 ⟨by omega, x1.sub, fun k hk => ?_, fun k h1 h2 => ?_, x1.dom, x1.frame, x1.sfr⟩ w2 (.o (by omega) (by rw [rhoP_eq])) h
  · rw [rhoP_lt (by omega)]; exact x1.rho k hk
  · by_cases hk : k < O1.length
    · rw [rhoP_lt hk]; exact x1.new k h1 hk
    · have e : k = O1.length := by omega
      subst e; rw [rhoP_eq]; exact nD
theorem d_lc (bx : Bx X Wx) (own : List (Str × Nat)) (g : Tg) (hi : PDI X Wx tg iter it) (ok : BlkOk X.N X.env.scope scope own) (hu : ∀ i ∈ g.ix, i ∈ own.map (·.2))
    (hg : ∀ (s : Shared) (H : Hp) (C : Addr) (cl : List (Str × Addr)) (fp : List Addr), PG (X.blk s H scope (compEnvC scope cl C X.env) fp) tg (tgH X.K g)) (ht : ∀ (s : Shared) (H : Hp) (C : Addr) (cl : List (Str × Addr)) (fp : List Addr), PTs (X.blk s H scope (compEnvC scope cl C X.env) fp) ifs (iT X.K Wx0 tt))
    (he : ∀ (s : Shared) (H : Hp) (C : Addr) (cl : List (Str × Addr)) (fp : List Addr), PE (X.blk s H scope (compEnvC scope cl C X.env) fp) elt (iE X.K Wx0 te)) (hs : ∀ x, foldedSetIterable iter X.env x = pure x := by intro _; rfl) :
    PDE X Wx (.ListComp elt [⟨tg, iter, ifs, 0⟩] scope pos) (dLc it g tt te (own.map (·.2))) :=
  (pe_lc bx.calm bx.nd hi ok hg ht he hs).imp fun σ H Q ⟨Γ, O, S, ρ, Q', E', st, h, kq, kx⟩ => lc_read hu st h kx (lcL_fin st.wd kq)
theorem d_lcO (bx : Bx X Wx) (own : List (Str × Nat)) (g : Tg) (hi : PDI X Wx tg iter it) (ok : BlkOk X.N X.env.scope scope own) (hu : ∀ i ∈ g.ix, i ∈ own.map (·.2))
    (hg : ∀ (s : Shared) (H : Hp) (C : Addr) (cl : List (Str × Addr)) (fp : List Addr), PG (X.blk s H scope (compEnvC scope cl C X.env) fp) tg (tgH X.K g)) (ht : ∀ (s : Shared) (H : Hp) (C : Addr) (cl : List (Str × Addr)) (fp : List Addr), PTs (X.blk s H scope (compEnvC scope cl C X.env) fp) ifs (iT X.K Wx0 tt))
    (he : ∀ (s : Shared) (H : Hp) (C : Addr) (cl : List (Str × Addr)) (fp : List Addr), PE (X.blk s H scope (compEnvC scope cl C X.env) fp) elt (iE X.K Wx0 te)) (hs : ∀ x, foldedSetIterable iter X.env x = pure x := by intro _; rfl) :
    PDE X Wx (.ListComp elt [⟨tg, iter, ifs, 0⟩] scope pos) (dLcO it g tt te (own.map (·.2))) :=
  (pe_lc bx.calm bx.nd hi ok hg ht he hs).imp fun σ H Q ⟨Γ, O, S, ρ, Q', E', st, h, kq, kx⟩ => lc_read hu st h kx (lcO_fin st.wd kq)
/-- y = [..] -/
theorem s_setLc {i : Nat} {y : Str} {py spos : Pos} (bx : Bx X Wx) (own : List (Str × Nat)) (g : Tg) (hi : PDI X Wx tg iter it) (ok : BlkOk X.N X.env.scope scope own) (hu : ∀ i ∈ g.ix, i ∈ own.map (·.2))
    (hg : ∀ (s : Shared) (H : Hp) (C : Addr) (cl : List (Str × Addr)) (fp : List Addr), PG (X.blk s H scope (compEnvC scope cl C X.env) fp) tg (tgH X.K g)) (ht : ∀ (s : Shared) (H : Hp) (C : Addr) (cl : List (Str × Addr)) (fp : List Addr), PTs (X.blk s H scope (compEnvC scope cl C X.env) fp) ifs (iT X.K Wx0 tt))
    (he : ∀ (s : Shared) (H : Hp) (C : Addr) (cl : List (Str × Addr)) (fp : List Addr), PE (X.blk s H scope (compEnvC scope cl C X.env) fp) elt (iE X.K Wx0 te)) (hy : X.N[i]? = some y := by rfl) (hyl : X.env.scope.names.lookup y = some .local := by rfl)
    (hsw : swapsWith (.ListComp elt [⟨tg, iter, ifs, 0⟩] scope pos) (some (.Name y py)) spos.line X.env = pure true := by exact sw_true rfl rfl rfl (by decide +kernel)) (hs : ∀ x, foldedSetIterable iter X.env x = pure x := by intro _; rfl) :
    PDS X Wx (.Assign [.Name y py] (.ListComp elt [⟨tg, iter, ifs, 0⟩] scope pos) spos) (dSet i (dLc it g tt te (own.map (·.2)))) :=
  (ps_setLc bx.calm bx.nd hy hyl hsw hi ok hg ht he hs).imp fun D σ H q => by
    obtain ⟨Γ, O, S, ρ, Q', E', st, h, kq, kx⟩ := set_read q
    exact lc_read hu st h kx (lcL_fin st.wd kq)
theorem s_setLcO {i : Nat} {y : Str} {py spos : Pos} (bx : Bx X Wx) (own : List (Str × Nat)) (g : Tg) (hi : PDI X Wx tg iter it) (ok : BlkOk X.N X.env.scope scope own) (hu : ∀ i ∈ g.ix, i ∈ own.map (·.2))
    (hg : ∀ (s : Shared) (H : Hp) (C : Addr) (cl : List (Str × Addr)) (fp : List Addr), PG (X.blk s H scope (compEnvC scope cl C X.env) fp) tg (tgH X.K g)) (ht : ∀ (s : Shared) (H : Hp) (C : Addr) (cl : List (Str × Addr)) (fp : List Addr), PTs (X.blk s H scope (compEnvC scope cl C X.env) fp) ifs (iT X.K Wx0 tt))
    (he : ∀ (s : Shared) (H : Hp) (C : Addr) (cl : List (Str × Addr)) (fp : List Addr), PE (X.blk s H scope (compEnvC scope cl C X.env) fp) elt (iE X.K Wx0 te)) (hy : X.N[i]? = some y := by rfl) (hyl : X.env.scope.names.lookup y = some .local := by rfl)
    (hsw : swapsWith (.ListComp elt [⟨tg, iter, ifs, 0⟩] scope pos) (some (.Name y py)) spos.line X.env = pure true := by exact sw_true rfl rfl rfl (by decide +kernel)) (hs : ∀ x, foldedSetIterable iter X.env x = pure x := by intro _; rfl) :
    PDS X Wx (.Assign [.Name y py] (.ListComp elt [⟨tg, iter, ifs, 0⟩] scope pos) spos) (dSet i (dLcO it g tt te (own.map (·.2)))) :=
  (ps_setLc bx.calm bx.nd hy hyl hsw hi ok hg ht he hs).imp fun D σ H q => by
    obtain ⟨Γ, O, S, ρ, Q', E', st, h, kq, kx⟩ := set_read q
    exact lc_read hu st h kx (lcO_fin st.wd kq)
end

/-! ### methods of lists that may be changed -/
abbrev FM := Nat → List W → List W → List Ob → DQ → Prop
def rM (K : PySem.W.Frag) (f : FM) : V → List V → Hp → VK → Prop := fun x vs H Q => ∃ k ws args O S ρ Q', Wd K S ρ O H ∧ x = .ref (ρ k) ∧ O[k]? = some (.lst ws) ∧ RelWs K S ρ O.length vs args ∧ f k ws args O Q' ∧ KE K S ρ O.length H Q' Q
def isLst (O : List Ob) (k : Nat) : Prop := match O[k]? with
  | some (.lst _) => True
  | _ => False
def dMt0 (f : FM) (to : DE) : DE := fun Γ O Q E => to Γ O (fun w O1 => match w with
  | .o k => match O1[k]? with
    | some (.lst ws) => f k ws [] O1 Q
    | _ => False
  | _ => False) E
def dMt (f : FM) (to : DE) (u : DA) : DE := fun Γ O Q E => to Γ O (fun w O1 => match w with
  | .o k => isLst O1 k ∧ u Γ O1 (fun args O2 => match O2[k]? with
    | some (.lst ws) => f k ws args O2 Q
    | _ => False) E
  | _ => False) E
section
variable {X : Cx} {Wx : WX} {o e : Expr} {es : List Expr} {to : DE} {u : DA} {name : Str} {apos cpos : Pos} {id : String} {f : FM}
theorem _root_.L2.MtR.imp {r r' : V → List V → Hp → VK → Prop} (h : MtR X id r) (i : ∀ x vs H Q, r' x vs H Q → r x vs H Q) : MtR X id r' := fun pins s σ H x xs v us Q I r1 r2 q => h pins s σ H x xs v us Q I r1 r2 (i _ _ _ _ q)
theorem d_mt0 (slot : Slot "list" name id) (hty : typeOf (.builtin id) = pure (.type "method_descriptor")) (hm : MtR X id (rM X.K f)) (ho : PDE X Wx o to)
    (hbase : attributeBase o name X.env (eval o X.env) = eval o X.env := by rfl) (hline : (apos.endLine == cpos.line) = true := by rfl) : PDE X Wx (.Call (.Attribute o name apos) [] [] cpos) (dMt0 f to) :=
  (pe_bm0 PySem.F.plainAttrs_list slot hty hm ho hbase hline).imp fun σ H Q ⟨Γ, O, S, ρ, Q', E', st, h, kq, kx⟩ => ⟨Γ, O, S, ρ, _, E', st, h, fun w1 O1 S1 ρ1 v1 H1 x1 wd1 r1 h1 => by
    dsimp only at h1
    split at h1
    · split at h1
      · rename_i k _ ws e
        cases r1 with
        | o hk z =>
          subst z
          have q := wd1.own k _ e
          cases q with
          | lst hH r => exact ⟨.inl ⟨rfl, _, .of hH⟩, k, ws, [], O1, S1, ρ1, Q', wd1, rfl, e, .nil, h1, kq.ext x1⟩
      · exact h1.elim
    · exact h1.elim, kx⟩
theorem d_mt (slot : Slot "list" name id) (hty : typeOf (.builtin id) = pure (.type "method_descriptor")) (hm : MtR X id (rM X.K f)) (ho : PDE X Wx o to) (ha : PDA X Wx (e :: es) u)
    (hbase : attributeBase o name X.env (eval o X.env) = eval o X.env := by rfl)
    (hfew : ((backTo cpos (starEach (e :: es) X.env)).all (fun x => !x.1) && (backToKw cpos (keywordEach [] X.env)).all (fun x => x.1.isSome)
      && decide ((e :: es).length + ([] : List Keyword).length + (if ([] : List Keyword).isEmpty then 0 else 1) < 30)) = true := by rfl)
    (hline : (apos.endLine == cpos.line) = true := by rfl) (hs : starEach (e :: es) X.env = (false, eval e X.env) :: starEach es X.env := by rfl) (hplain : (backTo cpos (starEach es X.env)).any (·.1) = false := by rfl) :
    PDE X Wx (.Call (.Attribute o name apos) (e :: es) [] cpos) (dMt f to u) :=
  (pe_bm PySem.F.plainAttrs_list slot hty hm ho ha hbase hfew hline hs hplain).imp fun σ H Q ⟨Γ, O, S, ρ, Q', E', st, h, kq, kx⟩ => ⟨Γ, O, S, ρ, _, E', st, h, fun w1 O1 S1 ρ1 v1 H1 x1 wd1 r1 h1 => by
    dsimp only at h1
    split at h1
    · rename_i k
      obtain ⟨hl, h1⟩ := h1
      cases r1 with
      | o hk z =>
        subst z
        refine ⟨?_, Γ, O1, S1, ρ1, _, E', st.ext x1 wd1, h1, fun args O2 S2 ρ2 vs H2 x2 wd2 r2 h2 => ?_, kx.ext x1⟩
        · unfold isLst at hl
          split at hl
          · rename_i ws e
            have q := wd1.own k _ e
            cases q with
            | lst hH r => exact .inl ⟨rfl, _, .of hH⟩
          · exact hl.elim
        · dsimp only at h2
          split at h2
          · rename_i ws e
            exact ⟨k, ws, args, O2, S2, ρ2, Q', wd2, by rw [x2.rho k hk], e, r2, h2, kq.ext (x1.trans x2)⟩
          · exact h2.elim
    · exact h1.elim, kx⟩
def mAppend : FM := fun k ws args O Q => match args with
  | [y] => ws.length < sizeLine ∧ Q (.d .none) (O.set k (.lst (ws ++ [y])))
  | _ => False
theorem m_append : MtR X "list.append" (rM X.K mAppend) := L2.MtR.imp mt_append fun x vs H Q ⟨k, ws, args, O, S, ρ, Q', wd, ex, e, r, h, kq⟩ => by
  subst ex
  unfold mAppend at h
  split at h
  · cases r with
    | cons r rr =>
      cases rr
      have q := wd.own k _ e
      cases q with
      | lst hH r2 => exact ⟨_, _, _, rfl, rfl, hH, by rw [r2.length]; exact h.1, kq.put wd e (fun z => nomatch z) (r2.append (.cons r .nil)) (.d .non) h.2⟩
  · exact h.elim
/-- xs.append(e) -/
theorem d_append (ho : PDE X Wx o to) (ha : PDA X Wx [e] u) (hbase : attributeBase o "append" X.env (eval o X.env) = eval o X.env := by rfl)
    (hfew : ((backTo cpos (starEach [e] X.env)).all (fun x => !x.1) && (backToKw cpos (keywordEach [] X.env)).all (fun x => x.1.isSome)
      && decide ([e].length + ([] : List Keyword).length + (if ([] : List Keyword).isEmpty then 0 else 1) < 30)) = true := by rfl)
    (hline : (apos.endLine == cpos.line) = true := by rfl) (hs : starEach [e] X.env = (false, eval e X.env) :: starEach [] X.env := by rfl) (hplain : (backTo cpos (starEach [] X.env)).any (·.1) = false := by rfl) : PDE X Wx (.Call (.Attribute o "append" apos) [e] [] cpos) (dMt mAppend to u) :=
  d_mt PySem.F.slot_list_append PySem.F.type_list_append m_append ho ha hbase hfew hline hs hplain
def mPop : FM := fun k ws args O Q => match args with
  | [] => ∃ y, ws[ws.length - 1]? = some y ∧ Q y (O.set k (.lst ws.dropLast))
  | _ => False
theorem m_pop : MtR X "list.pop" (rM X.K mPop) := L2.MtR.imp mt_pop fun x vs H Q ⟨k, ws, args, O, S, ρ, Q', wd, ex, e, r, h, kq⟩ => by
  subst ex
  unfold mPop at h
  split at h
  · cases r
    obtain ⟨y, ey, h⟩ := h
    have q := wd.own k _ e
    cases q with
    | lst hH r2 =>
      obtain ⟨v, ev, rv⟩ := r2.get ey
      exact ⟨_, _, v, rfl, rfl, hH, by rw [r2.length]; exact ev, kq.put wd e (fun z => nomatch z) r2.dropLast rv h⟩
  · exact h.elim
theorem d_pop (ho : PDE X Wx o to) (hbase : attributeBase o "pop" X.env (eval o X.env) = eval o X.env := by rfl) (hline : (apos.endLine == cpos.line) = true := by rfl) : PDE X Wx (.Call (.Attribute o "pop" apos) [] [] cpos) (dMt0 mPop to) :=
  d_mt0 PySem.F.slot_list_pop PySem.F.type_list_pop m_pop ho hbase hline
/-- xs.extend(ys), ys another list -/
def mExtend : FM := fun k ws args O Q => match args with
  | [y] => ∃ zs, lvS O y = some zs ∧ ws.length + zs.length ≤ sizeLine ∧ Q (.d .none) (O.set k (.lst (ws ++ zs)))
  | _ => False
theorem m_extend : MtR X "list.extend" (rM X.K mExtend) := L2.MtR.imp mt_extend fun x vs H Q ⟨k, ws, args, O, S, ρ, Q', wd, ex, e, r, h, kq⟩ => by
  subst ex
  unfold mExtend at h
  split at h
  · cases r with
    | cons r rr =>
      cases rr
      obtain ⟨zs, ez, hl, h⟩ := h
      obtain ⟨b, us, rfl, hb, g⟩ := lvS_inv wd ez r
      have q := wd.own k _ e
      cases q with
      | lst hH r2 => exact ⟨_, b, _, us, rfl, rfl, hH, hb, by rw [r2.length, g.length]; exact hl, kq.put wd e (fun z => nomatch z) (r2.append g) (.d .non) h⟩
  · exact h.elim
theorem d_extend (ho : PDE X Wx o to) (ha : PDA X Wx [e] u) (hbase : attributeBase o "extend" X.env (eval o X.env) = eval o X.env := by rfl)
    (hfew : ((backTo cpos (starEach [e] X.env)).all (fun x => !x.1) && (backToKw cpos (keywordEach [] X.env)).all (fun x => x.1.isSome)
      && decide ([e].length + ([] : List Keyword).length + (if ([] : List Keyword).isEmpty then 0 else 1) < 30)) = true := by rfl)
    (hline : (apos.endLine == cpos.line) = true := by rfl) (hs : starEach [e] X.env = (false, eval e X.env) :: starEach [] X.env := by rfl) (hplain : (backTo cpos (starEach [] X.env)).any (·.1) = false := by rfl) : PDE X Wx (.Call (.Attribute o "extend" apos) [e] [] cpos) (dMt mExtend to u) :=
  d_mt PySem.F.slot_list_extend PySem.F.type_list_extend m_extend ho ha hbase hfew hline hs hplain
end

/-! ### isinstance -/
def tyD : PyData → String
  | .none => "NoneType" | .bool _ => "bool" | .int _ => "int" | .str _ => "str" | .list _ => "list" | .tuple _ => "tuple" | .dict _ => "dict"
def tyW (O : List Ob) : W → Option String
  | .d x => some (tyD x)
  | .tp _ => some "tuple"
  | .rl _ => some "list"
  | .o k => match O[k]? with
    | some (.lst _) => some "list"
    | some (.dK _) => some "dict"
    | some (.dT _) => some "dict"
    | _ => none
  | .v _ => none
  | .exc _ _ _ => none
  | .gl _ => none
  | .xv _ _ => none
theorem sqT_ty {K : PySem.W.Frag} {H : Hp} {a : Addr} {vs : List V} (h : SqT K H a vs) : TyX K H (.ref a) (.type "tuple") := by
  rcases h with (h | ⟨o, h⟩) | ⟨o, its, n, hk, hc, _⟩
  · exact .base (.tup h)
  · exact .fTuple h
  · exact .kTuple hk hc
theorem sqL_ty {K : PySem.W.Frag} {H : Hp} {a : Addr} {vs : List V} (h : SqL K H a vs) : TyX K H (.ref a) (.type "list") := by
  rcases h with (h | ⟨o, h⟩) | ⟨o, its, n, hk, hc, _⟩
  · exact .base (.lst h)
  · exact .base (.frz h)
  · exact .kList hk hc
theorem tyW_ok {K : PySem.W.Frag} {S : Hp} {ρ : Nat → Addr} {H : Hp} {O : List Ob} {v : V} {w : W} {T : String} (wd : Wd K S ρ O H) (h : tyW O w = some T) (r : RelW K S ρ O.length v w) : TyX K H v (.type T) := by
  cases r with
  | d r =>
    cases h
    cases r with
    | non => exact .base .non
    | bl b => exact .base (.bl b)
    | int i => exact .base (.int i)
    | str x => exact .base (.str x)
    | lst h _ => exact .base (.lst (wd.sub _ _ h))
    | tup h _ => exact sqT_ty (SubH.sqT wd.sub h)
    | dK h _ => exact .base (.dK (wd.sub _ _ h))
    | dT h _ => exact .base (.dT (wd.sub _ _ h))
  | o hk z =>
    subst z
    dsimp only [tyW] at h
    split at h
    · rename_i e
      cases h
      cases wd.own _ _ e with
      | lst h _ => exact .base (.lst h)
    · rename_i e
      cases h
      cases wd.own _ _ e with
      | dK h _ => exact .base (.dK h)
    · rename_i e
      cases h
      cases wd.own _ _ e with
      | dT h _ => exact .base (.dT h)
    · cases h
  | tp h _ => cases h; exact .base (.tup (wd.sub _ _ h))
  | rl h _ => cases h; exact sqL_ty (SubH.sqL wd.sub h)
  | exc _ _ => cases h
  | gl _ => cases h
  | xv _ _ _ => cases h
  | v => cases h
def kitAnyB (a : String) : List W → Option Bool
  | [] => some false
  | .v (.ty b) :: r => match kitB a b with
    | some true => if (kitAnyB a r).isSome then some true else none
    | some false => kitAnyB a r
    | none => none
  | _ => none
def fIsi : FC := fun ws O Q => match ws with
  | [x, .v (.ty b)] => match tyW O x with
    | some a => match kitB a b with
      | some r => Q (.d (.bool r)) O
      | none => False
    | none => False
  | [x, .tp ts] => match tyW O x with
    | some a => match kitAnyB a ts with
      | some r => Q (.d (.bool r)) O
      | none => False
    | none => False
  | _ => False
theorem kitAny_ok {K : PySem.W.Frag} {S : Hp} {ρ : Nat → Addr} {n : Nat} {a : String} : ∀ {ts : List W} {vs : List V} {r : Bool}, kitAnyB a ts = some r → RelWs K S ρ n vs ts → ∃ us, Paired ClsV vs us ∧ PySem.W.kitAny K (.type a) us = some r
  | [], _, _, h, r => by cases h; cases r; exact ⟨[], .nil, kitAny_nil⟩
  | .v (.ty b) :: ts, _, r0, h, r => by
    cases r with
    | cons r rr =>
      cases r
      unfold kitAnyB at h
      split at h
      · rename_i e
        split at h
        · rename_i hs
          cases h
          obtain ⟨r1, hr1⟩ := Option.isSome_iff_exists.mp hs
          obtain ⟨us, h1, h2⟩ := kitAny_ok hr1 rr
          exact ⟨.type b :: us, .cons (.ty b) h1, kitAny_cons (kit_ty e) (fun z => nomatch z) fun _ => rfl⟩
        · cases h
      · rename_i e
        obtain ⟨us, h1, h2⟩ := kitAny_ok h rr
        exact ⟨.type b :: us, .cons (.ty b) h1, kitAny_cons (kit_ty e) (fun _ => h2) fun z => nomatch z⟩
      · cases h
  | .v .non :: _, _, _, h, _ => by cases h
  | .v (.bl _) :: _, _, _, h, _ => by cases h
  | .v (.int _) :: _, _, _, h, _ => by cases h
  | .v (.str _) :: _, _, _, h, _ => by cases h
  | .v (.byt _) :: _, _, _, h, _ => by cases h
  | .v (.flt _) :: _, _, _, h, _ => by cases h
  | .v (.ref _) :: _, _, _, h, _ => by cases h
  | .d _ :: _, _, _, h, _ => by cases h
  | .o _ :: _, _, _, h, _ => by cases h
  | .tp _ :: _, _, _, h, _ => by cases h
  | .rl _ :: _, _, _, h, _ => by cases h
  | .exc _ _ _ :: _, _, _, h, _ => by cases h
  | .gl _ :: _, _, _, h, _ => by cases h
  | .xv _ _ :: _, _, _, h, _ => by cases h
section
variable {X : Cx} {Wx : WX} {pos : Pos}
theorem c_isi : CallD X (.builtin "isinstance") fIsi := ((call_isi (X := X)).or call_isiT).imp fun xs H Q ⟨ws, O, S, ρ, Q', wd, r, q, kq⟩ => by
  unfold fIsi at q
  split at q
  · split at q
    · rename_i a ea
      split at q
      · rename_i b et
        cases r with
        | cons r rr =>
          cases rr with
          | cons r2 rr =>
            cases rr
            cases r2
            exact .inl ⟨_, _, _, _, b, rfl, .ty _, tyW_ok wd ea r, kit_ty et, kq.back wd (.d (.bl _)) q⟩
      · exact q.elim
    · exact q.elim
  · split at q
    · rename_i a ea
      split at q
      · rename_i b et
        cases r with
        | cons r rr =>
          cases rr with
          | cons r2 rr =>
            cases rr
            cases r2 with
            | tp h r2 =>
              obtain ⟨us, h1, h2⟩ := kitAny_ok et r2
              exact .inr ⟨_, _, _, _, us, b, rfl, wd.sub _ _ h, h1, tyW_ok wd ea r, h2, kq.back wd (.d (.bl _)) q⟩
      · exact q.elim
    · exact q.elim
  · exact q.elim
/-- a built-in class as a value -/
theorem d_ty {x : Str} {T : String} (hm : X.mg x = none) (hv : bootBuiltins x = some (.type T)) (hg : Gl X x := by rfl) (hn : x ≠ "__name__" := by decide) (hd : (x == ("__debug__" : Str)) = false := by decide) : PDE X Wx (.Name x pos) (dCw (.v (.ty T))) :=
  (pe_bltn hg hm hv (v := .ty T) rfl hn hd).imp fun σ H Q ⟨Γ, O, S, ρ, Q', E', st, h, kq, _⟩ => kq _ O S ρ _ H .refl st.wd .v h
theorem o_inS : OpD X (compareOp .In) (fInS false) := (op_in_sign (X := X)).imp fun x y H Q ⟨wx, wy, O, S, ρ, Q', wd, r1, r2, q, kq⟩ => by
  unfold fInS at q
  split at q
  · obtain ⟨c, rfl, q⟩ := q
    cases r1 with
    | d r1 =>
      cases r1
      cases r2 with
      | d r2 =>
        cases r2
        exact ⟨c, _, rfl, rfl, kq.back wd (.d (.bl _)) q⟩
  · exact q.elim
theorem o_notInS : OpD X (compareOp .NotIn) (fInS true) := (op_notIn_sign (X := X)).imp fun x y H Q ⟨wx, wy, O, S, ρ, Q', wd, r1, r2, q, kq⟩ => by
  unfold fInS at q
  split at q
  · obtain ⟨c, rfl, q⟩ := q
    cases r1 with
    | d r1 =>
      cases r1
      cases r2 with
      | d r2 =>
        cases r2
        exact ⟨c, _, rfl, rfl, kq.back wd (.d (.bl _)) q⟩
  · exact q.elim
/-- a text of the module -/
theorem d_gstr {x : Str} {z : Str} {t : Tok} (hm : X.mg x = some (.str z t)) (hg : Gl X x := by rfl) (hd : (x == ("__debug__" : Str)) = false := by decide) : PDE X Wx (.Name x pos) (dC (.str z)) :=
  d_c (pe_glob hg hm (v := .str z) ⟨t, rfl⟩ hd) fun _ => .str z
theorem d_gint {x : Str} {z : Int} {t : Tok} (hm : X.mg x = some (.int z t)) (hg : Gl X x := by rfl) (hd : (x == ("__debug__" : Str)) = false := by decide) : PDE X Wx (.Name x pos) (dC (.int z)) :=
  d_c (pe_glob hg hm (v := .int z) ⟨t, rfl⟩ hd) fun _ => .int z
end

/-! ### enumerate, zip -/
def enumW : Nat → List W → List W
  | _, [] => []
  | i, w :: ws => mkT [.d (.int (i : Int)), w] :: enumW (i + 1) ws
theorem enumW_get : ∀ (ws : List W) (j i : Nat), (enumW j ws)[i]? = ws[i]?.map fun w => mkT [.d (.int ((j + i : Nat) : Int)), w]
  | [], _, _ => by simp [enumW]
  | w :: ws, j, 0 => by simp [enumW]
  | w :: ws, j, i + 1 => by
    show (enumW (j + 1) ws)[i]? = ws[i]?.map _
    rw [enumW_get ws (j + 1) i]
    have e : j + 1 + i = j + (i + 1) := by omega
    rw [e]
theorem enumW_len : ∀ (ws : List W) (j : Nat), (enumW j ws).length = ws.length
  | [], _ => rfl
  | w :: ws, j => by show (enumW (j + 1) ws).length + 1 = ws.length + 1; rw [enumW_len]
def IteT (K : PySem.W.Frag) (a : Addr) : It :=
  ⟨fun i H => ∃ (xs : List V) (x : V), SqT K H a xs ∧ xs[i]? = some x, fun i H v H' => ∃ T x, v = .ref T ∧ H T = none ∧ H' = upd H T (.tup [.int (i : Nat), x]) ∧ ∀ xs, SqT K H a xs → xs[i]? = some x, fun i H => ∃ xs : List V, SqT K H a xs ∧ xs.length ≤ i⟩
theorem turn_enumT {P : Program} {w : World} {K : PySem.W.Frag} {elts : List Expr} {kk : Nat} {tpos : Pos} (a e it : Addr) :
    Turn P w K (.Tuple elts kk tpos) (IteT K a) [e, it] e (fun i h => (∃ old, IsEnum h e it ((i : Nat) : Int) old) ∧ h.IsTupleIter it a i ∧ e ≠ it) where
  mem := by simp
  obj := fun i h st b hb => by
    obtain ⟨⟨old, he⟩, ⟨o, ho, hc, hd⟩, _⟩ := st
    have e' : b = e ∨ b = it := by simpa using hb
    rcases e' with z | z
    · rw [z]; exact ⟨_, he, fun v q => nomatch q⟩
    · rw [z]; exact ⟨o, ho, fun v q => by rw [hd] at q; cases q⟩
  keep := fun i h h' st k => let ⟨⟨old, he⟩, hi, hne⟩ := st; ⟨⟨old, k e (by simp) _ he⟩, hi.at fun o q => k it (by simp) o q, hne⟩
  item := by
    intro X hP hw hK hc i pins s σ H E I hf st hg
    subst hP hw hK
    obtain ⟨⟨old, he⟩, hit, hne⟩ := st
    obtain ⟨xs, x, hq, hx⟩ := hg
    obtain ⟨its, rv, p, hz⟩ := I.tuple hq
    obtain ⟨u, hu, ru⟩ := rv.get hx
    have hel : e < s.heap.objs.size := Heap.lt_size he
    have hil : it < s.heap.objs.size := by obtain ⟨_, q, _⟩ := hit; exact Heap.lt_size q
    have ht : s.heap.IsTuple a its.toArray := p
    have nai : a ≠ it := fun z => by
      obtain ⟨o1, e1, c1, _⟩ := ht
      obtain ⟨o2, e2, c2, _⟩ := hit
      rw [z, e2] at e1; cases e1; rw [c2] at c1; injection c1 with c1; exact absurd c1 (by decide)
    have nae : e ≠ a := fun z => by
      obtain ⟨o1, e1, c1, _⟩ := ht
      have he' := he
      rw [z] at he'
      rw [show s.heap.get? a = some _ from he'] at e1; cases e1; injection c1 with c1; exact absurd c1 (by decide)
    have hlt : i < its.toArray.size := by
      have h1 := (List.getElem?_eq_some_iff.mp hu).1
      simpa using h1
    refine wpAny_pyNext_enum_itemD (Draws.tuple (A := X.A.in1) (show X.A.in1.handled = none from I.ok.hd hc) it a nai its.toArray) he ⟨hit, ht⟩ hlt hne (by simp [hne, nae]) fun y h' tk hP ho hst' hT hsz hk => ?_
    obtain ⟨hit', _⟩ := hst'
    have hy : y = u := by
      have : some y = some u := by rw [← hP]; simpa using hu
      exact Option.some.inj this
    subst hy
    refine ⟨_, rfl, wpAny_letOwnedTupleGo_enum (s := { s with heap := h', toks := tk + 1 }) ho fun h'' he' sb => ?_⟩
    have hT2 : h''.get? s.heap.objs.size = some { cls := .type "tuple", data := .seq #[.int i tk, y] } := (sb.2 _ (Nat.ne_of_gt hel)).trans hT
    have new : ObjOk X.prog X.w (upd H s.heap.objs.size (.tup [.int (i : Nat), x])) h'' s.heap.objs.size (.tup [.int (i : Nat), x]) :=
      ⟨by show 2 ≤ sizeLine; decide, [.int i tk, y], .cons ⟨_, rfl⟩ (.cons ru .nil), ⟨_, hT2, rfl, _, rfl⟩⟩
    have I1 : Inv X pins σ (upd H s.heap.objs.size (.tup [.int (i : Nat), x])) { s with heap := h'', toks := tk + 1 } :=
      I.turnedNew (ch := [e, it]) (fun b ob hb q => (sb.2 b (fun z => hb (by simp [z]))).trans (hk b ob (fun z => hb (by simp [z])) (fun z => hb (by simp [z])) q)) hf (Nat.le_refl _) new
    refine ⟨.ref s.heap.objs.size, _, I1, rfl, ⟨_, x, rfl, I.hok.fresh (Nat.le_refl _), rfl, fun ys hy => by rw [I.tuple_inj hy hq]; exact hx⟩, ⟨⟨y, ?_⟩, hit'.at fun o q => (sb.2 it (Ne.symm hne)).trans q, hne⟩, fun b hb => ?_⟩
    · have e1 : ((i + 1 : Nat) : Int) = (i : Int) + 1 := by omega
      rw [e1]; exact he'
    · have hb' : b < s.heap.objs.size := by
        have e' : b = e ∨ b = it := by simpa using hb
        rcases e' with z | z
        · rw [z]; exact hel
        · rw [z]; exact hil
      rw [upd_ne (Nat.ne_of_lt hb')]
      exact (hf b hb).1
  done := by
    intro X hP hw hK hc i pins s σ H E I hf st hg
    subst hP hw hK
    obtain ⟨⟨old, he⟩, hit, hne⟩ := st
    obtain ⟨xs, hq, hx⟩ := hg
    obtain ⟨its, rv, p, hz⟩ := I.tuple hq
    obtain ⟨f0, f1, f2, f3, f4, f5⟩ := hf it (by simp)
    have hl := rv.length
    have hT : s.TypeIs (.ref e) "enumerate" := ⟨_, he, rfl⟩
    unfold pyNext
    refine wpAny_bind (wpAny_attempt (wpAny_callSpecial?_slot (name := Str.ofString "__next__") hT F.slot_enumerate_next
      (wpAny_call_entry F.slot_enumerate_next hT F.entry_enumerate_next ?_ (F.args_enumerate_next_1 _))))
    show wpAny _ _ (field (.ref e) 2 >>= _) _ _ _
    refine wpAny_bind (wpAny_field he rfl (x := .ref it) rfl ?_)
    refine wpAny_bind (wpAny_nextOf_tuple_end (I.ok.hd hc) hit (show s.heap.IsTuple a its.toArray from p) (by simp; omega) fun h' x he' hx' => ?_)
    obtain ⟨o, ho, hc'⟩ := hx'
    refine wpAny_bind (wpAny_isInstance (T := "StopIteration") (b := true) ⟨o, ho, hc'⟩ isSubtype_stop ?_)
    exact wpAny_pure ⟨rfl, I.turned (t' := s.toks) (fun b o hb q => he' b o hb q) f0 f1 f3 f4 f5⟩
  self := fun A i s Q E st h => let ⟨⟨_, he⟩, _⟩ := st; wpAny_pyIter_enum he h
section
variable {X : Cx} {Wx : WX}
/-- enumerate(x), x a list or a tuple -/
def iEnumA (K : PySem.W.Frag) (ta : TA) : TI := fun σ H R => ta σ H fun vs H1 => ∃ a xs, vs = [.ref a] ∧ ((SqL K H1 a xs ∧ R (Ite K a) H1) ∨ (SqT K H1 a xs ∧ R (IteT K a) H1))
theorem pi_enumA {e : Expr} {ta : TA} {p pos tpos : Pos} {elts : List Expr} {kk : Nat} (hg : Gl X "enumerate") (hm : X.mg "enumerate" = none) (ha : PA X [e] ta) (hs : starEach [e] X.env = [(false, eval e X.env)] := by rfl) :
    PI X (.Tuple elts kk tpos) (.Call (.Name "enumerate" p) [e] [] pos) (iEnumA X.K ta) := by
  refine ⟨fun pins s σ H R I h => ?_⟩
  refine Call_ (ld_blt I hg hm boot_enumerate (PyProof.Rows.callWith_type1 (thn (ha.run pos pins s σ H _ I h) fun us s1 ⟨vs, H1, I1, r1, q1⟩ => ?_) hs rfl))
  obtain ⟨a, xs, ex, q⟩ := q1
  subst ex
  cases r1 with
  | cons r rr =>
    cases rr
    cases r
    have fp2 : ∀ b ∈ [s1.heap.objs.size + 1, s1.heap.objs.size], FpOk X pins H1 b := fun b hb => by
      have e' : b = s1.heap.objs.size + 1 ∨ b = s1.heap.objs.size := by simpa using hb
      have hle : s1.heap.objs.size ≤ b := by
        rcases e' with z | z
        · rw [z]; exact Nat.le_add_right _ _
        · rw [z]; exact Nat.le_refl _
      exact I1.fpOk hle (I1.hok.fresh hle)
    rcases q with ⟨hq, q⟩ | ⟨hq, q⟩
    · obtain ⟨its, rv, p', hz⟩ := I1.list hq
      refine call_enumerate_list p'.isList fun h' he hit hsz hk => wpAny_pyIter_enum he ?_
      have I2 : Inv X pins σ H1 { s1 with heap := h' } := I1.kept (t' := s1.toks) hk
      exact ⟨s1.heap.objs.size + 1, [s1.heap.objs.size + 1, s1.heap.objs.size], _, _, H1, rfl, I2, turn_enum a (s1.heap.objs.size + 1) s1.heap.objs.size, ⟨⟨.none, he⟩, hit, Nat.succ_ne_self _⟩, fp2, q⟩
    · obtain ⟨its, rv, p', hz⟩ := I1.tuple hq
      refine uz_enum_begins (begins_tuple a its.toArray) (show s1.heap.IsTuple a its.toArray from p') fun h' he hit hsz hk => wpAny_pyIter_enum he ?_
      have I2 : Inv X pins σ H1 { s1 with heap := h' } := I1.kept (t' := s1.toks) hk
      exact ⟨s1.heap.objs.size + 1, [s1.heap.objs.size + 1, s1.heap.objs.size], _, _, H1, rfl, I2, turn_enumT a (s1.heap.objs.size + 1) s1.heap.objs.size, ⟨⟨.none, he⟩, ⟨_, hit, rfl, rfl⟩, Nat.succ_ne_self _⟩, fp2, q⟩
/-- a new tuple yielded -/
theorem yl_tup {K : PySem.W.Frag} {S : Hp} {ρ : Nat → Addr} {H : Hp} {O : List Ob} {T : Addr} {vs : List V} {ws : List W} (wd : Wd K S ρ O H) (nT : H T = none) (r : RelWs K S ρ O.length vs ws) :
    ∃ S'', Ext S ρ O.length H S'' ρ O.length (upd H T (.tup vs)) ∧ Wd K S'' ρ O (upd H T (.tup vs)) ∧ RelW K S'' ρ O.length (.ref T) (mkT ws) := by
  obtain ⟨w1, x1⟩ := wd.lay (u := .tup vs) nT
  exact ⟨_, x1, w1, mkT_rel upd_same (r.ext x1)⟩
/-- the items of a thing that is walked: a tuple, or a list of data (one that may be changed stands) -/
def wlk (w : W) (O : List Ob) (Q : List W → (List Ob → Prop) → Prop) : Prop := match w with
  | .d (.list xs) => Q (xs.map .d) tt0
  | .rl xs => Q (xs.map .d) tt0
  | .o k => ∃ ws, O[k]? = some (.lst ws) ∧ Q ws (fun O2 => O2[k]? = some (.lst ws))
  | w => ∃ ws, tv w = some ws ∧ Q ws tt0
theorem wlk_inv {K : PySem.W.Frag} {S : Hp} {ρ : Nat → Addr} {H : Hp} {O : List Ob} {v : V} {w : W} {Q : List W → (List Ob → Prop) → Prop} (wd : Wd K S ρ O H) (h : wlk w O Q) (r : RelW K S ρ O.length v w) :
    ∃ a ws chk, v = .ref a ∧ Q ws chk ∧ chk O ∧ ((∀ O' S' ρ' H', Ext S ρ O.length H S' ρ' O'.length H' → Wd K S' ρ' O' H' → chk O' → ∃ vs, SqL K H' a vs ∧ RelWs K S' ρ' O'.length vs ws) ∨
      (∃ vs, ∀ O' S' ρ' H', Ext S ρ O.length H S' ρ' O'.length H' → Wd K S' ρ' O' H' → SqT K H' a vs ∧ RelWs K S' ρ' O'.length vs ws)) := by
  unfold wlk at h
  split at h
  · obtain ⟨a, rfl, hl⟩ := wd_list wd (.inl rfl) r
    exact ⟨a, _, _, rfl, h, trivial, .inl hl⟩
  · obtain ⟨a, rfl, hl⟩ := wd_list wd (.inr rfl) r
    exact ⟨a, _, _, rfl, h, trivial, .inl hl⟩
  · obtain ⟨ws, ek, h⟩ := h
    obtain ⟨a, rfl, hl⟩ := wd_own (ws := ws) r
    exact ⟨a, _, _, rfl, h, ek, .inl hl⟩
  · obtain ⟨ws, ew, h⟩ := h
    obtain ⟨a, vs, rfl, hT, g⟩ := tv_inv ew r
    exact ⟨a, _, _, rfl, h, trivial, .inr ⟨vs, fun O' S' ρ' H' x wd' => ⟨SubH.sqT wd'.sub (SubH.sqT x.sub hT), g.ext x⟩⟩⟩
def dItEn (u : DA) : DI := fun Γ O Q E => u Γ O (fun ws O1 => match ws with
  | [w] => wlk w O1 fun items chk => Q (enumW 0 items) chk O1
  | _ => False) E
theorem it_en {e : Expr} {u : DA} {p pos tpos : Pos} {elts : List Expr} {kk : Nat} (hm : X.mg "enumerate" = none) (ha : PDA X Wx [e] u) (hg : Gl X "enumerate" := by rfl) (hs : starEach [e] X.env = [(false, eval e X.env)] := by rfl) :
    PDI X Wx (.Tuple elts kk tpos) (.Call (.Name "enumerate" p) [e] [] pos) (dItEn u) :=
  (pi_enumA hg hm ha hs).imp fun σ H R ⟨Γ, O, S, ρ, Q', E', st, h, kq, kx⟩ => ⟨Γ, O, S, ρ, _, E', st, h, fun ws O1 S1 ρ1 vs H1 x1 wd1 r1 h1 => by
    dsimp only at h1
    split at h1
    · rename_i w
      cases r1 with
      | cons r rr =>
        cases rr
        obtain ⟨a, items, chk, rfl, h1, ck, hh⟩ := wlk_inv wd1 h1 r
        rcases hh with hl | ⟨us, ht⟩
        · obtain ⟨vs0, hv0, _⟩ := hl O1 S1 ρ1 H1 .refl wd1 ck
          refine ⟨a, vs0, rfl, .inl ⟨hv0, kq _ _ O1 S1 ρ1 _ H1 x1 wd1 ⟨fun i O' S' ρ' H' x wd c hi => ?_, fun i w O' S' ρ' H' x H'' ex wd c hi y => ?_, fun O' S' ρ' H' x wd c => ?_⟩ h1⟩⟩
          · rw [enumW_len] at hi
            obtain ⟨vs, h3, h4⟩ := hl O' S' ρ' H' x wd c
            obtain ⟨v, h5, _⟩ := h4.get (List.getElem?_eq_getElem hi)
            exact ⟨vs, v, h3, h5⟩
          · obtain ⟨vs, h3, h4⟩ := hl O' S' ρ' H' ex wd c
            rw [enumW_get] at hi
            obtain ⟨w0, e0, rfl⟩ := Option.map_eq_some_iff.mp hi
            obtain ⟨v, h5, h6⟩ := h4.get e0
            obtain ⟨T, z, rfl, nT, rfl, hz⟩ := y
            have e1 : some v = some z := h5.symm.trans (hz vs h3)
            cases e1
            have q := yl_tup (vs := [.int ((i : Nat) : Int), v]) (ws := [.d (.int ((0 + i : Nat) : Int)), w0]) wd nT (.cons (.d (by rw [Nat.zero_add]; exact .int _)) (.cons h6 .nil))
            exact q
          · obtain ⟨vs, h3, h4⟩ := hl O' S' ρ' H' x wd c
            exact ⟨vs, h3, by rw [enumW_len, h4.length]; exact Nat.le_refl _⟩
        · refine ⟨a, us, rfl, .inr ⟨(ht O1 S1 ρ1 H1 .refl wd1).1, kq _ _ O1 S1 ρ1 _ H1 x1 wd1 ⟨fun i O' S' ρ' H' x wd c hi => ?_, fun i w O' S' ρ' H' x H'' ex wd c hi y => ?_, fun O' S' ρ' H' x wd c => ?_⟩ h1⟩⟩
          · rw [enumW_len] at hi
            obtain ⟨h3, h4⟩ := ht O' S' ρ' H' x wd
            obtain ⟨v, h5, _⟩ := h4.get (List.getElem?_eq_getElem hi)
            exact ⟨us, v, h3, h5⟩
          · obtain ⟨h3, h4⟩ := ht O' S' ρ' H' ex wd
            rw [enumW_get] at hi
            obtain ⟨w0, e0, rfl⟩ := Option.map_eq_some_iff.mp hi
            obtain ⟨v, h5, h6⟩ := h4.get e0
            obtain ⟨T, z, rfl, nT, rfl, hz⟩ := y
            have e1 : some v = some z := h5.symm.trans (hz us h3)
            cases e1
            have q := yl_tup (vs := [.int ((i : Nat) : Int), v]) (ws := [.d (.int ((0 + i : Nat) : Int)), w0]) wd nT (.cons (.d (by rw [Nat.zero_add]; exact .int _)) (.cons h6 .nil))
            exact q
          · obtain ⟨h3, h4⟩ := ht O' S' ρ' H' x wd
            exact ⟨us, h3, by rw [enumW_len, h4.length]; exact Nat.le_refl _⟩
    · exact h1.elim, kx⟩
def zipW : List W → List W → List W
  | a :: as, b :: bs => mkT [a, b] :: zipW as bs
  | _, _ => []
theorem zipW_get : ∀ (as bs : List W) (i : Nat) (w : W), (zipW as bs)[i]? = some w → ∃ a b, as[i]? = some a ∧ bs[i]? = some b ∧ w = mkT [a, b]
  | [], _, _, _, h => by simp [zipW] at h
  | _ :: _, [], _, _, h => by simp [zipW] at h
  | a :: as, b :: bs, 0, w, h => by
    have e : mkT [a, b] = w := Option.some.inj h
    exact ⟨a, b, rfl, rfl, e.symm⟩
  | a :: as, b :: bs, i + 1, w, h => by
    obtain ⟨x, y, h1, h2, h3⟩ := zipW_get as bs i w h
    exact ⟨x, y, h1, h2, h3⟩
theorem zipW_len : ∀ (as bs : List W), (zipW as bs).length = min as.length bs.length
  | [], _ => by simp [zipW]
  | _ :: _, [] => by simp [zipW]
  | a :: as, b :: bs => by
    show (zipW as bs).length + 1 = _
    rw [zipW_len as bs, List.length_cons, List.length_cons]; omega
/-- the items of a list -/
def wlkL (w : W) (O : List Ob) (Q : List W → (List Ob → Prop) → Prop) : Prop := match w with
  | .d (.list xs) => Q (xs.map .d) tt0
  | .rl xs => Q (xs.map .d) tt0
  | .o k => ∃ ws, O[k]? = some (.lst ws) ∧ Q ws (fun O2 => O2[k]? = some (.lst ws))
  | _ => False
theorem wlkL_inv {K : PySem.W.Frag} {S : Hp} {ρ : Nat → Addr} {H : Hp} {O : List Ob} {v : V} {w : W} {Q : List W → (List Ob → Prop) → Prop} (wd : Wd K S ρ O H) (h : wlkL w O Q) (r : RelW K S ρ O.length v w) :
    ∃ a ws chk, v = .ref a ∧ Q ws chk ∧ chk O ∧ (∀ O' S' ρ' H', Ext S ρ O.length H S' ρ' O'.length H' → Wd K S' ρ' O' H' → chk O' → ∃ vs, SqL K H' a vs ∧ RelWs K S' ρ' O'.length vs ws) := by
  unfold wlkL at h
  split at h
  · obtain ⟨a, rfl, hl⟩ := wd_list wd (.inl rfl) r
    exact ⟨a, _, _, rfl, h, trivial, hl⟩
  · obtain ⟨a, rfl, hl⟩ := wd_list wd (.inr rfl) r
    exact ⟨a, _, _, rfl, h, trivial, hl⟩
  · obtain ⟨ws, ek, h⟩ := h
    obtain ⟨a, rfl, hl⟩ := wd_own (ws := ws) r
    exact ⟨a, _, _, rfl, h, ek, hl⟩
  · exact h.elim
/-- zip of two lists -/
def dItZ (u : DA) : DI := fun Γ O Q E => u Γ O (fun ws O1 => match ws with
  | [w, w'] => wlkL w O1 fun items chk => wlkL w' O1 fun items' chk' => Q (zipW items items') (fun O2 => chk O2 ∧ chk' O2) O1
  | _ => False) E
end
end UZ
/-! UZ, part G: tuple * int at any int, tuple[::-1], zip of two things. -/
namespace HT
open PySem PySem.Spec PyProof.Rows
section
variable {prog : Program} {w : World} {A : Around} {E : Value → Shared → Prop} {s : Shared}
theorem uz_adjust_rev (n : Nat) : Builtin.Slice.sliceAdjust none none (-1) (n : Int) = ((n : Int) - 1, -1) := by
  have h1 : ((-1 : Int) < 0) := by omega
  unfold Builtin.Slice.sliceAdjust
  simp only [h1, if_true]
theorem uz_places_rev (n : Nat) : Builtin.Slice.slicePlaces ((n : Int) - 1) (-1) (-1) = n := by
  unfold Builtin.Slice.slicePlaces
  have h1 : ¬ ((-1 : Int) > 0) := by omega
  simp only [h1, if_false]
  have h2 : (-(-1 : Int)) = 1 := by decide
  rw [h2, Int.ediv_one]
  split <;> omega
theorem uz_fm_congr {α β : Type} {f g : α → Option β} : ∀ {l : List α}, (∀ a ∈ l, f a = g a) → l.filterMap f = l.filterMap g
  | [], _ => rfl
  | a :: l, h => by
    rw [List.filterMap_cons, List.filterMap_cons, h a List.mem_cons_self, uz_fm_congr fun b hb => h b (List.mem_cons_of_mem _ hb)]
theorem uz_pick_rev (xs : Array Value) : ((List.range xs.size).filterMap fun (m : Nat) => xs[(((xs.size : Int) - 1) + (m : Int) * (-1)).toNat]?).toArray = xs.toList.reverse.toArray := by
  congr 1
  have e : ∀ m ∈ List.range xs.size, xs[(((xs.size : Int) - 1) + (m : Int) * (-1)).toNat]? = xs.toList.reverse[m]? := fun m hm => by
    have hlt := List.mem_range.mp hm
    rw [List.getElem?_reverse (by simpa using hlt)]
    have z : (((xs.size : Int) - 1) + (m : Int) * (-1)).toNat = xs.toList.length - 1 - m := by rw [Array.length_toList]; omega
    rw [z]; simp
  rw [uz_fm_congr e]
  have q : ∀ (l : List Value), (List.range l.length).filterMap (fun m => l[m]?) = l := by
    intro l
    have := PySem.W.krv_all l.toArray
    simpa using this
  have := q xs.toList.reverse
  simpa using this
theorem uz_getItem_tuple_rev {t sl : Addr} {items : Array Value} {k : Tok} (ht : IsTup s.heap t items) (hs : s.heap.IsSliceOf sl .none .none (.int (-1) k)) {Q : Value → Shared → Prop}
    (h : Q (.ref s.heap.objs.size) { s with heap := s.heap.push { cls := .type "tuple", data := .seq items.toList.reverse.toArray } })
    (hsz : items.size ≤ sizeLine) : wpAny (model prog w) A (getItem (.ref t) (.ref sl)) Q E s := by
  have htake : sizeOk (.seq items.toList.reverse.toArray) := by
    show items.toList.reverse.toArray.size ≤ sizeLine
    rw [List.size_toArray, List.length_reverse, Array.length_toList]
    exact hsz
  obtain ⟨os, hos, hcs, hds⟩ := id hs
  have hTs : s.TypeIs (.ref sl) "slice" := ⟨os, hos, hcs⟩
  unfold getItem
  try with_reducible refine wpAny_holding ?_
  first | refine wpAny_bind (wpAny_pure ?_) | skip
  refine wpAny_bind (wpAny_sequenceKey ht.typeIs (by decide) ?_)
  refine wpAny_bind (wpAny_callSpecial?_slot (name := Str.ofString "__getitem__") ht.typeIs PyProof.Rows.slot_tuple_getitem
    (wpAny_call_entry PyProof.Rows.slot_tuple_getitem ht.typeIs entry_tuple_getitem ?_ (args_tuple_getitem _ _)))
  show wpAny _ _ (Builtin.Tuple.tupleItemsOf (.ref t) >>= _) _ _ s
  refine wpAny_bind (tupleItemsOf_ ht ?_)
  refine wpAny_bind (wpAny_typeOf hTs ?_)
  rw [if_pos (by decide)]
  have ap : ∀ {Q' : Int × Int × Nat → Shared → Prop} {E' : Value → Shared → Prop}, Q' ((items.size : Int) - 1, -1, items.size) s → wpAny (model prog w) A.in1 (Builtin.Slice.sliceApplied (.ref sl) (pure (items.size : Int))) Q' E' s := fun {Q' E'} h' => by
    unfold Builtin.Slice.sliceApplied Builtin.Slice.sliceFields
    refine wpAny_bind (wpAny_bind (wpAny_field hos hds (x := .none) rfl (wpAny_bind (wpAny_field hos hds (x := .none) rfl (wpAny_bind (wpAny_field hos hds (x := .int (-1) k) rfl (wpAny_pure ?_)))))))
    refine wpAny_bind (slicePart_int ?_)
    show wpAny _ _ (if ((-1 : Int) == 0) = true then _ else _) _ _ s
    rw [if_neg (by decide)]
    refine wpAny_bind (slicePart_none (wpAny_bind (slicePart_none (wpAny_bind (wpAny_pure ?_)))))
    show wpAny _ _ (match Builtin.Slice.sliceAdjust none none (-1) (items.size : Int) with | (lo, hi) => pure (lo, (-1 : Int), Builtin.Slice.slicePlaces lo hi (-1))) _ _ s
    rw [uz_adjust_rev]
    show wpAny _ _ (pure ((items.size : Int) - 1, (-1 : Int), Builtin.Slice.slicePlaces ((items.size : Int) - 1) (-1) (-1))) _ _ s
    rw [uz_places_rev]
    exact wpAny_pure h'
  refine wpAny_bind (ap ?_)
  have hno : ¬ ((((items.size : Int) - 1) == 0 && (-1 : Int) == 1 && items.size == items.size) = true) := by
    intro q
    rw [Bool.and_eq_true, Bool.and_eq_true] at q
    exact absurd q.1.2 (by decide)
  show wpAny _ _ (if (((items.size : Int) - 1) == 0 && (-1 : Int) == 1 && items.size == items.size) = true then _ else _) _ _ s
  rw [if_neg hno, uz_pick_rev]
  first
    | exact wpAny_bind (m := Builtin.Tuple.tupleExact _) (wpAny_newObj_type (wpAny_pure ⟨_, rfl, wpAny_pure h⟩) htake)
    | exact wpAny_bind (m := Builtin.Tuple.tupleExact _) (wpAny_newObj_type (wpAny_bind (wpAny_pure (wpAny_pure ⟨_, rfl, wpAny_pure h⟩))) htake)
    | exact wpAny_bind (wpAny_bind (m := Builtin.Tuple.tupleExact _) (wpAny_newObj_type (wpAny_pure (wpAny_pure ⟨_, rfl, wpAny_pure h⟩)) htake))
    | exact wpAny_bind (wpAny_bind (m := Builtin.Tuple.tupleExact _) (wpAny_newObj_type (wpAny_pure ⟨_, rfl, wpAny_pure h⟩) htake))
end
end HT
namespace UZ
open PySem PySem.Spec PyProof.Rows L2
/-! ### t[::-1] -/
section
variable {X : Cx} {Wx : WX}
def tRevT (K : PySem.W.Frag) (te : TE) : TE := fun σ H Q => te σ H fun x H1 => ∃ a xs, x = .ref a ∧ SqT K H1 a xs ∧ ∀ p, H1 p = none → Q (.ref p) (upd H1 p (.tup xs.reverse))
theorem pe_revT {e : Expr} {te : TE} {k : Nat} {p1 p2 p3 pos : Pos} (he : PE X e te) : PE X (.Subscript e (.Slice none none (some (.UnaryOp .USub (.Constant (.int 1) k p1) p2)) p3) pos) (tRevT X.K te) := by
  refine ⟨fun pins s σ H Q I h => ?_⟩
  refine Subscript_ (thn (he.run pins s σ H _ I h) fun v s1 ⟨x, H1, I1, r1, q1⟩ => ?_)
  obtain ⟨a, xs, ex, hx, q⟩ := q1
  subst ex
  cases r1
  have hst : PO X (some (.UnaryOp .USub (.Constant (.int 1) k p1) p2)) (tPart (tUn (rU fun i => .int (-i)) (tC (.int 1)))) := po_some (pe_un un_neg pe_int)
  refine wpAny_Slice (thn (po_none.run pins s1 σ H1 (fun o H2 => o = none ∧ H2 = H1) I1 ⟨rfl, rfl⟩) fun vl s2 ⟨l, H2, I2, pl, el, e2⟩ => ?_)
  subst el e2
  refine thn (po_none.run pins s2 σ H2 (fun o H3 => o = none ∧ H3 = H2) I2 ⟨rfl, rfl⟩) fun vu s3 ⟨u, H3, I3, pu, eu, e3⟩ => ?_
  subst eu e3
  refine thn (hst.run pins s3 σ H3 (fun o H4 => o = some (-1) ∧ H4 = H3) I3 ⟨1, rfl, -1, rfl, rfl, rfl⟩) fun vs s4 ⟨o, H4, I4, ps, eo, e4⟩ => ?_
  subst eo e4
  have I5 : Inv X pins σ H4 { s4 with heap := s4.heap.push { cls := .type "slice", data := .fields #[vl, vu, vs] } } := I4.kept (t' := s4.toks) fun b ob q => Heap.get?_push_of_some _ q
  obtain ⟨its, r, ht, hz⟩ := I5.tuple hx
  have hlen := r.length
  cases pl
  cases pu
  cases ps with
  | int _ tk =>
    show wpAny (model X.prog X.w) X.A (subscriptTail e (.Slice none none (some (.UnaryOp .USub (.Constant (.int 1) k p1) p2)) p3) (.ref a) (.ref s4.heap.objs.size)) (EP X pins σ Q) X.xe { s4 with heap := s4.heap.push { cls := .type "slice", data := .fields #[.none, .none, .int (-1) tk] } }
    refine tail_any (ops := [.ref a, .ref s4.heap.objs.size]) ht.typeIs PyProof.Rows.slot_tuple_getitem.lookup ?_ (by with_unfolding_all rfl)
    refine HT.uz_getItem_tuple_rev ht (Heap.IsSliceOf.new _ .none .none (.int (-1) tk)) ?_ (by rw [List.size_toArray]; omega)
    refine ⟨.ref _, _, I5.laid (t' := s4.toks) (o := .tup xs.reverse) (fun b ob q => Heap.get?_push_of_some _ q) (Nat.le_refl _) ?_, rfl, q _ (I5.hok.fresh (Nat.le_refl _))⟩
    exact ⟨by rw [List.length_reverse]; exact hz, _, r.reverse, ⟨_, Heap.get?_push_size _ rfl, rfl, _, rfl⟩⟩
def fRev : F1 := fun x O Q => ∃ xs, tv x = some xs ∧ Q (mkT xs.reverse) O
theorem d_revT {e : Expr} {t : DE} {k : Nat} {p1 p2 p3 pos : Pos} (he : PDE X Wx e t) : PDE X Wx (.Subscript e (.Slice none none (some (.UnaryOp .USub (.Constant (.int 1) k p1) p2)) p3) pos) (dUn fRev t) :=
  (pe_revT he).imp fun σ H Q ⟨Γ, O, S, ρ, Q', E', st, h, kq, kx⟩ => ⟨Γ, O, S, ρ, _, E', st, h, fun w1 O1 S1 ρ1 v1 H1 x1 wd1 r1 ⟨xs, e1, h1⟩ => by
    obtain ⟨a, vs, rfl, h2, g⟩ := tv_inv e1 r1
    exact ⟨a, vs, rfl, SubH.sqT wd1.sub h2, fun p np => (kq.ext x1).newT wd1 np g.reverse h1⟩, kx⟩
end

/-! ### t * n -/
theorem uz_tuple_mulS (l : Addr) (items : Array Value) (n : Nat) (dd : Option Addr) (sl : Array (Option Value)) (x : Int) (u : Tok) (c0 : (decide (x < -(2 ^ 63)) || decide (x ≥ 2 ^ 63)) = false) (c1 : (items.isEmpty || x == 1) = true) :
    Meets (Builtin.«tuple.__mul__» ⟨[.ref l, .int x u], []⟩) (fun _ R s => s.heap.get? l = some { cls := .type "tuple", dict := dd, data := .seq items n, slots := sl } ∧ R (.ok (.ret (Value.ref l))) s) :=
  .of_wp fun prog w A R s h => by
    obtain ⟨hp, g, d, tk, os⟩ := s
    obtain ⟨hl, h⟩ := h
    have f1 := AutoSeq1.idx_int
    wp_walk using AutoSeq1.wpAny_loadPart' hl
    repeat (first
      | (refine wpAny_ite_false (decide_eq_false (by rw [c0]; exact Bool.false_ne_true)) ?_; wp_walk using AutoSeq1.wpAny_loadPart' hl)
      | (refine wpAny_ite_true (decide_eq_true c1) ?_; wp_walk using AutoSeq1.wpAny_loadPart' hl))
    exact ⟨_, rfl, h⟩
theorem uz_tuple_mul0 (l : Addr) (items : Array Value) (n : Nat) (dd : Option Addr) (sl : Array (Option Value)) (x : Int) (u : Tok) (c0 : (decide (x < -(2 ^ 63)) || decide (x ≥ 2 ^ 63)) = false) (c1 : (items.isEmpty || x == 1) = false) (c2 : (decide (x ≤ 0) || items.isEmpty) = true) :
    Meets (Builtin.«tuple.__mul__» ⟨[.ref l, .int x u], []⟩) (fun _ R s => s.heap.get? l = some { cls := .type "tuple", dict := dd, data := .seq items n, slots := sl } ∧
      R (.ok (.ret (Value.ref s.heap.objs.size))) { s with heap := s.heap.push { cls := Value.type "tuple", data := Data.seq #[] }, toks := s.toks }) :=
  .of_wp fun prog w A R s h => by
    obtain ⟨hp, g, d, tk, os⟩ := s
    obtain ⟨hl, h⟩ := h
    have f1 := AutoSeq1.idx_int
    wp_walk using AutoSeq1.wpAny_loadPart' hl
    repeat (first
      | (refine wpAny_ite_false (decide_eq_false (by rw [c0]; exact Bool.false_ne_true)) ?_; wp_walk using AutoSeq1.wpAny_loadPart' hl)
      | (refine wpAny_ite_false (decide_eq_false (by rw [c1]; exact Bool.false_ne_true)) ?_; wp_walk using AutoSeq1.wpAny_loadPart' hl)
      | (refine wpAny_ite_true (decide_eq_true c2) ?_; wp_walk using AutoSeq1.wpAny_loadPart' hl))
    exact ⟨_, rfl, h⟩
section
variable {X : Cx} {Wx : WX}
def rRepS (K : PySem.W.Frag) : R2 := fun x y H Q => ∃ l k xs, x = .ref l ∧ y = .int k ∧ SqT K H l xs ∧ 0 ≤ k ∧ k ≤ 1000 ∧ (xs = [] ∨ k = 1) ∧ Q (.ref l) H
theorem op_repS : OpR X (binaryOp .Mult) (rRepS X.K) := by
  intro pins s σ H x y v u Q I rx ry h
  obtain ⟨l, k, xs, rfl, rfl, hT, h1, h2, he, q⟩ := h
  cases rx
  obtain ⟨t, rfl⟩ := ry
  obtain ⟨its, r, ⟨⟨cls, dd, data, sl⟩, ho, hc, n, hd⟩, hs⟩ := I.tuple hT
  simp only at hc hd
  subst hc hd
  have c0 : (decide (k < -(2 ^ 63)) || decide (k ≥ 2 ^ 63)) = false := by
    rw [decide_eq_false (by omega), decide_eq_false (by omega)] <;> rfl
  have c1 : (its.toArray.isEmpty || k == 1) = true := by
    rcases he with e | e
    · subst e
      cases r
      rfl
    · subst e
      simp
  exact wpAny_binaryOp_repeat_ref (T := "tuple") (U := "int") (by decide) ⟨_, ho, rfl⟩ (fun s' => typeIs_int s' k t) noFill_tuple_mul F.fills_int_mul F.slot_int_rmul repeat_tuple F.slot_int_index.lookup
    (call_meets F.slot_int_rmul (typeIs_int s k t) F.entry_int_rmul (F.args_int_rmul_2 _ _) (int_rmul_tuple k t l its.toArray n dd sl)
      ⟨ho, rfl, ⟨_, ho, rfl⟩, call_meets F.slot_tuple_mul ⟨_, ho, rfl⟩ F.entry_tuple_mul (F.args_tuple_mul_2 _ _) (uz_tuple_mulS l its.toArray n dd sl k t c0 c1) ⟨ho, ⟨.ref l, H, I, rfl, q⟩⟩⟩)
def rRepZ (K : PySem.W.Frag) : R2 := fun x y H Q => ∃ l xs, x = .ref l ∧ y = .int 0 ∧ SqT K H l xs ∧ xs ≠ [] ∧ ∀ p, H p = none → Q (.ref p) (upd H p (.tup []))
theorem op_repZ : OpR X (binaryOp .Mult) (rRepZ X.K) := by
  intro pins s σ H x y v u Q I rx ry h
  obtain ⟨l, xs, rfl, rfl, hT, hne, q⟩ := h
  cases rx
  obtain ⟨t, rfl⟩ := ry
  obtain ⟨its, r, ⟨⟨cls, dd, data, sl⟩, ho, hc, n, hd⟩, hs⟩ := I.tuple hT
  simp only at hc hd
  subst hc hd
  have hn : its ≠ [] := fun e => hne (by
    have := r.length
    rw [e] at this
    exact List.eq_nil_of_length_eq_zero this)
  have hi : its.toArray.isEmpty = false := by
    cases its with
    | nil => exact absurd rfl hn
    | cons a b => rfl
  refine wpAny_binaryOp_repeat_ref (T := "tuple") (U := "int") (by decide) ⟨_, ho, rfl⟩ (fun s' => typeIs_int s' 0 t) noFill_tuple_mul F.fills_int_mul F.slot_int_rmul repeat_tuple F.slot_int_index.lookup
    (call_meets F.slot_int_rmul (typeIs_int s 0 t) F.entry_int_rmul (F.args_int_rmul_2 _ _) (int_rmul_tuple 0 t l its.toArray n dd sl)
      ⟨ho, rfl, ⟨_, ho, rfl⟩, call_meets F.slot_tuple_mul ⟨_, ho, rfl⟩ F.entry_tuple_mul (F.args_tuple_mul_2 _ _) (uz_tuple_mul0 l its.toArray n dd sl 0 t (by decide) (by rw [hi]; rfl) (by rfl)) ⟨ho, ?_⟩⟩)
  refine ⟨.ref s.heap.objs.size, _, I.laid (t' := s.toks) (o := .tup []) (fun b ob q => Heap.get?_push_of_some _ q) (Nat.le_refl _) ?_, rfl, q _ (I.hok.fresh (Nat.le_refl _))⟩
  exact ⟨Nat.zero_le _, [], .nil, IsTup.new _ _⟩
/-- t * n, n not below 0 -/
def fRepT : F2 := fun x y O Q => ∃ xs n, tv x = some xs ∧ y = .d (.int n) ∧ 0 ≤ n ∧ n ≤ 1000 ∧ xs.length ≤ 1000 ∧ Q (mkT (List.replicate n.toNat xs).flatten) O
theorem o_repT : OpD X (binaryOp .Mult) fRepT := ((op_repS.or op_repT).or op_repZ).imp fun x y H Q ⟨wx, wy, O, S, ρ, Q', wd, r1, r2, ⟨xs, n, e1, e2, h1, h2, h3, q⟩, kq⟩ => by
  have q1 := r1.asT e1
  obtain ⟨a, vs, rfl, g, g1⟩ := tv_inv e1 r1
  subst e2
  cases r2 with
  | d r2 =>
    cases r2
    by_cases hx : xs = [] ∨ n = 1
    · have ez : (List.replicate n.toNat xs).flatten = xs := by
        rcases hx with rfl | rfl
        · rw [List.flatten_eq_nil_iff]; intro l hl; exact List.eq_of_mem_replicate hl
        · simp
      rw [ez] at q
      refine .inl (.inl ⟨a, n, vs, rfl, rfl, SubH.sqT wd.sub g, h1, h2, ?_, kq.back wd q1 q⟩)
      rcases hx with rfl | rfl
      · cases g1; exact .inl rfl
      · exact .inr rfl
    · have hne : xs ≠ [] := fun z => hx (.inl z)
      have hn1 : n ≠ 1 := fun z => hx (.inr z)
      have hv : vs ≠ [] := fun z => hne (by
        subst z
        cases g1; rfl)
      by_cases h0 : n = 0
      · subst h0
        exact .inr ⟨a, vs, rfl, rfl, SubH.sqT wd.sub g, hv, fun p np => kq.newT wd np .nil q⟩
      · exact .inl (.inr ⟨a, n, vs, rfl, rfl, SubH.sqT wd.sub g, hv, by omega, h2, by rw [g1.length]; exact h3, fun p np => kq.newT wd np (g1.rep _) q⟩)

/-! ### zip(a, b) -/
theorem it_z {e e2 : Expr} {u : DA} {p pos tpos : Pos} {elts : List Expr} {kk : Nat} (hm : X.mg "zip" = none) (ha : PDA X Wx [e, e2] u) (hg : Gl X "zip" := by rfl)
    (hs : starEach [e, e2] X.env = (false, eval e X.env) :: starEach [e2] X.env := by rfl) (hpl : (backTo pos (starEach [e2] X.env)).any (·.1) = false := by rfl) :
    PDI X Wx (.Tuple elts kk tpos) (.Call (.Name "zip" p) [e, e2] [] pos) (dItZ u) :=
  (RZ.pi_zipA hg hm ha hs hpl).imp fun σ H R ⟨Γ, O, S, ρ, Q', E', st, h, kq, kx⟩ => ⟨Γ, O, S, ρ, _, E', st, h, fun ws O1 S1 ρ1 vs H1 x1 wd1 r1 h1 => by
    dsimp only at h1
    split at h1
    · rename_i w w'
      cases r1 with
      | cons r rr =>
        cases rr with
        | cons r' rr =>
          cases rr
          obtain ⟨a, items, chk, ea, h1, ck, hl⟩ := wlkL_inv wd1 h1 r
          obtain ⟨b, items', chk', eb, h1, ck', hl'⟩ := wlkL_inv wd1 h1 r'
          subst ea eb
          obtain ⟨vs0, hv0, _⟩ := hl O1 S1 ρ1 H1 .refl wd1 ck
          obtain ⟨vs1, hv1, _⟩ := hl' O1 S1 ρ1 H1 .refl wd1 ck'
          refine ⟨a, b, vs0, vs1, rfl, .inl ⟨hv0, hv1, kq _ _ O1 S1 ρ1 _ H1 x1 wd1 ⟨fun i O' S' ρ' H' x wd c hi => ?_, fun i w O' S' ρ' H' x H'' ex wd c hi y => ?_, fun O' S' ρ' H' x wd c => ?_⟩ h1⟩⟩
          · rw [zipW_len] at hi
            obtain ⟨xs, h3, h4⟩ := hl O' S' ρ' H' x wd c.1
            obtain ⟨ys, h3', h4'⟩ := hl' O' S' ρ' H' x wd c.2
            obtain ⟨v, h5, _⟩ := h4.get (List.getElem?_eq_getElem (show i < items.length by omega))
            obtain ⟨v', h5', _⟩ := h4'.get (List.getElem?_eq_getElem (show i < items'.length by omega))
            exact ⟨xs, ys, v, v', h3, h3', h5, h5'⟩
          · obtain ⟨xs, h3, h4⟩ := hl O' S' ρ' H' ex wd c.1
            obtain ⟨ys, h3', h4'⟩ := hl' O' S' ρ' H' ex wd c.2
            obtain ⟨wa, wb, e1, e2, rfl⟩ := zipW_get _ _ _ _ hi
            obtain ⟨v, h5, h6⟩ := h4.get e1
            obtain ⟨v', h5', h6'⟩ := h4'.get e2
            obtain ⟨T, z, z', rfl, nT, rfl, hz, hz'⟩ := y
            have q1 : some v = some z := h5.symm.trans (hz xs h3)
            have q2 : some v' = some z' := h5'.symm.trans (hz' ys h3')
            cases q1
            cases q2
            exact yl_tup wd nT (.cons h6 (.cons h6' .nil))
          · obtain ⟨xs, h3, h4⟩ := hl O' S' ρ' H' x wd c.1
            obtain ⟨ys, h3', h4'⟩ := hl' O' S' ρ' H' x wd c.2
            refine ⟨xs, ys, h3, h3', ?_⟩
            rw [zipW_len, h4.length, h4'.length]; omega
    · exact h1.elim, kx⟩
end
end UZ
/-! UZ, part H: small things for the printed links. -/
namespace UZ
open PySem PySem.Spec PyProof.Rows L2
theorem hu_eq {k : Nat} {A : Around} (hr : Room k A) : A.units + 64 < cLine := hr.units
theorem hu_in {k : Nat} {A : Around} (hr : Room k A) : A.units + 65 < cLine := by have := hr.un; omega
section
variable {X : Cx} {Wx : WX} {a b : Expr} {pos : Pos}
/-- an item of a list or of a tuple -/
def fIxQ : F2 := fun x y O Q => fIxL x y O Q ∨ fIxT x y O Q
theorem i_q : IxD X fIxQ := (i_l.or i_t).imp fun x y H Q ⟨wx, wy, O, S, ρ, Q', wd, r1, r2, q, kq⟩ => by
  rcases q with q | q
  · exact .inl ⟨wx, wy, O, S, ρ, Q', wd, r1, r2, q, kq⟩
  · exact .inr ⟨wx, wy, O, S, ρ, Q', wd, r1, r2, q, kq⟩
end
theorem b_len : bootBuiltins "len" = some (.builtin "len") := PySem.boot_len
theorem b_abs : bootBuiltins "abs" = some (.builtin "abs") := by decide +kernel
theorem b_max : bootBuiltins "max" = some (.builtin "max") := by decide +kernel
theorem b_min : bootBuiltins "min" = some (.builtin "min") := by decide +kernel
theorem b_isinstance : bootBuiltins "isinstance" = some (.builtin "isinstance") := by decide +kernel
theorem b_sorted : bootBuiltins "sorted" = some (.builtin "sorted") := by decide +kernel
theorem b_int : bootBuiltins "int" = some (.type "int") := by decide +kernel
theorem b_str : bootBuiltins "str" = some (.type "str") := by decide +kernel
theorem b_bool : bootBuiltins "bool" = some (.type "bool") := by decide +kernel
theorem b_list : bootBuiltins "list" = some (.type "list") := by decide +kernel
theorem b_tuple : bootBuiltins "tuple" = some (.type "tuple") := by decide +kernel
theorem b_dict : bootBuiltins "dict" = some (.type "dict") := by decide +kernel
end UZ
/-! UZ, part X: the readings run step by step; typed data. -/
namespace UZ
open PySem PySem.W L2

/-! ### typed data -/
section
variable {α β : Type} [DecidableEq α] [Datum α] [DecidableEq β] [Datum β]
abbrev tD (l : List α) : PyData := .tuple (l.map Datum.toD)
abbrev lD (l : List α) : PyData := .list (l.map Datum.toD)
abbrev wD (x : α) : W := .d (Datum.toD x)
/-- a list that may be changed, of typed data -/
abbrev oL (l : List α) : Ob := .lst (l.map fun x => .d (Datum.toD x))
theorem toD_int (i : Int) : (Datum.toD i : PyData) = .int i := rfl
theorem toD_str (i : Str) : (Datum.toD i : PyData) = .str i := rfl
theorem toD_bool (i : Bool) : (Datum.toD i : PyData) = .bool i := rfl
theorem toD_pair (p : α × β) : (Datum.toD p : PyData) = .tuple [Datum.toD p.1, Datum.toD p.2] := rfl
theorem toD_list (l : List α) : (Datum.toD l : PyData) = lD l := rfl
theorem toD_tup (l : List α) : (Datum.toD (Tup.mk l) : PyData) = tD l := rfl
theorem okD_datum (x : α) (h : Datum.depth α ≤ 50 := by decide) : okD (Datum.toD x) := ⟨Datum.plain x, Nat.le_trans (Datum.depth_le x) h⟩
theorem okD_t (l : List α) (h : Datum.depth α ≤ 49 := by decide) : okD (tD l) := ⟨(Datum.plain (Tup.mk l) : _), Nat.le_trans (Datum.depth_le (Tup.mk l)) (Nat.succ_le_succ h)⟩
theorem okD_l (l : List α) (h : Datum.depth α ≤ 49 := by decide) : okD (lD l) := ⟨(Datum.plain l : _), Nat.le_trans (Datum.depth_le l) (Nat.succ_le_succ h)⟩
theorem eqv_t (a b : List α) : PyData.eqv (tD a) (tD b) = decide (a = b) := by
  have := Datum.eqv (Tup.mk a) (Tup.mk b)
  rw [show decide (Tup.mk a = Tup.mk b) = decide (a = b) from decide_eq_decide.mpr ⟨fun e => by injection e, fun e => by rw [e]⟩] at this
  exact this
theorem eqv_l (a b : List α) : PyData.eqv (lD a) (lD b) = decide (a = b) := Datum.eqv a b
theorem map_dd (l : List α) : (l.map Datum.toD).map W.d = l.map fun x => .d (Datum.toD x) := by rw [List.map_map]; rfl
theorem allD_o (l : List α) : allD (l.map fun x => W.d (Datum.toD x)) = some (l.map Datum.toD) := by rw [← map_dd, allD_map]
theorem mkT_o (l : List α) : mkT (l.map fun x => W.d (Datum.toD x)) = .d (tD l) := by rw [← map_dd, mkT_map]
theorem rsL_o {O : List Ob} (l : List α) : RsL O (l.map fun x => W.d (Datum.toD x)) (l.map Datum.toD) := by rw [← map_dd]; exact .map _
theorem rsNL_o {n : Nat} {O : List Ob} (l : List α) : RsNL n O (l.map fun x => W.d (Datum.toD x)) (l.map Datum.toD) := by rw [← map_dd]; exact .map _
theorem scL_o {n : Nat} (l : List α) : ScL n (l.map fun x => W.d (Datum.toD x)) := by rw [← map_dd]; exact .map _
end

/-! ### statements -/
section
variable {D : DEnds} {Γ : Gm} {O : List Ob} {u v : DS} {t : DE} {c : DT} {Q : DQ} {E : DX}
theorem x_seq (h : u { D with nx := v D } Γ O) : dSeq u v D Γ O := h
theorem x_next (h : D.nx Γ O) : dNext D Γ O := h
theorem x_ret (h : t Γ O D.rt fun x O' => D.ex x Γ O') : dRet t D Γ O := h
theorem x_drop (h : t Γ O (fun _ O1 => D.nx Γ O1) fun x O' => D.ex x Γ O') : dDrop t D Γ O := h
theorem x_if (h : c Γ O (fun b O1 => if b = true then u D Γ O1 else v D Γ O1) fun x O' => D.ex x Γ O') : dIf c u v D Γ O := h
theorem x_set {i : Nat} (h : t Γ O (fun w O1 => D.nx (Γ.set i (some w)) O1) fun x O' => D.ex x Γ O') : dSet i t D Γ O := h
theorem x_asg {g : DG} (h : t Γ O (fun w O1 => g w Γ O1 D.nx) fun x O' => D.ex x Γ O') : dAsg t g D Γ O := h
theorem x_par {i j : Nat} {a : DE} {b : DE} (h : a Γ O (fun v O1 => b Γ O1 (fun w O2 => D.nx ((Γ.set i (some v)).set j (some w)) O2) fun x O' => D.ex x Γ O') fun x O' => D.ex x Γ O') : dPar i j (dCons a (dCons b dNil)) D Γ O := h
theorem x_aug {i : Nat} {x : W} {f : F2} (e : Γ[i]? = some (some x)) (h : t Γ O (fun y O1 => f x y O1 fun z O2 => D.nx (Γ.set i (some z)) O2) fun x O' => D.ex x Γ O') : dAug i t f D Γ O := by
  unfold dAug; rw [e]; exact h
theorem x_break (h : D.bk Γ O) : dBreak D Γ O := h
theorem x_cont (h : D.ct Γ O) : dCont D Γ O := h
theorem x_for {it : DI} {g : DG} {b : DS} (h : it Γ O (fun items chk O1 => dForL g b chk items D Γ O1) fun x O' => D.ex x Γ O') : dFor it g b D Γ O := h
/-- a loop by what holds between two turns -/
theorem forL_inv {g : DG} {b : DS} {chk : List Ob → Prop} (I : Nat → Gm → List Ob → Prop) {items : List W} (h0 : I 0 Γ O) (hc : ∀ i Γ O, i ≤ items.length → I i Γ O → chk O)
    (step : ∀ i w Γ O, items[i]? = some w → I i Γ O → g w Γ O fun Γ1 O1 => b { D with nx := I (i + 1), ct := I (i + 1), bk := D.nx } Γ1 O1) (done : ∀ Γ O, I items.length Γ O → D.nx Γ O) : dForL g b chk items D Γ O := by
  have main : ∀ (rest : List W) (pre : List W) (Γ : Gm) (O : List Ob), items = pre ++ rest → I pre.length Γ O → dForL g b chk rest D Γ O := by
    intro rest
    induction rest with
    | nil =>
      intro pre Γ O e h
      rw [List.append_nil] at e
      subst e
      exact ⟨hc _ _ _ (Nat.le_refl _) h, done _ _ h⟩
    | cons w ws ih =>
      intro pre Γ O e h
      have hg : items[pre.length]? = some w := by rw [e, List.getElem?_append_right (Nat.le_refl _), Nat.sub_self]; rfl
      refine ⟨hc _ _ _ (by rw [e, List.length_append]; omega) h, I (pre.length + 1), fun Γ' O' h' => ih (pre ++ [w]) Γ' O' (by rw [e, List.append_assoc]; rfl) (by rw [List.length_append]; exact h'), step _ _ _ _ hg h⟩
  exact main items [] Γ O rfl h0
/-- the same along the items themselves: f says what a list of items means -/
theorem forL_nil {g : DG} {b : DS} {chk : List Ob → Prop} (hc : chk O) (h : D.nx Γ O) : dForL g b chk [] D Γ O := ⟨hc, h⟩
theorem forL_cons {g : DG} {b : DS} {chk : List Ob → Prop} {w : W} {ws : List W} (hc : chk O) (h : g w Γ O fun Γ1 O1 => b { D with nx := dForL g b chk ws D, ct := dForL g b chk ws D, bk := D.nx } Γ1 O1) : dForL g b chk (w :: ws) D Γ O := ⟨hc, _, fun _ _ q => q, h⟩
/-- a while by a word and a measure -/
theorem while_inv {b : DS} (I : Gm → List Ob → Prop) (μ : Gm → List Ob → Nat) (h0 : I Γ O)
    (step : ∀ Γ O, I Γ O → c Γ O (fun k O1 => if k = true then b { D with nx := fun Γ' O' => I Γ' O' ∧ μ Γ' O' < μ Γ O, ct := fun Γ' O' => I Γ' O' ∧ μ Γ' O' < μ Γ O, bk := D.nx } Γ O1 else D.nx Γ O1) fun x O' => D.ex x Γ O') : dWhile c b D Γ O := by
  have main : ∀ (n : Nat) (Γ : Gm) (O : List Ob), μ Γ O < n → I Γ O → dWh c b n D Γ O := by
    intro n
    induction n with
    | zero => intro Γ O h; exact absurd h (Nat.not_lt_zero _)
    | succ n ih =>
      intro Γ O h hi
      exact ⟨fun Γ' O' => I Γ' O' ∧ μ Γ' O' < μ Γ O, fun Γ' O' ⟨h1, h2⟩ => ih Γ' O' (by omega) h1, step Γ O hi⟩
  exact ⟨_, main _ Γ O (Nat.lt_succ_self _) h0⟩

/-- the same, the measure part of the word -/
theorem while_dn {b : DS} (I : Nat → Gm → List Ob → Prop) {n : Nat} (h0 : I n Γ O)
    (step : ∀ n Γ O, I n Γ O → c Γ O (fun k O1 => if k = true then b { D with nx := fun Γ' O' => ∃ m, m < n ∧ I m Γ' O', ct := fun Γ' O' => ∃ m, m < n ∧ I m Γ' O', bk := D.nx } Γ O1 else D.nx Γ O1) fun x O' => D.ex x Γ O') : dWhile c b D Γ O := by
  have main : ∀ (N n : Nat) (Γ : Gm) (O : List Ob), n < N → I n Γ O → dWh c b N D Γ O := by
    intro N
    induction N with
    | zero => intro n Γ O h; exact absurd h (Nat.not_lt_zero _)
    | succ N ih =>
      intro n Γ O h hi
      exact ⟨fun Γ' O' => ∃ m, m < n ∧ I m Γ' O', fun Γ' O' ⟨m, h1, h2⟩ => ih m Γ' O' (by omega) h2, step n Γ O hi⟩
  exact ⟨_, main _ n Γ O (Nat.lt_succ_self _) h0⟩

/-! ### targets -/
theorem x_nm {i : Nat} {w : W} {R : Gm → List Ob → Prop} (h : R (Γ.set i (some w)) O) : gNm i w Γ O R := h
theorem x_tp {n : Nat} {w : W} {ws : List W} {gs : List W → Gm → List Ob → (Gm → List Ob → Prop) → Prop} {R : Gm → List Ob → Prop} (e : tv w = some ws) (hl : ws.length = n) (h : gs ws Γ O R) : gTp n gs w Γ O R := ⟨ws, e, hl, h⟩
theorem x_tp2 {w w1 w2 : W} {gs : List W → Gm → List Ob → (Gm → List Ob → Prop) → Prop} {R : Gm → List Ob → Prop} (e : tv w = some [w1, w2]) (h : gs [w1, w2] Γ O R) : gTp 2 gs w Γ O R := ⟨_, e, rfl, h⟩
theorem x_tp3 {w w1 w2 w3 : W} {gs : List W → Gm → List Ob → (Gm → List Ob → Prop) → Prop} {R : Gm → List Ob → Prop} (e : tv w = some [w1, w2, w3]) (h : gs [w1, w2, w3] Γ O R) : gTp 3 gs w Γ O R := ⟨_, e, rfl, h⟩
theorem x_cs {g : DG} {gs : List W → Gm → List Ob → (Gm → List Ob → Prop) → Prop} {w : W} {ws : List W} {R : Gm → List Ob → Prop} (h : g w Γ O fun Γ1 O1 => gs ws Γ1 O1 R) : gCs g gs (w :: ws) Γ O R := h
theorem x_end {R : Gm → List Ob → Prop} (h : R Γ O) : gEnd [] Γ O R := ⟨rfl, h⟩
theorem x_sub {to ti : DE} {f : F3} {w : W} {R : Gm → List Ob → Prop} (h : to Γ O (fun o O1 => ti Γ O1 (fun i O2 => f o i w O2 fun O3 => R Γ O3) noX) noX) : gSubD to ti f w Γ O R := h
theorem x_setL {k : Nat} {j : Int} {v : W} {ws : List W} {m : Nat} {R : List Ob → Prop} (e : O[k]? = some (.lst ws)) (hm : ixN ws.length j = some m) (h : R (O.set k (.lst (ws.set m v)))) : fSetL (.o k) (.d (.int j)) v O R := ⟨ws, m, e, hm, h⟩

/-! ### expressions -/
theorem x_v {i : Nat} {w : W} (e : Γ[i]? = some (some w)) (h : Q w O) : dV i Γ O Q E := by unfold dV; rw [e]; exact h
theorem x_c {x : PyData} (h : Q (.d x) O) : dC x Γ O Q E := h
theorem x_cw {x : W} (h : Q x O) : dCw x Γ O Q E := h
theorem x_op {f : F2} {ta tb : DE} (h : ta Γ O (fun x O1 => tb Γ O1 (fun y O2 => f x y O2 Q) E) E) : dOp f ta tb Γ O Q E := h
theorem x_un {f : F1} {ta : DE} (h : ta Γ O (fun x O1 => f x O1 Q) E) : dUn f ta Γ O Q E := h
theorem x_tst {R : Bool → List Ob → Prop} (h : t Γ O (onB R) E) : dTst t Γ O R E := h
theorem x_onB {R : Bool → List Ob → Prop} {b : Bool} (h : R b O) : onB R (.d (.bool b)) O := h
theorem x_not {R : Bool → List Ob → Prop} (h : c Γ O (fun b O1 => R (!b) O1) E) : dNotT c Γ O R E := h
theorem x_and {c' : DT} {R : Bool → List Ob → Prop} (h : c Γ O (fun b O1 => if b = true then c' Γ O1 R E else R false O1) E) : dAndT c c' Γ O R E := h
theorem x_or {c' : DT} {R : Bool → List Ob → Prop} (h : c Γ O (fun b O1 => if b = true then R true O1 else c' Γ O1 R E) E) : dOrT c c' Γ O R E := h
theorem x_andV {ta tb : DE} (h : ta Γ O (onB fun b O1 => if b = true then tb Γ O1 Q E else Q (.d (.bool false)) O1) E) : dAndV ta tb Γ O Q E := h
theorem x_orV {ta tb : DE} (h : ta Γ O (onB fun b O1 => if b = true then Q (.d (.bool true)) O1 else tb Γ O1 Q E) E) : dOrV ta tb Γ O Q E := h
theorem x_notV {ta : DE} (h : ta Γ O (onB fun b O1 => Q (.d (.bool !b)) O1) E) : dNotV ta Γ O Q E := h
theorem x_ifE {ta tb : DE} (h : c Γ O (fun b O1 => if b = true then ta Γ O1 Q E else tb Γ O1 Q E) E) : dIfE c ta tb Γ O Q E := h
theorem x_chain {f g : F2} {ta tb tc : DE} (h : ta Γ O (fun x O1 => tb Γ O1 (fun y O2 => f x y O2 (onB fun b O3 => if b = true then tc Γ O3 (fun u O4 => g y u O4 Q) E else Q (.d (.bool false)) O3)) E) E) : dChain f g ta tb tc Γ O Q E := h
theorem x_nil {R : List W → List Ob → Prop} (h : R [] O) : dNil Γ O R E := h
theorem x_cons {a : DE} {b : DA} {R : List W → List Ob → Prop} (h : a Γ O (fun w O1 => b Γ O1 (fun ws O2 => R (w :: ws) O2) E) E) : dCons a b Γ O R E := h
def kTp (ws : List W) (O : List Ob) (Q : DQ) : Prop := ws.length ≤ sizeLine ∧ Q (mkT ws) O
def kLs (ws : List W) (O : List Ob) (Q : DQ) : Prop := ws.length ≤ sizeLine ∧ match allD ws with | some xs => Q (.d (.list xs)) O | none => False
def kLc (ws : List W) (O : List Ob) (Q : DQ) : Prop := match allD ws with | some xs => Q (.d (.list xs)) O | none => False
theorem x_tup {a : DA} (h : a Γ O (fun ws O1 => kTp ws O1 Q) E) : dTup a Γ O Q E := h
theorem x_lst {a : DA} (h : a Γ O (fun ws O1 => kLs ws O1 Q) E) : dLst a Γ O Q E := h
theorem x_lstO {a : DA} (h : a Γ O (fun ws O1 => ws.length ≤ sizeLine ∧ Q (.o O1.length) (O1 ++ [.lst ws])) E) : dLstO a Γ O Q E := h
theorem x_sl {f : FS} {tl th : DO} (h : t Γ O (fun x O1 => tl Γ O1 (fun lo O2 => th Γ O2 (fun hi O3 => f x lo hi O3 Q) E) E) E) : dSl f t tl th Γ O Q E := h
theorem x_nop {R : Option Int → List Ob → Prop} (h : R none O) : dNoP Γ O R E := h
theorem x_part {R : Option Int → List Ob → Prop} (h : t Γ O (fun w O1 => match w with | .d (.int i) => R (some i) O1 | _ => False) E) : dPart t Γ O R E := h
theorem x_cb {f : FC} {a : DA} (h : a Γ O (fun ws O1 => f ws O1 Q) E) : dCB f a Γ O Q E := h
theorem x_call {sp : DSp} {a : DA} (h : a Γ O (fun ws O1 => sp ws O1 Q E) E) : dCall sp a Γ O Q E := h
theorem x_call0 {sp : DSp} (h : sp [] O Q noX) : dCall0 sp Γ O Q E := h
theorem x_mt0 {f : FM} {to : DE} (h : to Γ O (fun w O1 => match w with
  | .o k => match O1[k]? with
    | some (.lst ws) => f k ws [] O1 Q
    | _ => False
  | _ => False) E) : dMt0 f to Γ O Q E := h
theorem x_mt {f : FM} {to : DE} {u : DA} (h : to Γ O (fun w O1 => match w with
  | .o k => isLst O1 k ∧ u Γ O1 (fun args O2 => match O2[k]? with
    | some (.lst ws) => f k ws args O2 Q
    | _ => False) E
  | _ => False) E) : dMt f to u Γ O Q E := h
/-- a method of the list at variable i, of one argument -/
theorem x_mt1 {f : FM} {i k : Nat} {ws : List W} {a : DE} (e1 : Γ[i]? = some (some (.o k))) (e2 : O[k]? = some (.lst ws)) (h : a Γ O (fun y O2 => ∃ ws', O2[k]? = some (.lst ws') ∧ f k ws' [y] O2 Q) E) (hm : ∀ ws' y O2, f k ws' [y] O2 Q → f k ws' [y] O2 Q := by exact fun _ _ _ q => q) : dMt f (dV i) (dCons a dNil) Γ O Q E := by
  unfold dMt dV
  rw [e1]
  refine ⟨by unfold isLst; rw [e2]; trivial, ?_⟩
  refine (show a Γ O (fun y O2 => (fun args O2 => match O2[k]? with
    | some (.lst ws) => f k ws args O2 Q
    | _ => False) [y] O2) E from ?_)
  have e : (fun y O2 => ∃ ws', O2[k]? = some (Ob.lst ws') ∧ f k ws' [y] O2 Q) = fun y O2 => (fun args O2 => match O2[k]? with
    | some (.lst ws) => f k ws args O2 Q
    | _ => False) [y] O2 := by
    funext y O2
    refine propext ⟨fun ⟨ws', e, q⟩ => ?_, fun q => ?_⟩
    · show (match O2[k]? with
    | some (.lst ws) => f k ws [y] O2 Q
    | _ => False)
      rw [e]; exact q
    · dsimp only at q
      split at q
      · rename_i ws' e; exact ⟨ws', e, q⟩
      · exact q.elim
  rw [← e]
  exact h
theorem x_mt00 {f : FM} {i k : Nat} {ws : List W} (e1 : Γ[i]? = some (some (.o k))) (e2 : O[k]? = some (.lst ws)) (h : f k ws [] O Q) : dMt0 f (dV i) Γ O Q E := by
  unfold dMt0 dV
  rw [e1]
  show (match O[k]? with
    | some (.lst ws) => f k ws [] O Q
    | _ => False)
  rw [e2]; exact h
theorem x_append {k : Nat} {ws : List W} {y : W} (hl : ws.length < sizeLine) (h : Q (.d .none) (O.set k (.lst (ws ++ [y])))) : mAppend k ws [y] O Q := ⟨hl, h⟩
theorem x_pop {k : Nat} {ws : List W} {y : W} (e : ws[ws.length - 1]? = some y) (h : Q y (O.set k (.lst ws.dropLast))) : mPop k ws [] O Q := ⟨y, e, h⟩
theorem x_yes {R : Bool → List Ob → Prop} (h : R true O) : dYes Γ O R E := h
theorem x_ite {b : Bool} {A B : Prop} (h1 : b = true → A) (h2 : b = false → B) : if b = true then A else B := by
  cases b with
  | true => exact (if_pos rfl).mpr (h1 rfl)
  | false => exact (if_neg (by decide)).mpr (h2 rfl)
theorem x_dec {p : Prop} [Decidable p] {A B : Prop} (h1 : p → A) (h2 : ¬p → B) : if decide p = true then A else B := x_ite (fun h => h1 (of_decide_eq_true h)) fun h => h2 (of_decide_eq_false h)
theorem x_ndec {p : Prop} [Decidable p] {A B : Prop} (h1 : ¬p → A) (h2 : p → B) : if (!decide p) = true then A else B := x_ite (fun h => h1 (by simpa using h)) fun h => h2 (by simpa using h)
theorem x_itT {A B : Prop} (h : A) : if true = true then A else B := h
theorem x_itF {A B : Prop} (h : B) : if false = true then A else B := h
theorem x_nT {A B : Prop} (h : B) : if (!true) = true then A else B := h
theorem x_nF {A B : Prop} (h : A) : if (!false) = true then A else B := h
theorem x_decT {p : Prop} [Decidable p] {A B : Prop} (hp : p) (h : A) : if decide p = true then A else B := (if_pos (decide_eq_true hp)).mpr h
theorem x_decF {p : Prop} [Decidable p] {A B : Prop} (hp : ¬p) (h : B) : if decide p = true then A else B := x_dec (fun z => (hp z).elim) fun _ => h
theorem x_ndecT {p : Prop} [Decidable p] {A B : Prop} (hp : p) (h : B) : if (!decide p) = true then A else B := x_ndec (fun z => (z hp).elim) fun _ => h
theorem x_ndecF {p : Prop} [Decidable p] {A B : Prop} (hp : ¬p) (h : A) : if (!decide p) = true then A else B := x_ndec (fun _ => h) fun z => (hp z).elim
theorem x_never : False → dNever D Γ O := False.elim
/-! ### iteration -/
section
variable {R : List W → (List Ob → Prop) → List Ob → Prop}
theorem x_itT1 (h : t Γ O (fun w O1 => ∃ ws, tv w = some ws ∧ R ws tt0 O1) E) : dItT t Γ O R E := h
theorem x_itRv (h : t Γ O (fun w O1 => ∃ ws, tv w = some ws ∧ R ws.reverse tt0 O1) E) : dItRv t Γ O R E := h
theorem x_itL (h : t Γ O (fun w O1 => match w with
  | .d (.list xs) => R (xs.map .d) tt0 O1
  | .rl xs => R (xs.map .d) tt0 O1
  | .o k => ∃ ws, O1[k]? = some (.lst ws) ∧ R ws (fun O2 => O2[k]? = some (.lst ws)) O1
  | _ => False) E) : dItL t Γ O R E := h
theorem x_itR1 {u : DA} (h : u Γ O (fun ws O1 => match ws with
  | [.d (.int j)] => -(2 ^ 62) ≤ j ∧ j < 2 ^ 62 ∧ R (rng 0 j.toNat) tt0 O1
  | _ => False) E) : dItR1 u Γ O R E := h
theorem x_itR2 {u : DA} (h : u Γ O (fun ws O1 => match ws with
  | [.d (.int i), .d (.int j)] => (-(2 ^ 62) ≤ i ∧ i < 2 ^ 62 ∧ -(2 ^ 62) ≤ j ∧ j < 2 ^ 62) ∧ R (rng i (j - i).toNat) tt0 O1
  | _ => False) E) : dItR2 u Γ O R E := h
theorem x_itEn {u : DA} (h : u Γ O (fun ws O1 => match ws with
  | [w] => wlk w O1 fun items chk => R (enumW 0 items) chk O1
  | _ => False) E) : dItEn u Γ O R E := h
end
theorem x_lc {it : DI} {g : Tg} {tt : DT} {te : DE} {us : List Nat} (h : it Γ O (fun items chk O1 => dLcL g tt te chk (wipeD Γ us) items [] O1 fun acc O2 => kLc acc O2 Q) E) : dLc it g tt te us Γ O Q E := h
theorem x_lcO {it : DI} {g : Tg} {tt : DT} {te : DE} {us : List Nat} (h : it Γ O (fun items chk O1 => dLcL g tt te chk (wipeD Γ us) items [] O1 fun acc O2 => Q (.o O2.length) (O2 ++ [.lst acc])) E) : dLcO it g tt te us Γ O Q E := h
/-- a comprehension by what holds between two turns: what is made so far, and the own things -/
theorem lcL_inv {g : Tg} {tt : DT} {te : DE} {chk : List Ob → Prop} {items : List W} {R : List W → List Ob → Prop} (I : Nat → List W → List Ob → Prop) (h0 : I 0 [] O) (hc : ∀ i acc O, i ≤ items.length → I i acc O → chk O)
    (step : ∀ i w acc O, items[i]? = some w → I i acc O → tgD g w Γ fun Γ1 => tt Γ1 O (fun b O1 => if b = true then te Γ1 O1 (fun y O2 => acc.length < sizeLine ∧ I (i + 1) (acc ++ [y]) O2) noX else I (i + 1) acc O1) noX) (done : ∀ acc O, I items.length acc O → R acc O) : dLcL g tt te chk Γ items [] O R := by
  have main : ∀ (rest : List W) (pre : List W) (acc : List W) (O : List Ob), items = pre ++ rest → I pre.length acc O → dLcL g tt te chk Γ rest acc O R := by
    intro rest
    induction rest with
    | nil =>
      intro pre acc O e h
      rw [List.append_nil] at e
      subst e
      exact ⟨hc _ _ _ (Nat.le_refl _) h, done _ _ h⟩
    | cons w ws ih =>
      intro pre acc O e h
      have hg : items[pre.length]? = some w := by rw [e, List.getElem?_append_right (Nat.le_refl _), Nat.sub_self]; rfl
      exact ⟨hc _ _ _ (by rw [e, List.length_append]; omega) h, fun acc' O' => I (pre.length + 1) acc' O', fun acc' O' h' => ih (pre ++ [w]) acc' O' (by rw [e, List.append_assoc]; rfl) (by rw [List.length_append]; exact h'), step _ _ _ _ hg h⟩
  exact main items [] [] O rfl h0
/-- a pure comprehension: each item gives one item -/
theorem lcL_map {α : Type} {g : Tg} {te : DE} {chk : List Ob → Prop} {items : List W} {R : List W → List Ob → Prop} (l : List α) (emb f : α → W) (hi : items = l.map emb) (hl : l.length ≤ sizeLine) (hc : chk O)
    (step : ∀ x, x ∈ l → ∀ N : W → List Ob → Prop, N (f x) O → tgD g (emb x) Γ fun Γ1 => te Γ1 O N noX) (done : R (l.map f) O) : dLcL g dYes te chk Γ items [] O R := by
  subst hi
  refine lcL_inv (fun i acc O' => acc = (l.take i).map f ∧ O' = O) ⟨rfl, rfl⟩ (fun _ _ _ _ h => h.2 ▸ hc) (fun i w acc O' e h => ?_) fun acc O' h => by
    rw [h.1, h.2, List.length_map, List.take_length]; exact done
  obtain ⟨rfl, rfl⟩ := h
  rw [List.getElem?_map] at e
  cases hx : l[i]? with
  | none => rw [hx] at e; cases e
  | some x =>
    rw [hx] at e; cases e
    obtain ⟨hi, ex⟩ := List.getElem?_eq_some_iff.mp hx
    refine step x (List.mem_of_getElem? hx) _ ⟨?_, ?_, rfl⟩
    · rw [List.length_map, List.length_take]; omega
    · rw [List.take_succ_eq_append_getElem hi, List.map_append, ex]; rfl
/-- a pure comprehension with a test -/
theorem lcL_filter {α : Type} {g : Tg} {tt : DT} {te : DE} {chk : List Ob → Prop} {items : List W} {R : List W → List Ob → Prop} (l : List α) (emb : α → W) (f : α → Option W) (hi : items = l.map emb) (hl : l.length ≤ sizeLine) (hc : chk O)
    (step : ∀ x, x ∈ l → ∀ (N : W → List Ob → Prop) (M : List Ob → Prop), (match f x with | some y => N y O | none => M O) → tgD g (emb x) Γ fun Γ1 => tt Γ1 O (fun b O1 => if b = true then te Γ1 O1 N noX else M O1) noX) (done : R (l.filterMap f) O) : dLcL g tt te chk Γ items [] O R := by
  subst hi
  refine lcL_inv (fun i acc O' => acc = (l.take i).filterMap f ∧ O' = O) ⟨rfl, rfl⟩ (fun _ _ _ _ h => h.2 ▸ hc) (fun i w acc O' e h => ?_) fun acc O' h => by
    rw [h.1, h.2, List.length_map, List.take_length]; exact done
  obtain ⟨rfl, rfl⟩ := h
  rw [List.getElem?_map] at e
  cases hx : l[i]? with
  | none => rw [hx] at e; cases e
  | some x =>
    rw [hx] at e; cases e
    obtain ⟨hi, ex⟩ := List.getElem?_eq_some_iff.mp hx
    have ht : l.take (i + 1) = l.take i ++ [x] := by rw [List.take_succ_eq_append_getElem hi, ex]
    refine step x (List.mem_of_getElem? hx) _ _ ?_
    cases hf : f x with
    | some y =>
      refine ⟨?_, ?_, rfl⟩
      · exact Nat.lt_of_le_of_lt (List.length_filterMap_le _ _) (by rw [List.length_take]; omega)
      · rw [ht, List.filterMap_append]; simp [hf]
    | none =>
      refine ⟨?_, rfl⟩
      rw [ht, List.filterMap_append]; simp [hf]
theorem x_tg1 {i : Nat} {w : W} {R : Gm → Prop} (h : R (Γ.set i (some w))) : tgD (.one i) w Γ R := h
theorem x_tg2 {i j : Nat} {w w1 w2 : W} {R : Gm → Prop} (e : tv w = some [w1, w2]) (h : R (setAll [i, j] [w1, w2] Γ)) : tgD (.many [i, j]) w Γ R := ⟨_, e, rfl, h⟩
theorem x_tgn {is : List Nat} {w : W} {ws : List W} {R : Gm → Prop} (e : tv w = some ws) (hl : ws.length = is.length) (h : R (setAll is ws Γ)) : tgD (.many is) w Γ R := ⟨ws, e, hl, h⟩
end

/-! ### operators on data -/
section
variable {O : List Ob} {Q : DQ}
theorem x_I0 {g : Int → Int → PyData} {i j : Int} (h : Q (.d (g i j)) O) : fI0 g (.d (.int i)) (.d (.int j)) O Q := h
theorem x_I {C : Int → Int → Prop} {g : Int → Int → PyData} {i j : Int} (c : C i j) (h : Q (.d (g i j)) O) : fI C g (.d (.int i)) (.d (.int j)) O Q := ⟨c, h⟩
theorem x_mod {i j : Int} (c : 0 < j) (h : Q (.d (.int (i % j))) O) : fMod (.d (.int i)) (.d (.int j)) O Q := ⟨c, h⟩
theorem x_div {i j : Int} (c : 0 < j) (c2 : j < 2 ^ 64) (h : Q (.d (.int (i / j))) O) : fDiv (.d (.int i)) (.d (.int j)) O Q := ⟨⟨c, Nat.lt_of_lt_of_le (PySem.Flt.log2_lt_of (k := 64) (by decide) (by omega)) (by decide)⟩, h⟩
theorem x_mulL {i j : Int} (c : -(2 ^ 64) < i ∧ i < 2 ^ 64) (h : Q (.d (.int (i * j))) O) : fMul (.d (.int i)) (.d (.int j)) O Q := ⟨.inl (.inl c), h⟩
theorem x_mulR {i j : Int} (c : -(2 ^ 64) < j ∧ j < 2 ^ 64) (h : Q (.d (.int (i * j))) O) : fMul (.d (.int i)) (.d (.int j)) O Q := ⟨.inl (.inr c), h⟩
theorem x_pow {i j : Int} (c : CPow i j) (h : Q (.d (.int (i ^ j.toNat))) O) : fPow (.d (.int i)) (.d (.int j)) O Q := ⟨c, h⟩
theorem x_neg {i : Int} (h : Q (.d (.int (-i))) O) : fNeg (.d (.int i)) O Q := h
theorem x_eq {a b : PyData} {r : Bool} (e : eqS a b = some r) (h : Q (.d (.bool r)) O) : fEq (.d a) (.d b) O Q := by
  show (match eqS a b with | some r => Q (.d (.bool r)) O | none => False)
  rw [e]; exact h
theorem x_ne {a b : PyData} {r : Bool} (e : eqS a b = some r) (h : Q (.d (.bool !r)) O) : fNe (.d a) (.d b) O Q := by
  show (match eqS a b with | some r => Q (.d (.bool !r)) O | none => False)
  rw [e]; exact h
theorem x_isN {x : PyData} (r : Bool) (e : isNone (.d x) = r) (h : Q (.d (.bool r)) O) : fIsN (.d x) (.d .none) O Q := by
  show Q (.d (.bool (isNone (.d x)))) O
  rw [e]; exact h
theorem x_notN {x : PyData} (r : Bool) (e : isNone (.d x) = r) (h : Q (.d (.bool (!r))) O) : fNotN (.d x) (.d .none) O Q := by
  show Q (.d (.bool (!isNone (.d x)))) O
  rw [e]; exact h
theorem x_inS {c : Nat} {z : Str} (h : Q (.d (.bool (decide (c ∈ z.cps.toList)))) O) : fInS false (.d (.str ⟨#[c]⟩)) (.d (.str z)) O Q := ⟨c, rfl, h⟩
theorem x_ninS {c : Nat} {z : Str} (h : Q (.d (.bool (!decide (c ∈ z.cps.toList)))) O) : fInS true (.d (.str ⟨#[c]⟩)) (.d (.str z)) O Q := ⟨c, rfl, h⟩
theorem x_ixS1 {c : Nat} (h : Q (.d (.str ⟨#[c]⟩)) O) : fIxS (.d (.str ⟨#[c]⟩)) (.d (.int 0)) O Q := ⟨by show 1 ≤ sizeLine; decide, c, rfl, h⟩
theorem x_lenS1 {c : Nat} (h : Q (.d (.int 1)) O) : fLen [.d (.str ⟨#[c]⟩)] O Q := ⟨by show 1 ≤ sizeLine; decide, h⟩
theorem x_eqD {a b : PyData} (ha : okD a) (hb : okD b) (h : Q (.d (.bool (PyData.eqv a b))) O) : fEqD (.d a) (.d b) O Q := ⟨a, b, .d, .d, ha, hb, h⟩
theorem x_neD {a b : PyData} (ha : okD a) (hb : okD b) (h : Q (.d (.bool !(PyData.eqv a b))) O) : fNeD (.d a) (.d b) O Q := ⟨a, b, .d, .d, ha, hb, h⟩
theorem x_eqW {x y : W} {a b : PyData} (r1 : Rs O x a) (r2 : Rs O y b) (ha : okD a) (hb : okD b) (h : Q (.d (.bool (PyData.eqv a b))) O) : fEqD x y O Q := ⟨a, b, r1, r2, ha, hb, h⟩
theorem x_neW {x y : W} {a b : PyData} (r1 : Rs O x a) (r2 : Rs O y b) (ha : okD a) (hb : okD b) (h : Q (.d (.bool !(PyData.eqv a b))) O) : fNeD x y O Q := ⟨a, b, r1, r2, ha, hb, h⟩
theorem x_inD {a : PyData} {bs : List PyData} (ha : okD a) (hb : okD (.list bs)) (h : Q (.d (.bool (bs.any fun z => PyData.eqv z a))) O) : fInD (.d a) (.d (.list bs)) O Q := ⟨a, bs, .d, .d, ha, hb, h⟩
theorem x_notInD {a : PyData} {bs : List PyData} (ha : okD a) (hb : okD (.list bs)) (h : Q (.d (.bool !(bs.any fun z => PyData.eqv z a))) O) : fNotInD (.d a) (.d (.list bs)) O Q := ⟨a, bs, .d, .d, ha, hb, h⟩
theorem atI_map {α β : Type} (f : α → β) {l : List α} {i : Int} {x : α} (e : atI l i = some x) : atI (l.map f) i = some (f x) := by
  unfold atI at e ⊢
  rw [List.length_map]
  cases h : ixN l.length i with
  | none => rw [h] at e; cases e
  | some j =>
    rw [h] at e
    show (l.map f)[j]? = some (f x)
    rw [List.getElem?_map, show l[j]? = some x from e]; rfl
theorem ati_nat {α : Type} {l : List α} {j : Nat} {x : α} (e : l[j]? = some x) : atI l (j : Int) = some x := by
  have hj := (List.getElem?_eq_some_iff.mp e).1
  unfold atI ixN
  rw [if_pos (by omega), if_pos (by omega)]
  exact e
theorem ati_last {α : Type} {l : List α} {x : α} (e : l[l.length - 1]? = some x) : atI l (-1) = some x := by
  have hj := (List.getElem?_eq_some_iff.mp e).1
  unfold atI ixN
  rw [if_neg (by omega), if_pos (by omega)]
  show l[((-1 : Int) + l.length).toNat]? = some x
  rw [show ((-1 : Int) + l.length).toNat = l.length - 1 by omega]; exact e
theorem x_ixT {xs : List PyData} {i : Int} {y : PyData} (e : atI xs i = some y) (h : Q (.d y) O) : fIxT (.d (.tuple xs)) (.d (.int i)) O Q := ⟨_, i, _, rfl, rfl, atI_map _ e, h⟩
theorem x_ixL {xs : List PyData} {i : Int} {y : PyData} (e : atI xs i = some y) (h : Q (.d y) O) : fIxL (.d (.list xs)) (.d (.int i)) O Q := ⟨_, i, _, rfl, rfl, atI_map _ e, h⟩
theorem x_ixR {xs : List PyData} {i : Int} {y : PyData} (e : atI xs i = some y) (h : Q (.d y) O) : fIxL (.rl xs) (.d (.int i)) O Q := ⟨_, i, _, rfl, rfl, atI_map _ e, h⟩
theorem lv_o {k : Nat} {ws : List W} (e : O[k]? = some (.lst ws)) : lv O (.o k) = some ws := by show (match O[k]? with | some (.lst ws) => some ws | _ => none) = some ws; rw [e]
theorem lvS_o {k : Nat} {ws : List W} (e : O[k]? = some (.lst ws)) : lvS O (.o k) = some ws := by show (match O[k]? with | some (.lst ws) => some ws | _ => none) = some ws; rw [e]
theorem x_ixO {k : Nat} {ws : List W} {i : Int} {y : W} (e1 : O[k]? = some (.lst ws)) (e : atI ws i = some y) (h : Q y O) : fIxL (.o k) (.d (.int i)) O Q := ⟨_, i, _, lv_o e1, rfl, e, h⟩
theorem cutW_map {α β : Type} (f : α → β) (l : List α) (lo hi : Option Int) : cutW (l.map f) lo hi = (cutW l lo hi).map f := by
  unfold cutW
  rw [List.length_map, ← List.map_drop, ← List.map_take]
theorem x_slT {xs : List PyData} {lo hi : Option Int} (h : Q (.d (.tuple (cutW xs lo hi))) O) : fSlT (.d (.tuple xs)) lo hi O Q := ⟨_, rfl, by rw [cutW_map, mkT_map]; exact h⟩
theorem x_slL {xs : List PyData} {lo hi : Option Int} (h : Q (.d (.list (cutW xs lo hi))) O) : fSlL (.d (.list xs)) lo hi O Q := ⟨_, _, rfl, by rw [cutW_map, allD_map], h⟩
theorem x_slR {xs : List PyData} {lo hi : Option Int} (h : Q (.d (.list (cutW xs lo hi))) O) : fSlL (.rl xs) lo hi O Q := ⟨_, _, rfl, by rw [cutW_map, allD_map], h⟩
theorem x_addT {xs ys : List PyData} (hl : xs.length + ys.length ≤ sizeLine) (h : Q (.d (.tuple (xs ++ ys))) O) : fAddT (.d (.tuple xs)) (.d (.tuple ys)) O Q := ⟨_, _, rfl, rfl, by rw [List.length_map, List.length_map]; exact hl, by rw [← List.map_append, mkT_map]; exact h⟩
theorem x_addL {xs ys : List PyData} (hl : xs.length + ys.length ≤ sizeLine) (h : Q (.d (.list (xs ++ ys))) O) : fAddL (.d (.list xs)) (.d (.list ys)) O Q := ⟨_, _, _, rfl, rfl, by rw [List.length_map, List.length_map]; exact hl, by rw [← List.map_append, allD_map], h⟩
theorem x_repT {xs : List PyData} {n : Nat} (h1 : n ≤ 1000) (h2 : xs.length ≤ 1000) (h : Q (.d (.tuple (List.replicate n xs).flatten)) O) : fRepT (.d (.tuple xs)) (.d (.int n)) O Q := by
  refine ⟨_, _, rfl, rfl, by omega, by omega, by rw [List.length_map]; exact h2, ?_⟩
  rw [show ((n : Int)).toNat = n from rfl, ← List.map_replicate, ← List.map_flatten, mkT_map]; exact h
theorem x_rev {xs : List PyData} (h : Q (.d (.tuple xs.reverse)) O) : fRev (.d (.tuple xs)) O Q := ⟨_, rfl, by rw [← List.map_reverse, mkT_map]; exact h⟩
theorem x_lenT {xs : List PyData} (h : Q (.d (.int xs.length)) O) : fLen [.d (.tuple xs)] O Q := ⟨_, .inl rfl, by rw [List.length_map]; exact h⟩
theorem x_lenL {xs : List PyData} (h : Q (.d (.int xs.length)) O) : fLen [.d (.list xs)] O Q := ⟨_, .inr rfl, by rw [List.length_map]; exact h⟩
theorem x_lenR {xs : List PyData} (h : Q (.d (.int xs.length)) O) : fLen [.rl xs] O Q := ⟨_, .inr rfl, by rw [List.length_map]; exact h⟩
theorem x_lenS {z : Str} (hz : z.length ≤ sizeLine) (h : Q (.d (.int z.length)) O) : fLen [.d (.str z)] O Q := ⟨hz, h⟩
theorem x_lenO {k : Nat} {ws : List W} (e : O[k]? = some (.lst ws)) (h : Q (.d (.int ws.length)) O) : fLen [.o k] O Q := ⟨_, .inr (lv_o e), h⟩
theorem x_int {i : Int} (h : Q (.d (.int i)) O) : fInt [.d (.int i)] O Q := h
theorem x_max {i j : Int} (h : Q (.d (.int (if j > i then j else i))) O) : fMax [.d (.int i), .d (.int j)] O Q := h
theorem x_listT {xs : List PyData} (h : Q (.d (.list xs)) O) : fListL [.d (.tuple xs)] O Q := ⟨_, _, _, rfl, .inl rfl, allD_map xs, h⟩
theorem x_listL {xs : List PyData} (h : Q (.d (.list xs)) O) : fListL [.d (.list xs)] O Q := ⟨_, _, _, rfl, .inr rfl, allD_map xs, h⟩
theorem x_tupL {xs : List PyData} (h : Q (.d (.tuple xs)) O) : fTuple [.d (.list xs)] O Q := ⟨_, _, rfl, .inr rfl, by rw [mkT_map]; exact h⟩
theorem x_tupT {xs : List PyData} (h : Q (.d (.tuple xs)) O) : fTuple [.d (.tuple xs)] O Q := ⟨_, _, rfl, .inl rfl, by rw [mkT_map]; exact h⟩
theorem x_tupO {k : Nat} {xs : List PyData} (e : O[k]? = some (.lst (xs.map .d))) (h : Q (.d (.tuple xs)) O) : fTuple [.o k] O Q := ⟨_, _, rfl, .inr (lv_o e), by rw [mkT_map]; exact h⟩
/-- isinstance: the kind by rfl, the answer by evaluation -/
theorem x_isi {x : PyData} {a b : String} (r : Bool) (ha : tyD x = a) (e : kitB a b = some r) (h : Q (.d (.bool r)) O) : fIsi [.d x, .v (.ty b)] O Q := by
  show (match kitB (tyD x) b with | some r => Q (.d (.bool r)) O | none => False)
  rw [ha, e]; exact h
theorem x_isis {x : PyData} {a : String} {ts : List W} (r : Bool) (ha : tyD x = a) (e : kitAnyB a ts = some r) (h : Q (.d (.bool r)) O) : fIsi [.d x, .tp ts] O Q := by
  show (match kitAnyB (tyD x) ts with | some r => Q (.d (.bool r)) O | none => False)
  rw [ha, e]; exact h
end
theorem k_I_int {O : List Ob} {Q : DQ} {i : Int} (h : Q (.d (.bool true)) O) : fIsi [.d (.int i), .v (.ty "int")] O Q := x_isi (a := "int") true rfl (by decide +kernel) h
theorem k_I_bool {O : List Ob} {Q : DQ} {i : Int} (h : Q (.d (.bool false)) O) : fIsi [.d (.int i), .v (.ty "bool")] O Q := x_isi (a := "int") false rfl (by decide +kernel) h
theorem k_I_str {O : List Ob} {Q : DQ} {i : Int} (h : Q (.d (.bool false)) O) : fIsi [.d (.int i), .v (.ty "str")] O Q := x_isi (a := "int") false rfl (by decide +kernel) h
theorem k_I_list {O : List Ob} {Q : DQ} {i : Int} (h : Q (.d (.bool false)) O) : fIsi [.d (.int i), .v (.ty "list")] O Q := x_isi (a := "int") false rfl (by decide +kernel) h
theorem k_I_tuple {O : List Ob} {Q : DQ} {i : Int} (h : Q (.d (.bool false)) O) : fIsi [.d (.int i), .v (.ty "tuple")] O Q := x_isi (a := "int") false rfl (by decide +kernel) h
theorem k_I_dict {O : List Ob} {Q : DQ} {i : Int} (h : Q (.d (.bool false)) O) : fIsi [.d (.int i), .v (.ty "dict")] O Q := x_isi (a := "int") false rfl (by decide +kernel) h
theorem k_I_lt {O : List Ob} {Q : DQ} {i : Int} (h : Q (.d (.bool false)) O) : fIsi [.d (.int i), .tp [.v (.ty "list"), .v (.ty "tuple")]] O Q := x_isis (a := "int") false rfl (by decide +kernel) h
theorem k_S_int {O : List Ob} {Q : DQ} {i : Str} (h : Q (.d (.bool false)) O) : fIsi [.d (.str i), .v (.ty "int")] O Q := x_isi (a := "str") false rfl (by decide +kernel) h
theorem k_S_bool {O : List Ob} {Q : DQ} {i : Str} (h : Q (.d (.bool false)) O) : fIsi [.d (.str i), .v (.ty "bool")] O Q := x_isi (a := "str") false rfl (by decide +kernel) h
theorem k_S_str {O : List Ob} {Q : DQ} {i : Str} (h : Q (.d (.bool true)) O) : fIsi [.d (.str i), .v (.ty "str")] O Q := x_isi (a := "str") true rfl (by decide +kernel) h
theorem k_S_list {O : List Ob} {Q : DQ} {i : Str} (h : Q (.d (.bool false)) O) : fIsi [.d (.str i), .v (.ty "list")] O Q := x_isi (a := "str") false rfl (by decide +kernel) h
theorem k_S_tuple {O : List Ob} {Q : DQ} {i : Str} (h : Q (.d (.bool false)) O) : fIsi [.d (.str i), .v (.ty "tuple")] O Q := x_isi (a := "str") false rfl (by decide +kernel) h
theorem k_S_dict {O : List Ob} {Q : DQ} {i : Str} (h : Q (.d (.bool false)) O) : fIsi [.d (.str i), .v (.ty "dict")] O Q := x_isi (a := "str") false rfl (by decide +kernel) h
theorem k_S_lt {O : List Ob} {Q : DQ} {i : Str} (h : Q (.d (.bool false)) O) : fIsi [.d (.str i), .tp [.v (.ty "list"), .v (.ty "tuple")]] O Q := x_isis (a := "str") false rfl (by decide +kernel) h
theorem k_B_int {O : List Ob} {Q : DQ} {i : Bool} (h : Q (.d (.bool true)) O) : fIsi [.d (.bool i), .v (.ty "int")] O Q := x_isi (a := "bool") true rfl (by decide +kernel) h
theorem k_B_bool {O : List Ob} {Q : DQ} {i : Bool} (h : Q (.d (.bool true)) O) : fIsi [.d (.bool i), .v (.ty "bool")] O Q := x_isi (a := "bool") true rfl (by decide +kernel) h
theorem k_B_str {O : List Ob} {Q : DQ} {i : Bool} (h : Q (.d (.bool false)) O) : fIsi [.d (.bool i), .v (.ty "str")] O Q := x_isi (a := "bool") false rfl (by decide +kernel) h
theorem k_B_list {O : List Ob} {Q : DQ} {i : Bool} (h : Q (.d (.bool false)) O) : fIsi [.d (.bool i), .v (.ty "list")] O Q := x_isi (a := "bool") false rfl (by decide +kernel) h
theorem k_B_tuple {O : List Ob} {Q : DQ} {i : Bool} (h : Q (.d (.bool false)) O) : fIsi [.d (.bool i), .v (.ty "tuple")] O Q := x_isi (a := "bool") false rfl (by decide +kernel) h
theorem k_B_dict {O : List Ob} {Q : DQ} {i : Bool} (h : Q (.d (.bool false)) O) : fIsi [.d (.bool i), .v (.ty "dict")] O Q := x_isi (a := "bool") false rfl (by decide +kernel) h
theorem k_B_lt {O : List Ob} {Q : DQ} {i : Bool} (h : Q (.d (.bool false)) O) : fIsi [.d (.bool i), .tp [.v (.ty "list"), .v (.ty "tuple")]] O Q := x_isis (a := "bool") false rfl (by decide +kernel) h
theorem k_N_int {O : List Ob} {Q : DQ}  (h : Q (.d (.bool false)) O) : fIsi [.d .none, .v (.ty "int")] O Q := x_isi (a := "NoneType") false rfl (by decide +kernel) h
theorem k_N_bool {O : List Ob} {Q : DQ}  (h : Q (.d (.bool false)) O) : fIsi [.d .none, .v (.ty "bool")] O Q := x_isi (a := "NoneType") false rfl (by decide +kernel) h
theorem k_N_str {O : List Ob} {Q : DQ}  (h : Q (.d (.bool false)) O) : fIsi [.d .none, .v (.ty "str")] O Q := x_isi (a := "NoneType") false rfl (by decide +kernel) h
theorem k_N_list {O : List Ob} {Q : DQ}  (h : Q (.d (.bool false)) O) : fIsi [.d .none, .v (.ty "list")] O Q := x_isi (a := "NoneType") false rfl (by decide +kernel) h
theorem k_N_tuple {O : List Ob} {Q : DQ}  (h : Q (.d (.bool false)) O) : fIsi [.d .none, .v (.ty "tuple")] O Q := x_isi (a := "NoneType") false rfl (by decide +kernel) h
theorem k_N_dict {O : List Ob} {Q : DQ}  (h : Q (.d (.bool false)) O) : fIsi [.d .none, .v (.ty "dict")] O Q := x_isi (a := "NoneType") false rfl (by decide +kernel) h
theorem k_N_lt {O : List Ob} {Q : DQ}  (h : Q (.d (.bool false)) O) : fIsi [.d .none, .tp [.v (.ty "list"), .v (.ty "tuple")]] O Q := x_isis (a := "NoneType") false rfl (by decide +kernel) h
theorem k_T_int {O : List Ob} {Q : DQ} {i : List PyData} (h : Q (.d (.bool false)) O) : fIsi [.d (.tuple i), .v (.ty "int")] O Q := x_isi (a := "tuple") false rfl (by decide +kernel) h
theorem k_T_bool {O : List Ob} {Q : DQ} {i : List PyData} (h : Q (.d (.bool false)) O) : fIsi [.d (.tuple i), .v (.ty "bool")] O Q := x_isi (a := "tuple") false rfl (by decide +kernel) h
theorem k_T_str {O : List Ob} {Q : DQ} {i : List PyData} (h : Q (.d (.bool false)) O) : fIsi [.d (.tuple i), .v (.ty "str")] O Q := x_isi (a := "tuple") false rfl (by decide +kernel) h
theorem k_T_list {O : List Ob} {Q : DQ} {i : List PyData} (h : Q (.d (.bool false)) O) : fIsi [.d (.tuple i), .v (.ty "list")] O Q := x_isi (a := "tuple") false rfl (by decide +kernel) h
theorem k_T_tuple {O : List Ob} {Q : DQ} {i : List PyData} (h : Q (.d (.bool true)) O) : fIsi [.d (.tuple i), .v (.ty "tuple")] O Q := x_isi (a := "tuple") true rfl (by decide +kernel) h
theorem k_T_dict {O : List Ob} {Q : DQ} {i : List PyData} (h : Q (.d (.bool false)) O) : fIsi [.d (.tuple i), .v (.ty "dict")] O Q := x_isi (a := "tuple") false rfl (by decide +kernel) h
theorem k_T_lt {O : List Ob} {Q : DQ} {i : List PyData} (h : Q (.d (.bool true)) O) : fIsi [.d (.tuple i), .tp [.v (.ty "list"), .v (.ty "tuple")]] O Q := x_isis (a := "tuple") true rfl (by decide +kernel) h
theorem k_L_int {O : List Ob} {Q : DQ} {i : List PyData} (h : Q (.d (.bool false)) O) : fIsi [.d (.list i), .v (.ty "int")] O Q := x_isi (a := "list") false rfl (by decide +kernel) h
theorem k_L_bool {O : List Ob} {Q : DQ} {i : List PyData} (h : Q (.d (.bool false)) O) : fIsi [.d (.list i), .v (.ty "bool")] O Q := x_isi (a := "list") false rfl (by decide +kernel) h
theorem k_L_str {O : List Ob} {Q : DQ} {i : List PyData} (h : Q (.d (.bool false)) O) : fIsi [.d (.list i), .v (.ty "str")] O Q := x_isi (a := "list") false rfl (by decide +kernel) h
theorem k_L_list {O : List Ob} {Q : DQ} {i : List PyData} (h : Q (.d (.bool true)) O) : fIsi [.d (.list i), .v (.ty "list")] O Q := x_isi (a := "list") true rfl (by decide +kernel) h
theorem k_L_tuple {O : List Ob} {Q : DQ} {i : List PyData} (h : Q (.d (.bool false)) O) : fIsi [.d (.list i), .v (.ty "tuple")] O Q := x_isi (a := "list") false rfl (by decide +kernel) h
theorem k_L_dict {O : List Ob} {Q : DQ} {i : List PyData} (h : Q (.d (.bool false)) O) : fIsi [.d (.list i), .v (.ty "dict")] O Q := x_isi (a := "list") false rfl (by decide +kernel) h
theorem k_L_lt {O : List Ob} {Q : DQ} {i : List PyData} (h : Q (.d (.bool true)) O) : fIsi [.d (.list i), .tp [.v (.ty "list"), .v (.ty "tuple")]] O Q := x_isis (a := "list") true rfl (by decide +kernel) h
theorem k_D_int {O : List Ob} {Q : DQ} {i : List (PyData × PyData)} (h : Q (.d (.bool false)) O) : fIsi [.d (.dict i), .v (.ty "int")] O Q := x_isi (a := "dict") false rfl (by decide +kernel) h
theorem k_D_bool {O : List Ob} {Q : DQ} {i : List (PyData × PyData)} (h : Q (.d (.bool false)) O) : fIsi [.d (.dict i), .v (.ty "bool")] O Q := x_isi (a := "dict") false rfl (by decide +kernel) h
theorem k_D_str {O : List Ob} {Q : DQ} {i : List (PyData × PyData)} (h : Q (.d (.bool false)) O) : fIsi [.d (.dict i), .v (.ty "str")] O Q := x_isi (a := "dict") false rfl (by decide +kernel) h
theorem k_D_list {O : List Ob} {Q : DQ} {i : List (PyData × PyData)} (h : Q (.d (.bool false)) O) : fIsi [.d (.dict i), .v (.ty "list")] O Q := x_isi (a := "dict") false rfl (by decide +kernel) h
theorem k_D_tuple {O : List Ob} {Q : DQ} {i : List (PyData × PyData)} (h : Q (.d (.bool false)) O) : fIsi [.d (.dict i), .v (.ty "tuple")] O Q := x_isi (a := "dict") false rfl (by decide +kernel) h
theorem k_D_dict {O : List Ob} {Q : DQ} {i : List (PyData × PyData)} (h : Q (.d (.bool true)) O) : fIsi [.d (.dict i), .v (.ty "dict")] O Q := x_isi (a := "dict") true rfl (by decide +kernel) h
theorem k_D_lt {O : List Ob} {Q : DQ} {i : List (PyData × PyData)} (h : Q (.d (.bool false)) O) : fIsi [.d (.dict i), .tp [.v (.ty "list"), .v (.ty "tuple")]] O Q := x_isis (a := "dict") false rfl (by decide +kernel) h
section
variable {O : List Ob} {Q : DQ}
/-- a tuple of data; a list of data; a tuple of other things -/
theorem x_mkT {ws : List W} {xs : List PyData} (e : allD ws = some xs) (hl : ws.length ≤ sizeLine) (h : Q (.d (.tuple xs)) O) : kTp ws O Q := ⟨hl, by unfold mkT; rw [e]; exact h⟩
theorem x_mkN {ws : List W} (e : allD ws = none) (hl : ws.length ≤ sizeLine) (h : Q (.tp ws) O) : kTp ws O Q := ⟨hl, by unfold mkT; rw [e]; exact h⟩
theorem x_mkL {ws : List W} {xs : List PyData} (e : allD ws = some xs) (hl : ws.length ≤ sizeLine) (h : Q (.d (.list xs)) O) : kLs ws O Q := ⟨hl, by rw [e]; exact h⟩
theorem x_alld {ws : List W} {xs : List PyData} (e : allD ws = some xs) (h : Q (.d (.list xs)) O) : kLc ws O Q := by unfold kLc; rw [e]; exact h
/-! ### equality of typed things -/
section
variable {α : Type} [DecidableEq α] [Datum α]
theorem x_eqTy {a b : α} (hd : Datum.depth α ≤ 50 := by decide) (h : Q (.d (.bool (decide (a = b)))) O) : fEqD (wD a) (wD b) O Q := x_eqD (okD_datum a hd) (okD_datum b hd) (by rw [Datum.eqv]; exact h)
theorem x_neTy {a b : α} (hd : Datum.depth α ≤ 50 := by decide) (h : Q (.d (.bool (!decide (a = b)))) O) : fNeD (wD a) (wD b) O Q := x_neD (okD_datum a hd) (okD_datum b hd) (by rw [Datum.eqv]; exact h)
theorem x_eqTs {a b : List α} (hd : Datum.depth α ≤ 49 := by decide) (h : Q (.d (.bool (decide (a = b)))) O) : fEqD (.d (tD a)) (.d (tD b)) O Q := x_eqD (okD_t a hd) (okD_t b hd) (by rw [eqv_t]; exact h)
theorem x_neTs {a b : List α} (hd : Datum.depth α ≤ 49 := by decide) (h : Q (.d (.bool (!decide (a = b)))) O) : fNeD (.d (tD a)) (.d (tD b)) O Q := x_neD (okD_t a hd) (okD_t b hd) (by rw [eqv_t]; exact h)
theorem x_eqLs {a b : List α} (hd : Datum.depth α ≤ 49 := by decide) (h : Q (.d (.bool (decide (a = b)))) O) : fEqD (.d (lD a)) (.d (lD b)) O Q := x_eqD (okD_l a hd) (okD_l b hd) (by rw [eqv_l]; exact h)
theorem x_neLs {a b : List α} (hd : Datum.depth α ≤ 49 := by decide) (h : Q (.d (.bool (!decide (a = b)))) O) : fNeD (.d (lD a)) (.d (lD b)) O Q := x_neD (okD_l a hd) (okD_l b hd) (by rw [eqv_l]; exact h)
theorem x_neNil {k : Nat} {l : List α} (e : O[k]? = some (oL l)) (hd : Datum.depth α ≤ 49 := by decide) (h : Q (.d (.bool (!decide (l = [])))) O) : fNeD (.o k) (.d (.list [])) O Q :=
  x_neW (.o e (rsL_o l)) .d (okD_l l hd) (okD_l ([] : List α) hd) (by have := eqv_l l []; rw [show lD ([] : List α) = .list [] from rfl] at this; rw [this]; exact h)
end
theorem x_tupOt {α : Type} [DecidableEq α] [Datum α] {k : Nat} {l : List α} (e : O[k]? = some (oL l)) (h : Q (.d (tD l)) O) : fTuple [.o k] O Q := x_tupO (xs := l.map Datum.toD) (by rw [e, map_dd]) h
section
variable {α : Type} [DecidableEq α] [Datum α] {a b : List α} {lo hi : Option Int}
theorem x_slTt (h : Q (.d (tD (cutW a lo hi))) O) : fSlT (.d (.tuple (a.map Datum.toD))) lo hi O Q := x_slT (by rw [cutW_map]; exact h)
theorem x_slLt (h : Q (.d (lD (cutW a lo hi))) O) : fSlL (.d (.list (a.map Datum.toD))) lo hi O Q := x_slL (by rw [cutW_map]; exact h)
theorem x_lenTt (h : Q (.d (.int a.length)) O) : fLen [.d (.tuple (a.map Datum.toD))] O Q := x_lenT (by rw [List.length_map]; exact h)
theorem x_lenLt (h : Q (.d (.int a.length)) O) : fLen [.d (.list (a.map Datum.toD))] O Q := x_lenL (by rw [List.length_map]; exact h)
theorem x_revt (h : Q (.d (tD a.reverse)) O) : fRev (.d (.tuple (a.map Datum.toD))) O Q := x_rev (by rw [← List.map_reverse]; exact h)
theorem x_addTt (hl : a.length + b.length ≤ sizeLine) (h : Q (.d (tD (a ++ b))) O) : fAddT (.d (.tuple (a.map Datum.toD))) (.d (.tuple (b.map Datum.toD))) O Q := x_addT (by rw [List.length_map, List.length_map]; exact hl) (by rw [← List.map_append]; exact h)
theorem x_addLt (hl : a.length + b.length ≤ sizeLine) (h : Q (.d (lD (a ++ b))) O) : fAddL (.d (.list (a.map Datum.toD))) (.d (.list (b.map Datum.toD))) O Q := x_addL (by rw [List.length_map, List.length_map]; exact hl) (by rw [← List.map_append]; exact h)
theorem x_repTt {n : Nat} (h1 : n ≤ 1000) (h2 : a.length ≤ 1000) (h : Q (.d (tD (List.replicate n a).flatten)) O) : fRepT (.d (.tuple (a.map Datum.toD))) (.d (.int n)) O Q := x_repT h1 (by rw [List.length_map]; exact h2) (by
  rw [← List.map_replicate, ← List.map_flatten]; exact h)
theorem x_ixTt {i : Int} {x : α} (e : atI a i = some x) (h : Q (wD x) O) : fIxT (.d (.tuple (a.map Datum.toD))) (.d (.int i)) O Q := x_ixT (atI_map _ e) h
theorem x_ixLt {i : Int} {x : α} (e : atI a i = some x) (h : Q (wD x) O) : fIxL (.d (.list (a.map Datum.toD))) (.d (.int i)) O Q := x_ixL (atI_map _ e) h
theorem x_alldt {ws : List W} (e : ws = a.map fun x => .d (Datum.toD x)) (h : Q (.d (lD a)) O) : kLc ws O Q := x_alld (by rw [e, allD_o]) h
end
/-- the bounds of a slice -/
theorem cut_to {α : Type} {l : List α} {k : Nat} : cutW l none (some (k : Int)) = l.take k := by
  unfold cutW
  rw [HT.sIx_none, HT.sIx_nat, List.drop_zero, Nat.sub_zero]
  by_cases h : k ≤ l.length
  · rw [Nat.min_eq_left h]
  · rw [Nat.min_eq_right (by omega), List.take_length, List.take_of_length_le (by omega)]
theorem cut_from {α : Type} {l : List α} {k : Nat} : cutW l (some (k : Int)) none = l.drop k := by
  unfold cutW
  rw [HT.sIx_none, HT.sIx_nat]
  by_cases h : k ≤ l.length
  · rw [Nat.min_eq_left h, List.take_of_length_le (by rw [List.length_drop]; omega)]
  · rw [Nat.min_eq_right (by omega), Nat.sub_self, List.take_zero, List.drop_of_length_le (by omega)]
theorem cut_mid {α : Type} {l : List α} {j k : Nat} (h : k ≤ l.length) : cutW l (some (j : Int)) (some (k : Int)) = (l.drop j).take (k - j) := by
  unfold cutW
  rw [HT.sIx_nat, HT.sIx_nat, Nat.min_eq_left h]
  by_cases hj : j ≤ l.length
  · rw [Nat.min_eq_left hj]
  · rw [Nat.min_eq_right (by omega), show k - l.length = 0 by omega, show k - j = 0 by omega, List.take_zero, List.take_zero]
theorem x_wlkT {xs : List PyData} {R : List W → (List Ob → Prop) → Prop} (h : R (xs.map .d) tt0) : wlk (.d (.tuple xs)) O R := ⟨_, rfl, h⟩
theorem x_wlkL {xs : List PyData} {R : List W → (List Ob → Prop) → Prop} (h : R (xs.map .d) tt0) : wlk (.d (.list xs)) O R := h
/-! ### leaving -/
theorem x_fin {w : W} {O1 : List Ob} (h : Q w O1) : Fin O Q w O1 := .inl h
theorem x_finT {x : PyData} {X : List Ob} (h : Q (.d x) O) : Fin O Q (.d x) (O ++ X) := .inr ⟨x, .d, .app O X, by rw [List.take_left']; exact h; rfl⟩
theorem x_finN {E : DX} {Γ : Gm} (h : Q (.d .none) O) : (endsD O Q E).nx Γ O := .inl h
theorem x_fret {E : DX} {w : W} {O1 : List Ob} (h : Fin O Q w O1) : (endsD O Q E).rt w O1 := h
/-! ### own things -/
theorem get_app {X : Ob} : (O ++ [X])[O.length]? = some X := by rw [List.getElem?_append_right (Nat.le_refl _), Nat.sub_self]; rfl
theorem set_app {X Y : Ob} : (O ++ [X]).set O.length Y = O ++ [Y] := by rw [List.set_append_right _ _ (Nat.le_refl _), Nat.sub_self]; rfl
end
end UZ
/-! UZ, part S: own exception classes whose initialiser hands a text on to the class above and keeps fields. -/
namespace UZ
open PySem PySem.Spec PyProof.Rows L2 PySem.W

/-- the context of a method that names its own class -/
def cxS (CX : CXT) (P : Program) (w : World) (K : PySem.W.Frag) (mg : Str → Option Value) (base : Heap) (N : List Str) (qual : Str) (scope : Scope) (f : Addr) (cd : Value) (cc : Addr) (A : Around) (outer : List Env) (s : Shared) (H : Hp) (E : XK) : Cx where
  prog := P
  w := w
  K := K
  mg := mg
  base := base
  A := A.deeper (ksEnv qual scope s.heap.objs.size f cd cc)
  N := N
  s_0 := s
  H_0 := H
  env := ksEnv qual scope s.heap.objs.size f cd cc
  outer := outer
  stack := ksEnv qual scope s.heap.objs.size f cd cc :: outer
  ex := []
  calm := true
  fn := fun x => x != ("__class__" : Str)
  pn := []
  xe := fun e s' => wpAny (model P w) (A.deeper (ksEnv qual scope s.heap.objs.size f cd cc)) (leaving (ksEnv qual scope s.heap.objs.size f cd cc) e) (fun _ s'' => CX outer H s E e s'') (fun e' s'' => CX outer H s E e' s'') s'
theorem look_rev {y : Str} {u : Value} : ∀ {l : List (Str × Value)}, (l.map (·.1)).Nodup → (y, u) ∈ l → l.reverse.lookup y = some u := by
  intro l hn hm
  have hr : (l.reverse.map (·.1)).Nodup := by rw [List.map_reverse]; exact List.pairwise_reverse.mpr (List.Pairwise.imp (fun h => Ne.symm h) hn)
  have main : ∀ {l : List (Str × Value)}, (l.map (·.1)).Nodup → (y, u) ∈ l → l.lookup y = some u := by
    intro l
    induction l with
    | nil => intro _ h; cases h
    | cons p l ih =>
      intro h1 h2
      obtain ⟨k, v⟩ := p
      rw [List.lookup_cons]
      rcases List.mem_cons.mp h2 with e | h3
      · cases e; simp
      · have nk : k ∉ l.map (·.1) := (List.nodup_cons.mp h1).1
        have hk : (y == k) = false := by
          cases hb : (y == k) with
          | false => rfl
          | true =>
            rw [← eq_of_beq hb] at nk
            exact absurd (List.mem_map.mpr ⟨(y, u), h3, rfl⟩) nk
        rw [hk]
        exact ih (List.nodup_cons.mp h1).2 h3
  exact main hr (List.mem_reverse.mpr hm)
structure SupScope (N ps : List Str) (sc : Scope) : Prop where
  kind : sc.kind = .function
  co : sc.isCoroutine = false
  gen : sc.isGenerator = false
  nd : N.Nodup
  pre : N = ps
  par : ∀ x ∈ ps, sc.names.lookup x = some .local
  nocell : ∀ x ∈ sc.names, x.2 ≠ .cell
  free : ∀ x ∈ sc.names, x.2 = .free → x.1 = ("__class__" : Str)
  cls : sc.names.lookup ("__class__" : Str) = some .free
  sup : sc.names.lookup ("super" : Str) = some .globalImplicit
theorem inv_sup {CX : CXT} {P : Program} {w : World} {K : PySem.W.Frag} {mg : Str → Option Value} {base : Heap} {N ps : List Str} {qual : Str} {scope : Scope} {f cc : Addr} {cd : Value} {A : Around} {outer : List Env} {s : Shared} {H : Hp} {E : XK} {us : List Value} {vs : List V} {oc : Value} {od : Option Addr} {sl : Array (Option Value)} {D : Value}
    (S : SupScope N ps scope) (hd : A.handled = none) (e0 : Env0 P w K mg base A outer s H) (hl : vs.length = ps.length) (r : Vals vs us) (hcc : K.lookup cc = some ⟨oc, od, .cell (some D), sl⟩) {h₁ : Heap} {tk : Nat}
    (hns : h₁.Ns s.heap.objs.size (fun x => (ps.zip us).reverse.lookup x)) (hk : ∀ b o, s.heap.get? b = some o → h₁.get? b = some o) :
    Inv (cxS CX P w K mg base N qual scope f cd cc A outer s H E) [] (vs.map some) H { s with heap := h₁, toks := tk } := by
  have hb : base.get? cc = some ⟨oc, od, .cell (some D), sl⟩ := e0.mod.kin _ _ hcc
  have look1 : ∀ y c, (cxS CX P w K mg base N qual scope f cd cc A outer s H E).env.cells.lookup y = some c → y = ("__class__" : Str) ∧ c = cc := fun y c e => by
    have e : ([(("__class__" : Str), cc)] : List (Str × Addr)).lookup y = some c := e
    rw [List.lookup_cons] at e
    cases hb : (y == ("__class__" : Str)) with
    | true => rw [hb] at e; cases e; exact ⟨eq_of_beq hb, rfl⟩
    | false => rw [hb] at e; cases e
  have noA : ∀ b : Addr, b ∉ (cxS CX P w K mg base N qual scope f cd cc A outer s H E).ex := fun b z => absurd (show b ∈ ([] : List Addr) from z) (by simp)
  refine ⟨⟨e0.mod, S.kind, rfl, rfl, Nat.le_refl _, fun y z c h1 h2 => ?_, fun y hy => ?_, fun y c h1 h => ?_, fun _ => hd, Around.frames_deeper e0.frames, .inr ⟨rfl, rfl⟩, fun b z => absurd z (noA b), e0.bs, e0.bsz, fun b _ _ => noA b, fun b z => absurd z (noA b), e0.funs, e0.frf⟩,
    rfl, e0.bare, Un.kept hk, ⟨_, hns, fun i y v h1 h2 h3 => ?_⟩, fun y c h => ?_, e0.hok.fresh (Nat.le_refl _), fun y c h => ?_, fun p hp => absurd (show p ∈ ([] : List (Addr × Obj)) from hp) (by simp), e0.hok.kept hk, ?_⟩
  · rw [(look1 y c h1).1, (look1 z c h2).1]
  · have hy : scope.names.lookup y = some .cell ∨ scope.names.lookup y = some .free := hy
    rcases hy with hy | hy
    · exact absurd rfl (S.nocell _ (PySem.mem_of_lookup hy))
    · have := S.free _ (PySem.mem_of_lookup hy) rfl
      have this : y = ("__class__" : Str) := this
      subst this
      exact ⟨cc, rfl⟩
  · have := (look1 y c h).1
    subst this
    exact absurd (show (("__class__" : Str) != ("__class__" : Str)) = true from h1) (by decide)
  · have h2 : (vs.map some)[i]? = some (some v) := h2
    rw [List.getElem?_map] at h2
    obtain ⟨v', e1, e2⟩ := Option.map_eq_some_iff.mp h2
    cases e2
    obtain ⟨u, hu, rv⟩ := r.get e1
    have hp : ps[i]? = some y := by rw [← S.pre]; exact h1
    have nd : ((ps.zip us).map (·.1)).Nodup := by
      have : (ps.zip us).map (·.1) = ps := by
        rw [List.map_fst_zip]
        have := r.length
        omega
      rw [this, ← S.pre]; exact S.nd
    refine ⟨u, rv, .inl ⟨S.par y (List.mem_of_getElem? hp), look_rev nd ?_⟩⟩
    refine List.mem_of_getElem? (i := i) ?_
    rw [List.getElem?_zip_eq_some]
    exact ⟨hp, hu⟩
  · obtain ⟨_, rfl⟩ := look1 y c h
    exact ⟨_, _, hk _ _ (e0.bs _ _ hb).1, rfl⟩
  · obtain ⟨_, rfl⟩ := look1 y c h
    exact (e0.bs _ _ hb).2
  · rw [List.length_map, hl, show (cxS CX P w K mg base N qual scope f cd cc A outer s H E).N = N from rfl, S.pre]

/-- what an own exception class whose initialiser hands on must have -/
structure SupC (P : Program) (K : PySem.W.Frag) (C f cc : Addr) (cd : Value) : Prop where
  T : OexC K C
  code : ∃ (a : Addr) (oc : Value) (od : Option Addr) (vs : Array Value) (sl : Array (Option Value)) (file : Str) (tf : Tok), cd = .ref a ∧ K.lookup a = some ⟨oc, od, .fields vs, sl⟩ ∧ vs[2]? = some (.str file tf) ∧ ((P.main.file : Str) == file) = true
  cell : ∃ (oc : Value) (od : Option Addr) (sl : Array (Option Value)), K.lookup cc = some ⟨oc, od, .cell (some (.ref C)), sl⟩
  sub : mroIn K C (.ref C) = some true
  any : nsIn K cStatics "thirdparty.any" = some none
  sup : ks_superIn K C C "__init__" = some (some (.builtin "ValueError.__init__"))
  ve : subIn K (.ref C) (.type "ValueError") = some true
  nosup : nsIn K mainGlobals "super" = some none
  top : (P.main.scope.names.lookup ("super" : Str)).isSome = false
theorem call_mw {X : Cx} {pins : List (Addr × Obj)} {σ : L2.St} {H : Hp} {s : Shared} {a C u : Addr} {us : List Value} {Q : Value → Shared → Prop} {E : Value → Shared → Prop} {A : Around} (T : OexC X.K C) (I : Inv X pins σ H s) (e : H a = some (exo a C none)) (hu : s.heap.get? u = some (kxs_mw "ValueError.__init__" a)) (hl : us.length ≤ sizeLine)
    (h : ∀ s', Inv X pins σ H s' → Q .none s') : wpAny (model X.prog X.w) A (call (.ref u) us) Q E s := by
  obtain ⟨nm, q, N, bs, bm, sn, sub, ab, col, dd, k0, k1, k2, k3, k5, hC, hbm⟩ := T.cls
  obtain ⟨t1, ho⟩ := exo_at I.hok e
  have hC' := I.kIn _ _ hC
  obtain ⟨hp, g, d, t, os⟩ := s
  refine wpAny_call (codeAny_of_tree ?_)
  show wpAny _ A.in1 (callAny (.ref u) ⟨us, []⟩) _ _ _
  simp only [callAny]
  refine wpAny_bind (wpAny_load hu ?_)
  simp only [kxs_mw, show (Value.type "method-wrapper" == Value.type "method" || Value.type "method-wrapper" == Value.type "builtin_function_or_method" || Value.type "method-wrapper" == Value.type "method-wrapper") = true by decide, if_true]
  refine KFB.if_so (by decide) ?_
  refine wpAny_bind (check_bound_init F.excBase_ValueError.toExcCallFacts hC' ho rfl ?_)
  refine wpAny_bind (wpAny_pure (wpAny_pure ?_))
  refine ⟨plainId_quiet F.excBase_ValueError.init.plain _, codeAny_builtin F.excBase_ValueError.initEntry ?_⟩
  refine exc_init_tree (cls := .ref C) (t0 := t1) (dv := none) (c2 := .none) (c3 := .none) (b4 := .bool false) ho hl (fun h' k e' t' => ?_)
  have J := I.write (t' := t) (x := a) (e := a) (o := exo a C none) (by rw [e]; exact True.intro) (.inl rfl) k ⟨_, e'⟩ (exo_ok e')
  have eu : upd H a (exo a C none) = H := by
    funext b
    by_cases hb : b = a
    · rw [hb, upd_same, e]
    · rw [upd_ne hb]
  rw [eu] at J
  exact h _ J

/-- THE RULE for an initialiser that hands on first -/
theorem fn_sup {CX : CXT} {P : Program} {w : World} {K : PySem.W.Frag} {mg : Str → Option Value} {base : Heap} {k : Nat} {C f cc : Addr} {name qual : Str} {params : Arguments} {rest : List Stmt} {scope : Scope} {dV kV doc pm cdv ct oc : Value} {an od : Option Addr}
    {osl : Array (Option Value)} {N ps : List Str} {sp : Sp} {p0 p1 apos cpos epos : Pos} {e : Expr} {ar : Arg}
    (SC : SupC P K C f cc cdv) (lk : K.lookup f = some ⟨oc, od, .func (ksFn name qual params (.Expr (.Call (.Attribute (.Call (.Name "super" p0) [] [] p1) "__init__" apos) [e] [] cpos) epos :: rest) scope dV kV doc pm an cdv ct cc), osl⟩) (hcd : codeIn K cdv qual = true)
    (S : SupScope N ps scope) (hp : (params.posonlyargs ++ params.args).head? = some ar) (hself : N[0]? = some ar.arg)
    (len : ∀ vs H Q E, sp vs H Q E → vs.length = ps.length)
    (hpl : ∀ (pos : Pos) (env : Env), (backTo pos (starEach [] env)).any (·.1) = false := by exact fun _ _ => rfl)
    (hbody : ∀ (A : Around) (outer : List Env) (s : Shared) (H : Hp) (vs : List V) (Q : VK) (E : XK), sp vs H Q E →
      ∃ ta ts, PA (cxS CX P w K mg base N qual scope f cdv cc A outer s H E) [e] ta ∧ PSs (cxS CX P w K mg base N qual scope f cdv cc A outer s H E) rest ts ∧
        ∃ a, vs[0]? = some (.ref a) ∧ H a = some (exo a C none) ∧ ta (vs.map some) H fun ws H1 => ws.length ≤ 1000 ∧ H1 = H ∧ ts { nx := fun _ H' => Q .non H', rt := Q } (vs.map some) H)
    {pl : Addr → Sem Bool} (hev : ∀ L : Addr, eval (.Call (.Attribute (.Call (.Name "super" p0) [] [] p1) "__init__" apos) [e] [] cpos) (ksEnv qual scope L f cdv cc) = (do
      let ov ← attributeBase (.Call (.Name "super" p0) [] [] p1) "__init__" (ksEnv qual scope L f cdv cc) (eval (.Call (.Name "super" p0) [] [] p1) (ksEnv qual scope L f cdv cc))
      standAt apos.atName
      let (g, first) ← holding [ov] (getMethod ov "__init__" (pl L))
      callWith cpos g first (backTo cpos (starEach [e] (ksEnv qual scope L f cdv cc))) []))
    (hsw : ∀ L : Addr, swapsWith (.Call (.Attribute (.Call (.Name "super" p0) [] [] p1) "__init__" apos) [e] [] cpos) none epos.line (ksEnv qual scope L f cdv cc) = pure false)
    (hint : ∀ L : Addr, interactive (ksEnv qual scope L f cdv cc) = false)
    (he : ∀ env : Env, starEach [e] env = (false, eval e env) :: starEach [] env := by exact fun _ => rfl) :
    FnOk P w K mg base CX (k + 1) f (ksFn name qual params (.Expr (.Call (.Attribute (.Call (.Name "super" p0) [] [] p1) "__init__" apos) [e] [] cpos) epos :: rest) scope dV kV doc pm an cdv ct cc) ps sp := by
  refine ⟨len, fun A outer s H args us vs Q E hr e0 hb r hsp => ?_⟩
  have hl := len _ _ _ _ hsp
  have KX : K.In s.heap := e0.mod.kin.keeps fun b o e => (e0.bs b o e).1
  have lim : s.heap.NoLimit := e0.mod.nolimit.keeps fun b o e => (e0.bs b o e).1
  have hloc : ∀ y ∈ ps.zip us, scope.names.lookup y.1 = some .local := fun ⟨n, v⟩ hy => S.par n (List.of_mem_zip hy).1
  obtain ⟨ta, ts, ha, hts, a, hv0, ea, q⟩ := hbody A outer s H vs Q E hsp
  obtain ⟨cl, cld, csl, hcc⟩ := SC.cell
  refine ks_codeAny_call_defAt (fd := ksFn name qual params _ scope dV kV doc pm an cdv ct cc) (binds := ps.zip us) hr.depth (KX _ _ lk) rfl lim (codeRec_of KX hcd) rfl hb S.nocell hloc (fun h₁ hns hk => ?_) S.co S.gen S.kind
  have I : Inv (cxS CX P w K mg base N qual scope f cdv cc A outer s H E) [] (vs.map some) H { s with heap := h₁, toks := s.toks + (ps.zip us).length } := inv_sup S hr.hd e0 hl r hcc hns hk
  refine ks_wpAt_execs_cons (ks_wpAt_Expr_any (ks_wpAt_MethodCall (pl := pl s.heap.objs.size) ?_ (hev _)) (hint _) (hsw _))
  obtain ⟨ca, coc, cod, cvs, csl2, file, tf, rfl, hcode, hvs, hfile⟩ := SC.code
  have hex : ∀ {a b : Addr}, True := fun {_ _} => trivial
  have KX1 : K.In h₁ := fun b o e => hk b o (KX b o e)
  obtain ⟨nm, q2, N2, bs, bm, sn, sub, ab, col, dd, k0, k1, k2, k3, k5, hC, hbm⟩ := SC.T.cls
  have hcl : clsIn K C = some { name := nm, bases := bs, mro := .ref C :: bm, ns := N2, qualname := q2, hasDict := true, slotNames := sn, subclasses := sub, abstract := ab, collection := col, hasDel := false } := by unfold clsIn; rw [hC] <;> rfl
  obtain ⟨t1, hx⟩ := exo_at I.hok ea
  obtain ⟨u0, hu0, ru0⟩ := r.get hv0
  obtain rfl : u0 = Value.ref a := ru0
  have hself2 : ps[0]? = some ar.arg := by rw [← S.pre]; exact hself
  refine ks_wpAt_super_base (env := ksEnv qual scope s.heap.objs.size f (.ref ca) cc) S.sup S.cls (by decide) rfl (KX1 _ _ lk) rfl hp rfl (KX1 _ _ hcode) rfl hvs hfile SC.top ?_
  obtain ⟨mb, hb1, hb2⟩ := e0.mod.blt
  have kb : ∀ b o, base.get? b = some o → h₁.get? b = some o := fun b o e => hk b o (e0.bs b o e).1
  refine ks_loadName_global S.kind S.sup (Calls.loadGlobal_builtin (env := ksEnv qual scope s.heap.objs.size f (.ref ca) cc) (e0.mod.glob.keeps kb) (mg_none_of e0.mod.kin e0.mod.glob SC.nosup) (hb1.keeps kb) ((hb2 _ (by decide)).trans PyProof.Rows.Boot.«super») ⟨rfl, ?_⟩)
  refine wpAny_loadName_free S.kind S.cls rfl ⟨_, KX1 _ _ hcc, rfl⟩ ?_
  have nd : ((ps.zip us).map (·.1)).Nodup := by
    have : (ps.zip us).map (·.1) = ps := by
      rw [List.map_fst_zip]
      have := r.length
      omega
    rw [this, ← S.pre]; exact S.nd
  have hv : (ps.zip us).reverse.lookup ar.arg = some (.ref a) := look_rev nd (List.mem_of_getElem? (i := 0) (List.getElem?_zip_eq_some.mpr ⟨hself2, hu0⟩))
  refine wpAny_loadName_local S.kind (S.par _ (List.mem_of_getElem? hself2)) hns hv ?_
  have hD1 := KX1 _ _ hC
  refine ks_wpAny_isType_cls hD1 rfl ⟨rfl, ?_⟩
  refine ks_wpAny_call_super hD1 rfl hx rfl (fun c z => by cases z) (looks_mroIn KX1 SC.sub) (fun h2 hso k2 => ?_)
  have I2 : Inv (cxS CX P w K mg base N qual scope f (.ref ca) cc A outer s H E) [] (vs.map some) H { s with heap := h2, toks := s.toks + (ps.zip us).length } := I.kept k2
  have KX2 : K.In h2 := fun b o e => k2 b o (KX1 b o e)
  have hx2 := k2 _ _ hx
  have hI : Looks (model P w) h2 (isInstance (.ref a) (.type "ValueError")) true := by
    have Ia : InstAt h2 a _ C none := ⟨hx2, rfl, rfl, trivial⟩
    exact Ia.type.andThen (looks_subIn KX2 SC.ve)
  have hal : alongIn K "__init__" (((Value.ref C :: bm).dropWhile (· != .ref C)).drop 1) = some (some (.builtin "ValueError.__init__")) := by
    have := SC.sup
    unfold ks_superIn at this
    rw [hcl] at this
    exact this
  have hmro : Looks (model P w) h2 (mroOf (.ref C)) (.ref C :: bm) := fun A Q E s k q => wpAny_bind ((looks_clsIn KX2 hcl) A _ E s k (wpAny_pure q))
  have hne : a ≠ C := fun z => by
    rw [z] at hx2
    have := KX2 _ _ hC
    rw [hx2] at this
    cases this
  refine kxs_getMethod kxs_ValueError hso (looks_opaque KX2 SC.any) hmro rfl KX2 hal hI hne (by decide) ?_
  have hu : (h2.push (kxs_mw "ValueError.__init__" a)).get? h2.objs.size = some (kxs_mw "ValueError.__init__" a) := Heap.get?_push_at rfl rfl
  have I3 : Inv (cxS CX P w K mg base N qual scope f (.ref ca) cc A outer s H E) [] (vs.map some) H { s with heap := h2.push (kxs_mw "ValueError.__init__" a), toks := s.toks + (ps.zip us).length + 1 } := I2.kept fun b o e => Heap.get?_push_of_some _ e
  have I4 : Inv (cxS CX P w K mg base N qual scope f (.ref ca) cc A outer s H E) [(h2.objs.size, kxs_mw "ValueError.__init__" a)] (vs.map some) H { s with heap := h2.push (kxs_mw "ValueError.__init__" a), toks := s.toks + (ps.zip us).length + 1 } := by
    refine I3.pins_of fun p hp => ?_
    rw [List.mem_singleton] at hp
    subst hp
    refine ⟨hu, I2.hok.fresh (Nat.le_refl _), ?_, I2.nofs (Nat.le_refl _), fun v z => by cases z⟩
    have := I2.lt
    exact Nat.ne_of_gt this
  show wpAny _ _ (callWith cpos (.ref h2.objs.size) [] (backTo cpos (starEach [e] (ksEnv qual scope s.heap.objs.size f (.ref ca) cc))) []) _ _ _
  have run := ha.run cpos _ _ _ _ _ I4 q
  rw [he]
  refine kxs_callWith (i := "ValueError.__init__") (x := a) (by show (false || (backTo cpos (starEach [] (ksEnv qual scope s.heap.objs.size f (.ref ca) cc))).any (·.1)) = false; rw [hpl]; rfl) (PySem.Calls.evalArgs_plain ?_)
  have run : wpAny (model P w) (A.deeper (ksEnv qual scope s.heap.objs.size f (.ref ca) cc)) (spliced (backTo cpos (starEach [e] (ksEnv qual scope s.heap.objs.size f (.ref ca) cc)))) _ _ _ := run
  rw [he] at run
  refine wpAny_mono run (fun us2 s5 hap => ?_) fun _ _ z => z
  obtain ⟨ws, H5, I5, rv, hwl, rfl, q5⟩ := hap
  have hu5 := (I5.pin _ (List.mem_append_right _ (List.mem_singleton.mpr rfl))).1
  refine ⟨hu5, ?_⟩
  have hlen : us2.length ≤ sizeLine := by
    rw [← Paired.length rv, sizeLine_eq]
    omega
  refine call_mw (X := cxS CX P w K mg base N qual scope f (.ref ca) cc A outer s H5 E) SC.T I5 ea hu5 hlen fun s6 I6 => ?_
  have I7 : Inv (cxS CX P w K mg base N qual scope f (.ref ca) cc A outer s H5 E) [] (vs.map some) H5 s6 := I6.pins_of fun p hp => absurd hp (by simp)
  refine wpAt_of_wpAny ?_
  refine wpAny_mono (hts.run [] s6 _ _ _ I7 q5) (fun fl s' hs => ?_) fun e s' hs => hs
  have fin : ∀ {σ' : L2.St} {H' : Hp} {v : V} {u : Value}, Inv (cxS CX P w K mg base N qual scope f (.ref ca) cc A outer s H5 E) [] σ' H' s' → RelV v u → Q v H' → CE outer P w H5 s Q u s' :=
    fun {σ' H' v u} J rv q => ⟨v, H', J.os, J.bare, J.base, J.hok, rv, q⟩
  cases fl with
  | ret u =>
    obtain ⟨v, σ', H', J, rv, q⟩ := hs
    exact fin J rv q
  | next =>
    obtain ⟨σ', H', J, q⟩ := hs
    exact fin (v := V.non) (u := Value.none) J rfl q
  | brk =>
    obtain ⟨_, _, _, q⟩ := hs
    exact False.elim q
  | cont =>
    obtain ⟨_, _, _, q⟩ := hs
    exact False.elim q
end UZ
/-! UZ, part V: exceptions of own classes: made, raised, caught. -/
namespace UZ
open PySem PySem.Spec PyProof.Rows L2
/-! ### the initialisers -/
def okV : V → Prop
  | .int i => i.natAbs.log2 < 1920
  | .str s => s.length ≤ 10000
  | _ => False
def spX (C : Addr) (fs : List Str) : Sp := fun vs H Q _ => ∃ (a : Addr) (args : List V), vs = .ref a :: args ∧ args.length = fs.length ∧ (∀ y ∈ args, okV y) ∧ H a = some (exo a C none) ∧
  ∀ d H2, H d = none → d ≠ a → H2 a = some (exo a C (some d)) → H2 d = some (exd d (fs.zip args).reverse) → (∀ b, b ≠ a → b ≠ d → H2 b = H b) → Q .non H2
/-- a message from the arguments -/
def MsgOk (m : Nat) (te : TE) : Prop := ∀ (a : Addr) (args : List V) (H : Hp) (Q : VK), args.length = m → (∀ y ∈ args, okV y) → (∀ w, Q w H) → te ((V.ref a :: args).map some) H Q
section
variable {P : Program} {w : World} {K : PySem.W.Frag} {mg : Str → Option Value} {base : Heap} {C f cc : Addr} {qual : Str} {params : Arguments} {scope : Scope} {dV kV doc pm cdv ct oc : Value} {an od : Option Addr} {osl : Array (Option Value)}
  {p0 p1 apos cpos epos q1 q2 q3 q4 r1 r2 r3 r4 : Pos} {e : Expr} {ar : Arg} {n0 n1 n2 f1 f2 : Str} {te : TE} {CX : CXT}
theorem tVar_get {vs : List V} {i : Nat} {v : V} {H : Hp} {Q : VK} (e : vs[i]? = some v) (q : Q v H) : tVar i (vs.map some) H Q := ⟨v, by rw [List.getElem?_map, e]; rfl, q⟩
/-- one field -/
theorem init_1 (SC : SupC P K C f cc cdv) (lk : K.lookup f = some ⟨oc, od, .func (PySem.W.ksFn "__init__" qual params [.Expr (.Call (.Attribute (.Call (.Name "super" p0) [] [] p1) "__init__" apos) [e] [] cpos) epos, .Assign [.Attribute (.Name n0 q1) f1 q2] (.Name n1 q3) q4] scope dV kV doc pm an cdv ct cc), osl⟩)
    (hcd : PySem.W.codeIn K cdv qual = true) (S : SupScope [n0, n1] [n0, n1] scope) (hp : (params.posonlyargs ++ params.args).head? = some ar) (hself : ar.arg = n0) (hf1 : PySem.W.findIn K (.ref C) f1 = some none)
    (he : ∀ (A : Around) (outer : List Env) (s : Shared) (H : Hp) (E : XK), PE (cxS CX P w K mg base [n0, n1] qual scope f cdv cc A outer s H E) e te) (hm : MsgOk 1 te)
    {pl : Addr → Sem Bool} (hev : ∀ L : Addr, eval (.Call (.Attribute (.Call (.Name "super" p0) [] [] p1) "__init__" apos) [e] [] cpos) (PySem.W.ksEnv qual scope L f cdv cc) = (do
      let ov ← attributeBase (.Call (.Name "super" p0) [] [] p1) "__init__" (PySem.W.ksEnv qual scope L f cdv cc) (eval (.Call (.Name "super" p0) [] [] p1) (PySem.W.ksEnv qual scope L f cdv cc))
      standAt apos.atName
      let (g, first) ← holding [ov] (getMethod ov "__init__" (pl L))
      callWith cpos g first (backTo cpos (starEach [e] (PySem.W.ksEnv qual scope L f cdv cc))) []))
    (hsw : ∀ L : Addr, swapsWith (.Call (.Attribute (.Call (.Name "super" p0) [] [] p1) "__init__" apos) [e] [] cpos) none epos.line (PySem.W.ksEnv qual scope L f cdv cc) = pure false)
    (hs1 : ∀ L : Addr, swapsWith (.Name n1 q3) (some (.Attribute (.Name n0 q1) f1 q2)) q4.line (PySem.W.ksEnv qual scope L f cdv cc) = pure false)
    (hint : ∀ L : Addr, interactive (PySem.W.ksEnv qual scope L f cdv cc) = false)
    (hstar : ∀ env : Env, starEach [e] env = (false, eval e env) :: starEach [] env) (hd0 : (n0 == ("__debug__" : Str)) = false) (hd1 : (n1 == ("__debug__" : Str)) = false) (hc0 : (n0 == ("__classdict__" : Str)) = false) (hc1 : (n1 == ("__classdict__" : Str)) = false) (k : Nat) :
    FnOk P w K mg base CX (k + 1) f (PySem.W.ksFn "__init__" qual params [.Expr (.Call (.Attribute (.Call (.Name "super" p0) [] [] p1) "__init__" apos) [e] [] cpos) epos, .Assign [.Attribute (.Name n0 q1) f1 q2] (.Name n1 q3) q4] scope dV kV doc pm an cdv ct cc) [n0, n1] (spX C [f1]) := by
  refine fn_sup SC lk hcd S hp (by rw [hself]; rfl) (fun vs H Q E ⟨a, args, e, hl, _⟩ => by rw [e, List.length_cons, hl]; rfl) (fun _ _ => rfl) (fun A outer s H vs Q E hsp => ?_) hev hsw hint hstar
  obtain ⟨a, args, rfl, hl, hok, ea, q⟩ := hsp
  obtain ⟨y, rfl⟩ : ∃ y, args = [y] := by
    match args, hl with
    | [y], _ => exact ⟨y, rfl⟩
  refine ⟨_, _, pa_cons (he A outer s H E) pa_nil (hstar _), pss_one (ps_ost (pe_var (i := 0) rfl (.inl (S.par _ (by simp))) hd0 hc0) (pe_var (i := 1) rfl (.inl (S.par _ (by simp))) hd1 hc1) (hs1 _)), a, rfl, ea, ?_⟩
  refine hm a [y] H _ rfl hok fun w => ?_
  refine ⟨by show 1 ≤ 1000; decide, rfl, ?_⟩
  refine tVar_get (vs := [.ref a, y]) (i := 1) rfl ?_
  refine tVar_get (vs := [.ref a, y]) (i := 0) rfl ?_
  refine ⟨a, C, rfl, SC.T, hf1, .inl ⟨ea, fun dx nd na => ?_⟩⟩
  refine q dx _ nd na upd_same ?_ fun b h1 h2 => ?_
  · rw [upd_ne na, upd_same]; rfl
  · rw [upd_ne h1, upd_ne h2]
/-- two fields -/
theorem init_2 (SC : SupC P K C f cc cdv) (lk : K.lookup f = some ⟨oc, od, .func (PySem.W.ksFn "__init__" qual params [.Expr (.Call (.Attribute (.Call (.Name "super" p0) [] [] p1) "__init__" apos) [e] [] cpos) epos, .Assign [.Attribute (.Name n0 q1) f1 q2] (.Name n1 q3) q4, .Assign [.Attribute (.Name n0 r1) f2 r2] (.Name n2 r3) r4] scope dV kV doc pm an cdv ct cc), osl⟩)
    (hcd : PySem.W.codeIn K cdv qual = true) (S : SupScope [n0, n1, n2] [n0, n1, n2] scope) (hp : (params.posonlyargs ++ params.args).head? = some ar) (hself : ar.arg = n0) (hf1 : PySem.W.findIn K (.ref C) f1 = some none) (hf2 : PySem.W.findIn K (.ref C) f2 = some none)
    (he : ∀ (A : Around) (outer : List Env) (s : Shared) (H : Hp) (E : XK), PE (cxS CX P w K mg base [n0, n1, n2] qual scope f cdv cc A outer s H E) e te) (hm : MsgOk 2 te)
    {pl : Addr → Sem Bool} (hev : ∀ L : Addr, eval (.Call (.Attribute (.Call (.Name "super" p0) [] [] p1) "__init__" apos) [e] [] cpos) (PySem.W.ksEnv qual scope L f cdv cc) = (do
      let ov ← attributeBase (.Call (.Name "super" p0) [] [] p1) "__init__" (PySem.W.ksEnv qual scope L f cdv cc) (eval (.Call (.Name "super" p0) [] [] p1) (PySem.W.ksEnv qual scope L f cdv cc))
      standAt apos.atName
      let (g, first) ← holding [ov] (getMethod ov "__init__" (pl L))
      callWith cpos g first (backTo cpos (starEach [e] (PySem.W.ksEnv qual scope L f cdv cc))) []))
    (hsw : ∀ L : Addr, swapsWith (.Call (.Attribute (.Call (.Name "super" p0) [] [] p1) "__init__" apos) [e] [] cpos) none epos.line (PySem.W.ksEnv qual scope L f cdv cc) = pure false)
    (hs1 : ∀ L : Addr, swapsWith (.Name n1 q3) (some (.Attribute (.Name n0 q1) f1 q2)) q4.line (PySem.W.ksEnv qual scope L f cdv cc) = pure false)
    (hs2 : ∀ L : Addr, swapsWith (.Name n2 r3) (some (.Attribute (.Name n0 r1) f2 r2)) r4.line (PySem.W.ksEnv qual scope L f cdv cc) = pure false)
    (hint : ∀ L : Addr, interactive (PySem.W.ksEnv qual scope L f cdv cc) = false)
    (hstar : ∀ env : Env, starEach [e] env = (false, eval e env) :: starEach [] env) (hd0 : (n0 == ("__debug__" : Str)) = false) (hd1 : (n1 == ("__debug__" : Str)) = false) (hd2 : (n2 == ("__debug__" : Str)) = false) (hc0 : (n0 == ("__classdict__" : Str)) = false) (hc1 : (n1 == ("__classdict__" : Str)) = false) (hc2 : (n2 == ("__classdict__" : Str)) = false) (k : Nat) :
    FnOk P w K mg base CX (k + 1) f (PySem.W.ksFn "__init__" qual params [.Expr (.Call (.Attribute (.Call (.Name "super" p0) [] [] p1) "__init__" apos) [e] [] cpos) epos, .Assign [.Attribute (.Name n0 q1) f1 q2] (.Name n1 q3) q4, .Assign [.Attribute (.Name n0 r1) f2 r2] (.Name n2 r3) r4] scope dV kV doc pm an cdv ct cc) [n0, n1, n2] (spX C [f1, f2]) := by
  refine fn_sup SC lk hcd S hp (by rw [hself]; rfl) (fun vs H Q E ⟨a, args, e, hl, _⟩ => by rw [e, List.length_cons, hl]; rfl) (fun _ _ => rfl) (fun A outer s H vs Q E hsp => ?_) hev hsw hint hstar
  obtain ⟨a, args, rfl, hl, hok, ea, q⟩ := hsp
  obtain ⟨y, z, rfl⟩ : ∃ y z, args = [y, z] := by
    match args, hl with
    | [y, z], _ => exact ⟨y, z, rfl⟩
  refine ⟨_, _, pa_cons (he A outer s H E) pa_nil (hstar _), pss_cons (ps_ost (pe_var (i := 0) rfl (.inl (S.par _ (by simp))) hd0 hc0) (pe_var (i := 1) rfl (.inl (S.par _ (by simp))) hd1 hc1) (hs1 _)) (pss_one (ps_ost (pe_var (i := 0) rfl (.inl (S.par _ (by simp))) hd0 hc0) (pe_var (i := 2) rfl (.inl (S.par _ (by simp))) hd2 hc2) (hs2 _))), a, rfl, ea, ?_⟩
  refine hm a [y, z] H _ rfl hok fun w => ?_
  refine ⟨by show 1 ≤ 1000; decide, rfl, ?_⟩
  unfold tSeq
  unfold tOst
  refine tVar_get (vs := [.ref a, y, z]) (i := 1) rfl ?_
  refine tVar_get (vs := [.ref a, y, z]) (i := 0) rfl ?_
  refine ⟨a, C, rfl, SC.T, hf1, .inl ⟨ea, fun dx nd na => ?_⟩⟩
  dsimp only
  refine tVar_get (vs := [.ref a, y, z]) (i := 2) rfl ?_
  refine tVar_get (vs := [.ref a, y, z]) (i := 0) rfl ?_
  refine ⟨a, C, rfl, SC.T, hf2, .inr ⟨dx, [(f1, y)], upd_same, by rw [upd_ne na, upd_same], by show 1 ≤ 900; decide, ?_⟩⟩
  refine q dx _ nd na ?_ upd_same fun b h1 h2 => ?_
  · rw [upd_ne (Ne.symm na), upd_same]
  · rw [upd_ne h2, upd_ne h1, upd_ne h2]
end
/-! ### messages -/
theorem msg_name : MsgOk 1 (tVar 1) := fun a args H Q hl _ q => by
  match args, hl with
  | [y], _ => exact tVar_get (vs := [.ref a, y]) (i := 1) rfl (q _)
theorem int_len {i : Int} (h : i.natAbs.log2 < 1920) : (Str.ofString (toString i)).length ≤ 1921 := by
  have := PySem.int_text_length_le (k := 1920) (by decide) h
  rw [PySem.ofString_length]; exact this
theorem fmt_ok {i : Nat} {vs : List V} {y : V} (e : vs[i]? = some y) (h : okV y) {H : Hp} {Q : VK} (q : ∀ z : Str, z.length ≤ 10000 → Q (.str z) H) : tFmt (tVar i) (vs.map some) H Q := by
  refine tVar_get e ?_
  cases y with
  | int j => exact .inr ⟨j, rfl, h, q _ (Nat.le_trans (int_len h) (by decide))⟩
  | str z => exact .inl ⟨z, rfl, Nat.le_trans h (by decide), q z h⟩
  | _ => exact h.elim
/-- f'..{p}' -/
theorem msg_f1 {pre : Str} (hp : pre.length ≤ 1000) : MsgOk 1 (fun σ H Q => tJs [tC (.str pre), tFmt (tVar 1)] Str.empty σ H fun out H1 => Q (.str out) H1) := fun a args H Q hl ok q => by
  match args, hl with
  | [y], _ =>
    refine ⟨pre, rfl, by rw [PySem.Str.length_append]; show 0 + _ ≤ _; unfold sizeLine; omega, ?_⟩
    refine fmt_ok (vs := [.ref a, y]) (i := 1) rfl (ok y (by simp)) fun z hz => ?_
    refine ⟨z, rfl, by rw [PySem.Str.length_append, PySem.Str.length_append]; show 0 + _ + _ ≤ _; unfold sizeLine; omega, ?_⟩
    exact q _
/-- f'..{p}..{q}' -/
theorem msg_f2 {pre mid : Str} (hp : pre.length ≤ 1000) (hm : mid.length ≤ 1000) : MsgOk 2 (fun σ H Q => tJs [tC (.str pre), tFmt (tVar 1), tC (.str mid), tFmt (tVar 2)] Str.empty σ H fun out H1 => Q (.str out) H1) := fun a args H Q hl ok q => by
  match args, hl with
  | [y, x], _ =>
    refine ⟨pre, rfl, by rw [PySem.Str.length_append]; show 0 + _ ≤ _; unfold sizeLine; omega, ?_⟩
    refine fmt_ok (vs := [.ref a, y, x]) (i := 1) rfl (ok y (by simp)) fun z hz => ?_
    refine ⟨z, rfl, by rw [PySem.Str.length_append, PySem.Str.length_append]; show 0 + _ + _ ≤ _; unfold sizeLine; omega, ?_⟩
    refine ⟨mid, rfl, by rw [PySem.Str.length_append, PySem.Str.length_append, PySem.Str.length_append]; show 0 + _ + _ + _ ≤ _; unfold sizeLine; omega, ?_⟩
    refine fmt_ok (vs := [.ref a, y, x]) (i := 2) rfl (ok x (by simp)) fun z2 hz2 => ?_
    refine ⟨z2, rfl, by rw [PySem.Str.length_append, PySem.Str.length_append, PySem.Str.length_append, PySem.Str.length_append]; show 0 + _ + _ + _ + _ ≤ _; unfold sizeLine; omega, ?_⟩
    exact q _

/-! ### an own exception class -/
structure ExD (P : Program) (w : World) (K : PySem.W.Frag) (mg : Str → Option Value) (base : Heap) (x : Str) (k : Nat) (fs : List Str) : Prop where
  ex : ∃ (C fI : Addr) (fd : FuncData) (ps : List Str), OexC K C ∧ PySem.W.findIn K (.ref C) "__init__" = some (some (.ref fI)) ∧ PySem.W.typeIn K (.ref fI) = some (.type "function") ∧ FnOk P w K mg base (L2.CX P w) k fI fd ps (spX C fs) ∧ Binds K fd ps [] ∧
    mg x = some (.ref C) ∧ ClsN K x C ∧ XfC K C ∧ ∀ f ∈ fs, PySem.W.findIn K (.ref C) f = some none
def okP : PyData → Prop
  | .int i => i.natAbs.log2 < 1920
  | .str s => s.length ≤ 10000
  | _ => False
theorem okP_V {K : PySem.W.Frag} {S : Hp} {v : V} {x : PyData} (r : Rep K S v x) (h : okP x) : okV v := by
  cases r <;> first | exact h | exact h.elim
theorem RepF.app {K : PySem.W.Frag} {S : Hp} : ∀ {a c : List (Str × V)} {b d : List (Str × PyData)}, RepF K S a b → RepF K S c d → RepF K S (a ++ c) (b ++ d)
  | _, _, _, _, .nil, h => h
  | _, _, _, _, .cons r t, h => .cons r (t.app h)
theorem RepF.rev {K : PySem.W.Frag} {S : Hp} : ∀ {a : List (Str × V)} {b : List (Str × PyData)}, RepF K S a b → RepF K S a.reverse b.reverse
  | _, _, .nil => .nil
  | _, _, .cons r t => by rw [List.reverse_cons, List.reverse_cons]; exact t.rev.app (.cons r .nil)
theorem RepF.zip {K : PySem.W.Frag} {S : Hp} : ∀ {fs : List Str} {vs : List V} {xs : List PyData}, RepL K S vs xs → RepF K S (fs.zip vs) (fs.zip xs)
  | [], _, _, _ => .nil
  | _ :: _, _, _, .nil => .nil
  | _ :: _, _, _, .cons r t => .cons r (RepF.zip t)
theorem RepL.okV {K : PySem.W.Frag} {S : Hp} : ∀ {vs : List V} {xs : List PyData}, RepL K S vs xs → (∀ y ∈ xs, okP y) → ∀ y ∈ vs, okV y
  | _, _, .nil, _, y, hy => by cases hy
  | _, _, .cons r t, h, y, hy => by
    rcases List.mem_cons.mp hy with rfl | hy
    · exact okP_V r (h _ (List.mem_cons_self ..))
    · exact RepL.okV t (fun z hz => h z (List.mem_cons_of_mem _ hz)) y hy
/-- raise x(e, ..) -/
def dRaise (x : Str) (fs : List Str) (u : DA) : DS := fun D Γ O => u Γ O (fun ws O1 => ∃ xs, allD ws = some xs ∧ xs.length = fs.length ∧ fs.length ≤ 1000 ∧ (∀ y ∈ xs, okP y) ∧ D.ex (.fld x (fs.zip xs).reverse) Γ O1) fun y O' => D.ex y Γ O'
section
variable {X : Cx} {Wx : WX} {x : Str} {k : Nat} {fs : List Str} {e : Expr} {es : List Expr} {u : DA} {p pos pos' : Pos}
theorem s_raise (bx : Bx X Wx) (F : ExD X.prog X.w X.K X.mg X.base x k fs) (hr : Room (k + 1) X.A) (ha : PDA X Wx (e :: es) u) (hg : Gl X x := by rfl) (hdb : (x == ("__debug__" : Str)) = false := by decide)
    (he : starEach (e :: es) X.env = (false, eval e X.env) :: starEach es X.env := by rfl) (hpl : (backTo pos (starEach es X.env)).any (·.1) = false := by rfl) : PDS X Wx (.Raise (some (.Call (.Name x p) (e :: es) [] pos)) none pos') (dRaise x fs u) := by
  obtain ⟨C, fI, fd, ps, T, iC, tI, FO, hb, hm, hcl, _, _⟩ := F.ex
  refine (ps_raise bx.calm bx.tk (pmk_oex T iC tI FO hr hb .nil passL hg hm ha hdb he hpl)).imp fun D σ H ⟨Γ, O, S, ρ, D', st, h, ks⟩ => ?_
  refine ⟨Γ, O, S, ρ, _, _, st, h, fun ws O1 S1 ρ1 vs H1 x1 wd1 r1 ⟨xs, ex, hl, hz, hok, q⟩ => ?_, ks.kx st⟩
  have ew := allD_eq ex
  subst ew
  have rl := RelWs.repL r1
  have hvl : vs.length = fs.length := by rw [r1.length, List.length_map, hl]
  refine ⟨by omega, fun a na => ?_⟩
  rw [List.append_nil]
  refine ⟨a, vs, rfl, hvl, RepL.okV rl hok, upd_same, fun d H2 nd ne e1 e2 fr => ?_⟩
  have nd1 : H1 d = none := by rw [← nd, upd_ne ne]
  refine ⟨rfl, d, _, e1, e2, nd1, ?_⟩
  have eH : upd (del H2 a) d (.xd (fs.zip vs).reverse) = upd H1 d (.xd (fs.zip vs).reverse) := by
    funext b
    by_cases hb : b = d
    · rw [hb, upd_same, upd_same]
    · rw [upd_ne hb, upd_ne hb]
      by_cases ha : b = a
      · rw [ha, del_same, na]
      · rw [del_ne ha, fr b ha hb, upd_ne ha]
  rw [eH]
  obtain ⟨wd2, x2⟩ := wd1.lay (u := .xd (fs.zip vs).reverse) nd1
  exact ks.ex _ Γ O1 _ ρ1 σ (.ref C) (some d) _ (x1.trans x2) (st.ext (x1.trans x2) wd2) (.fld hcl upd_same ((RepF.zip rl).rev.sub x2.sub)) q
end

/-! ### try: .. except .. -/
/-- which of the classes told are below the clause's -/
def SubOk (K : PySem.W.Frag) (c : Value) : List (Str × Bool) → Prop
  | [] => True
  | (nm, b) :: r => (∃ C, ClsN K nm C ∧ PySem.W.exmOne K (.ref C) c = some b) ∧ SubOk K c r
theorem SubOk.look {K : PySem.W.Frag} {c : Value} {nm : Str} {b : Bool} {C : Addr} (hC : ClsN K nm C) : ∀ {l : List (Str × Bool)}, SubOk K c l → l.lookup nm = some b → PySem.W.exmOne K (.ref C) c = some b
  | [], _, h => by cases h
  | (n2, b2) :: l, ⟨⟨C2, h1, h2⟩, r⟩, h => by
    rw [List.lookup_cons] at h
    cases hb : (nm == n2) with
    | true =>
      rw [hb] at h
      cases h
      have := eq_of_beq hb
      subst this
      have e : C2 = C := by
        unfold ClsN at hC h1
        rw [hC] at h1
        cases h1; rfl
      rw [← e]; exact h2
    | false =>
      rw [hb] at h
      exact SubOk.look hC r h
def xName : Xc → Str
  | .plain x => x
  | .fld x _ => x
def hEnds (D : DEnds) (i : Nat) : DEnds := { nx := fun Γ' O' => D.nx (Γ'.set i none) O', rt := D.rt, bk := fun Γ' O' => D.bk (Γ'.set i none) O', ct := fun Γ' O' => D.ct (Γ'.set i none) O' }
/-- except c as n -/
def dTryAs (sub : List (Str × Bool)) (i : Nat) (tb : DS) (th : Addr → Addr → DS) : DS := fun D Γ O => tb { D with ex := fun x Γ1 O1 => match sub.lookup (xName x) with
  | some true => match x with
    | .fld _ fs => ∀ a d, th a d (hEnds D i) (Γ1.set i (some (.exc a d fs))) O1
    | .plain _ => False
  | some false => D.ex x Γ1 O1
  | none => False } Γ O
/-- except c -/
def dTry (sub : List (Str × Bool)) (tb th : DS) : DS := fun D Γ O => tb { D with ex := fun x Γ1 O1 => match sub.lookup (xName x) with
  | some true => th { D with ex := fun _ _ _ => False } Γ1 O1
  | some false => D.ex x Γ1 O1
  | none => False } Γ O
section
variable {X : Cx} {Wx : WX} {x n : Str} {c : Value} {i : Nat} {sub : List (Str × Bool)} {body suite : List Stmt} {b₀ : Stmt} {np pos pos' : Pos} {tb : DS}
theorem relX_cls {K : PySem.W.Frag} {S : Hp} {ρ : Nat → Addr} {m : Nat} {H : Hp} {cls : Value} {d : Option Addr} {y : Xc} (r : RelX K S ρ m H cls d y) : ∃ C, cls = .ref C ∧ ClsN K (xName y) C := by
  cases r with
  | plain c => exact ⟨_, rfl, c⟩
  | fld c _ _ => exact ⟨_, rfl, c⟩
theorem s_try_as {th : Addr → Addr → DS} (bx : Bx X Wx) (hs : X.stack = X.env :: X.outer) (hf : X.env.frame = some X.env.locals) (hi : X.N[i]? = some n) (hln : X.env.kindOf n = some .local) (hc : Names X x c) (so : SubOk X.K c sub)
    (hb : ∀ (W : WX) (pn : List (Addr × Obj)) (xe : Value → Shared → Prop), Bx (X.tr pn xe) W → PDSs (X.tr pn xe) W body tb)
    (hsu : ∀ (a d C : Addr) (nm : Str) (oe : Obj) (pn : List (Addr × Obj)), sub.lookup nm = some true → ClsN X.K nm C → Zc (.ref C) (some d) oe → (∃ vs, oe.data = .fields vs) → PDSs (X.suite a ((a, oe) :: pn)) Wx0 (b₀ :: suite) (th a d)) :
    PDS X Wx (.Try body [.ExceptHandler (some (.Name x np)) (some n) (b₀ :: suite) pos'] [] [] pos) (dTryAs sub i tb th) := by
  refine (ps_try_as (i := i) (tb := fun W => iS X.K W tb) (ts := fun a cls d D σ H => ∃ (nm : Str) (C d' : Addr), cls = .ref C ∧ d = some d' ∧ sub.lookup nm = some true ∧ ClsN X.K nm C ∧ iS X.K Wx0 (th a d') D σ H) hs hf bx.nd hi hln hc bx.tk
    (fun W pn xe tk hp => hb W pn xe ⟨tk, bx.calm, hp, bx.nd⟩) (fun a oe cls d pn hz hf2 => ?_)).imp fun D σ H ⟨Γ, O, S, ρ, D', st, h, ks⟩ => ?_
  · refine ⟨fun pins s σ H D I hq => ?_⟩
    obtain ⟨nm, C, d', rfl, rfl, h1, h2, q⟩ := hq
    exact (hsu a d' C nm oe pn h1 h2 hz hf2).run pins s σ H D I q
  · refine ⟨Γ, O, S, ρ, _, st, h, ⟨ks.nx, ks.rt, ks.bk, ks.ct, fun y Γ1 O1 S1 ρ1 σ1 cls dd H1 x1 st1 rx q => ?_⟩⟩
    obtain ⟨C, rfl, hC⟩ := relX_cls rx
    dsimp only at q
    cases hl : sub.lookup (xName y) with
    | none => rw [hl] at q; exact q.elim
    | some b =>
      rw [hl] at q
      refine ⟨b, SubOk.look hC so hl, fun hb a na => ?_, fun hb => ?_⟩
      · subst hb
        dsimp only at q
        cases y with
        | plain z => exact q.elim
        | fld z fs =>
          cases rx with
          | fld hC2 e r =>
            refine ⟨z, _, _, rfl, rfl, hl, hC2, Γ1.set i (some (.exc a _ fs)), O1, S1, ρ1, hEnds D' i, st1.set i (.exc e r), q a _, ?_⟩
            have ks1 := ks.ext x1
            have un : ∀ {Γ' : Gm} {O' : List Ob} {S' : Hp} {ρ' : Nat → Addr} {σ' : L2.St} {H' : Hp}, At X.K S' ρ' H' O' σ' Γ' → At X.K S' ρ' H' O' (σ'.set i none) (Γ'.set i none) := fun {Γ' O' S' ρ' σ' H'} st' => by
              refine ⟨st'.wd, by rw [List.length_set, List.length_set]; exact st'.rs.1, fun j w e => ?_⟩
              by_cases hj : j = i
              · subst hj
                by_cases hl : j < Γ'.length
                · rw [List.getElem?_set_self hl] at e; cases e
                · rw [List.getElem?_eq_none (by rw [List.length_set]; omega)] at e; cases e
              · rw [List.getElem?_set_ne (Ne.symm hj)] at e ⊢
                exact st'.rs.2 j w e
            exact ⟨fun Γ' O' S' ρ' σ' H' x' st' q' => ks1.nx _ _ _ _ _ _ x' (un st') q', ks1.rt, fun Γ' O' S' ρ' σ' H' x' st' q' => ks1.bk _ _ _ _ _ _ x' (un st') q', fun Γ' O' S' ρ' σ' H' x' st' q' => ks1.ct _ _ _ _ _ _ x' (un st') q', fun _ _ _ _ _ _ _ _ _ _ _ _ q' => q'.elim⟩
      · subst hb
        exact ks.ex y Γ1 O1 S1 ρ1 σ1 _ dd H1 x1 st1 rx q
theorem s_try {th : DS} (bx : Bx X Wx) (hs : X.stack = X.env :: X.outer) (hf : X.env.frame = some X.env.locals) (hc : Names X x c) (so : SubOk X.K c sub)
    (hb : ∀ (W : WX) (pn : List (Addr × Obj)) (xe : Value → Shared → Prop), Bx (X.tr pn xe) W → PDSs (X.tr pn xe) W body tb)
    (hsu : ∀ (a : Addr) (oe : Obj) (pn : List (Addr × Obj)), PDSs (X.suite a ((a, oe) :: pn)) Wx0 (b₀ :: suite) th) :
    PDS X Wx (.Try body [.ExceptHandler (some (.Name x np)) none (b₀ :: suite) pos'] [] [] pos) (dTry sub tb th) := by
  refine (ps_try_only (tb := fun W => iS X.K W tb) (ts := fun a cls d => iS X.K Wx0 th) hs hf hc bx.tk
    (fun W pn xe tk hp => hb W pn xe ⟨tk, bx.calm, hp, bx.nd⟩) (fun a oe cls d pn hz hf2 => hsu a oe pn)).imp fun D σ H ⟨Γ, O, S, ρ, D', st, h, ks⟩ => ?_
  refine ⟨Γ, O, S, ρ, _, st, h, ⟨ks.nx, ks.rt, ks.bk, ks.ct, fun y Γ1 O1 S1 ρ1 σ1 cls dd H1 x1 st1 rx q => ?_⟩⟩
  obtain ⟨C, rfl, hC⟩ := relX_cls rx
  dsimp only at q
  cases hl : sub.lookup (xName y) with
  | none => rw [hl] at q; exact q.elim
  | some b =>
    rw [hl] at q
    refine ⟨b, SubOk.look hC so hl, fun hb a na => ?_, fun hb => ?_⟩
    · subst hb
      have ks1 := ks.ext x1
      exact ⟨Γ1, O1, S1, ρ1, _, st1, q, ⟨ks1.nx, ks1.rt, ks1.bk, ks1.ct, fun _ _ _ _ _ _ _ _ _ _ _ _ q' => q'.elim⟩⟩
    · subst hb
      exact ks.ex y Γ1 O1 S1 ρ1 σ1 _ dd H1 x1 st1 rx q
/-- e.f, e the exception caught -/
def dXf (a d : Addr) (f : Str) (te : DE) : DE := fun Γ O Q E => te Γ O (fun w O1 => match w with
  | .exc a' d' fs => a' = a ∧ d' = d ∧ ∃ y, fs.lookup f = some y ∧ Q (.d y) O1
  | _ => False) E
theorem d_xf {P : Program} {w : World} {mg : Str → Option Value} {base : Heap} {k : Nat} {fs : List Str} {a d C : Addr} {nm f : Str} {oe : Obj} {pn : List (Addr × Obj)} {e : Expr} {te : DE} (F : ExD P w X.K mg base nm k fs) (hC : ClsN X.K nm C) (hm : f ∈ fs) (hz : Zc (.ref C) (some d) oe) (hf : ∃ vs, oe.data = .fields vs)
    (he : PDE (X.suite a ((a, oe) :: pn)) Wx e te) (hb : attributeBase e f X.env (eval e X.env) = eval e X.env := by rfl) : PDE (X.suite a ((a, oe) :: pn)) Wx (.Attribute e f pos) (dXf a d f te) := by
  obtain ⟨C2, fI, fd, ps, _, _, _, _, _, _, hC2, T, hno⟩ := F.ex
  have eC : C2 = C := by
    unfold ClsN at hC hC2
    rw [hC] at hC2
    cases hC2; rfl
  subst eC
  refine (pe_xf T (hno f hm) hz hf he hb).imp fun σ H Q ⟨Γ, O, S, ρ, Q', E', st, h, kq, kx⟩ => ⟨Γ, O, S, ρ, _, E', st, h, fun w1 O1 S1 ρ1 v1 H1 x1 wd1 r1 h1 => ?_, kx⟩
  dsimp only at h1
  split at h1
  · obtain ⟨rfl, rfl, y, hl, q⟩ := h1
    cases r1 with
    | exc e r =>
      obtain ⟨u, hu, ru⟩ := r.look hl
      exact ⟨rfl, rfl, _, _, u, rfl, wd1.sub _ _ e, hu, kq _ O1 S1 ρ1 u H1 x1 wd1 (.d ru) q⟩
  · exact h1.elim
end

/-! ### classes without an initialiser of their own -/
structure ExP (K : PySem.W.Frag) (mg : Str → Option Value) (x : Str) : Prop where
  ex : ∃ C : Addr, PySem.W.excIn K C [.type "ValueError", .type "Exception", .type "BaseException", .type "object"] "ValueError.__new__" = true ∧ mg x = some (.ref C) ∧ ClsN K x C ∧ PySem.W.keepIn K (.ref C) = true ∧ PySem.W.subIn K (.ref C) (.type "BaseException") = some true ∧ PySem.W.typeIn K (.ref C) = some (.type "type")
section
variable {X : Cx} {C : Addr} {bmB : List Value} {B newId initId : String}
theorem pmk_own0 {x : Str} {p pos : Pos} (F : ExcBaseFacts B newId initId bmB) (q : PySem.W.excIn X.K C bmB newId = true) (gC : X.mg x = some (.ref C)) (kC : PySem.W.keepIn X.K (.ref C) = true) (r : Raises X (.ref C)) (hg : Gl X x)
    (hdb : (x == ("__debug__" : Str)) = false := by decide) : PMk X (.Call (.Name x p) [] [] pos) (fun _ H Q => Q (.ref C) none H) := by
  intro pins s σ H Q I h
  refine wpAny_Call_Name_kw (ld_glob I hg gC ?_ hdb)
  refine PySem.W.callWith_K0 I.kIn kC ?_
  show wpAny _ _ (call (.ref C) []) _ _ _
  obtain ⟨bm, N, nm, qn, bs, hdct, sn, sub, ab, col, dd, k0, k1, k2, k3, k5, mN, hC, hN, hni, T⟩ := exc_obj I.kIn q
  refine wpAny_call_exc_subT F T hC hN hni (fun h' e hm => ?_) (by show 0 ≤ sizeLine; rw [sizeLine_eq]; omega)
  exact mk_of I hm r h (I.hok.gone hm.new)
end
/-- raise x() -/
def dRaise0 (x : Str) : DS := fun D Γ O => D.ex (.plain x) Γ O
theorem s_raise0 {X : Cx} {Wx : WX} {x : Str} {p pos pos' : Pos} (bx : Bx X Wx) (F : ExP X.K X.mg x) (hg : Gl X x := by rfl) (hdb : (x == ("__debug__" : Str)) = false := by decide) : PDS X Wx (.Raise (some (.Call (.Name x p) [] [] pos)) none pos') (dRaise0 x) := by
  obtain ⟨C, q, hm, hC, kC, h1, h2⟩ := F.ex
  refine (ps_raise bx.calm bx.tk (pmk_own0 PySem.F.excBase_ValueError q hm kC (raises_own h1 h2) hg hdb)).imp fun D σ H ⟨Γ, O, S, ρ, D', st, h, ks⟩ => ?_
  exact ks.ex _ Γ O S ρ σ (.ref C) none H .refl st (.plain hC) h
end UZ
/-! UZ, part I: dicts with whole numbers or texts as keys. -/
namespace UZ
open PySem PySem.Spec PyProof.Rows L2
def kO : PyData → Option Key
  | .int i => some (.inl i)
  | .str s => some (.inr s)
  | _ => none
def dkL : List (PyData × PyData) → Option (List (Key × W))
  | [] => some []
  | (k, x) :: r => match kO k with
    | some k => match dkL r with
      | some l => some ((k, .d x) :: l)
      | none => none
    | none => none
/-- the pairs of a dict: one of our own, or one never written again (not an empty one) -/
def dv (O : List Ob) : W → Option (List (Key × W))
  | .o k => match O[k]? with
    | some (.dK ws) => some ws
    | _ => none
  | .d (.dict (p :: ds)) => dkL (p :: ds)
  | _ => none
def keyW : W → Option Key
  | .d x => kO x
  | _ => none
/-- the value told under k; a pair put in its place or at the end -/
def lkW {κ β : Type} [DecidableEq κ] (l : List (κ × β)) (k : κ) : Option β := (l.find? fun kv => decide (kv.1 = k)).map (·.2)
def ptW {κ β : Type} [DecidableEq κ] (l : List (κ × β)) (k : κ) (v : β) : List (κ × β) :=
  if (l.any fun kv => decide (kv.1 = k)) = true then l.map (fun kv => if kv.1 = k then (kv.1, v) else kv) else l ++ [(k, v)]
section
variable {κ β : Type} [DecidableEq κ]
theorem lkW_pos {p : κ × β} {r : List (κ × β)} {k : κ} (e : p.1 = k) : lkW (p :: r) k = some p.2 := by simp [lkW, List.find?_cons, e]
theorem lkW_neg {p : κ × β} {r : List (κ × β)} {k : κ} (e : ¬ p.1 = k) : lkW (p :: r) k = lkW r k := by simp [lkW, List.find?_cons, e]
end
section
variable {K : PySem.W.Frag} {S : Hp} {ρ : Nat → Addr} {n : Nat} {H : Hp} {O : List Ob}
theorem keyW_inv {v : V} {w : W} {k : Key} (h : keyW w = some k) (r : RelW K S ρ n v w) : v = kV k := by
  cases r with
  | d r => cases r <;> first | (cases h; rfl) | cases h
  | _ => cases h
theorem RepK.relF : ∀ {kvs : List (Key × V)} {ds : List (PyData × PyData)} {ws : List (Key × W)}, RepK K S kvs ds → dkL ds = some ws → RelF K S ρ n kvs ws
  | _, [], ws, .nil, h => by cases h; exact .nil
  | (k, v) :: kvs, (_, d) :: ds, ws, .cons r t, h => by
    unfold dkL at h
    have e : kO (keyD k) = some k := by cases k <;> rfl
    rw [e] at h
    dsimp only at h
    split at h
    · rename_i l hl
      cases h
      exact .cons (.d r) (RepK.relF t hl)
    · cases h
theorem dv_inv {v : V} {w : W} {ws : List (Key × W)} (wd : Wd K S ρ O H) (h : dv O w = some ws) (r : RelW K S ρ O.length v w) : ∃ a kvs, v = .ref a ∧ H a = some (.dK kvs) ∧ RelF K S ρ O.length kvs ws := by
  unfold dv at h
  split at h
  · rename_i k
    split at h
    · rename_i ws' e
      cases h
      cases r with
      | o hk z =>
        subst z
        cases wd.own _ _ e with
        | dK h r => exact ⟨_, _, rfl, h, r⟩
    · cases h
  · rename_i p ds
    cases r with
    | d r =>
      cases r with
      | dK e r => exact ⟨_, _, rfl, wd.sub _ _ e, r.relF h⟩
      | dT e r =>
        cases r with
        | cons r t => cases h
  · cases h
theorem RelF.val {κ : Type} [DecidableEq κ] {k : κ} : ∀ {kvs : List (κ × V)} {ws : List (κ × W)}, RelF K S ρ n kvs ws → (∀ w, lkW ws k = some w → ∃ v, valV kvs k = some v ∧ RelW K S ρ n v w) ∧ (lkW ws k = none → valV kvs k = none)
  | _, _, .nil => ⟨fun w h => (by cases h), fun _ => rfl⟩
  | (k', v) :: kvs, (_, w) :: ws, .cons r t => by
    by_cases e : k' = k
    · refine ⟨fun w' h => ?_, fun h => ?_⟩
      · rw [lkW_pos (p := (k', w)) e] at h
        cases h
        exact ⟨v, valV_pos (p := (k', v)) e, r⟩
      · rw [lkW_pos (p := (k', w)) e] at h
        cases h
    · have ih := RelF.val (k := k) t
      refine ⟨fun w' h => ?_, fun h => ?_⟩
      · rw [lkW_neg (p := (k', w)) e] at h
        rw [valV_neg (p := (k', v)) e]
        exact ih.1 w' h
      · rw [lkW_neg (p := (k', w)) e] at h
        rw [valV_neg (p := (k', v)) e]
        exact ih.2 h
theorem RelF.keys {κ : Type} : ∀ {kvs : List (κ × V)} {ws : List (κ × W)}, RelF K S ρ n kvs ws → kvs.map (·.1) = ws.map (·.1)
  | _, _, .nil => rfl
  | _, _, .cons _ t => by rw [List.map_cons, List.map_cons, t.keys]
theorem RelF.len {κ : Type} : ∀ {kvs : List (κ × V)} {ws : List (κ × W)}, RelF K S ρ n kvs ws → kvs.length = ws.length
  | _, _, .nil => rfl
  | _, _, .cons _ t => by rw [List.length_cons, List.length_cons, t.len]
theorem RelF.snoc {κ : Type} {k : κ} {v : V} {w : W} (r : RelW K S ρ n v w) : ∀ {kvs : List (κ × V)} {ws : List (κ × W)}, RelF K S ρ n kvs ws → RelF K S ρ n (kvs ++ [(k, v)]) (ws ++ [(k, w)])
  | _, _, .nil => .cons r .nil
  | _, _, .cons q t => .cons q (t.snoc r)
theorem RelF.put {κ : Type} [DecidableEq κ] {k : κ} {v : V} {w : W} (r : RelW K S ρ n v w) {kvs : List (κ × V)} {ws : List (κ × W)} (f : RelF K S ρ n kvs ws) : RelF K S ρ n (putK kvs k v) (ptW ws k w) := by
  have mp : ∀ {kvs : List (κ × V)} {ws : List (κ × W)}, RelF K S ρ n kvs ws → RelF K S ρ n (kvs.map fun kv => if kv.1 = k then (kv.1, v) else kv) (ws.map fun kv => if kv.1 = k then (kv.1, w) else kv) := by
    intro kvs ws f
    induction f with
    | nil => exact .nil
    | @cons k' v' _ w' _ q t ih =>
      rw [List.map_cons, List.map_cons]
      by_cases e : k' = k
      · rw [if_pos e, if_pos e]; exact .cons r ih
      · rw [if_neg e, if_neg e]; exact .cons q ih
  have ea : (kvs.any fun kv => decide (kv.1 = k)) = (ws.any fun kv => decide (kv.1 = k)) := by
    have a1 : (kvs.any fun kv => decide (kv.1 = k)) = ((kvs.map (·.1)).any fun x => decide (x = k)) := by rw [List.any_map]; rfl
    have a2 : (ws.any fun kv => decide (kv.1 = k)) = ((ws.map (·.1)).any fun x => decide (x = k)) := by rw [List.any_map]; rfl
    rw [a1, a2, f.keys]
  unfold putK ptW
  rw [ea]
  split
  · exact mp f
  · exact f.snoc r
end
/-! ### d[k], d.get(k, x), len(d), sorted(d) -/
section
variable {X : Cx} {Wx : WX} {o i f : Expr} {to ti tf : DE} {pos apos cpos : Pos}
def dDG (to ti : DE) : DE := fun Γ O Q E => to Γ O (fun x O1 => ti Γ O1 (fun y O2 => ∃ ws k w, dv O2 x = some ws ∧ keyW y = some k ∧ lkW ws k = some w ∧ Q w O2) E) E
theorem d_dget (hu : X.A.units + 1 < cLine) (hs : NoSl i) (ho : PDE X Wx o to) (hi : PDE X Wx i ti) : PDE X Wx (.Subscript o i pos) (dDG to ti) :=
  (pe_dget hu ho hi hs).imp fun σ H Q ⟨Γ, O, S, ρ, Q', E', st, h, kq, kx⟩ => by
    refine ⟨Γ, O, S, ρ, _, E', st, h, fun w1 O1 S1 ρ1 v1 H1 x1 wd1 r1 h1 => ?_, kx⟩
    refine ⟨Γ, O1, S1, ρ1, _, E', st.ext x1 wd1, h1, fun w2 O2 S2 ρ2 v2 H2 x2 wd2 r2 ⟨ws, k, w, e1, e2, e3, h2⟩ => ?_, kx.ext x1⟩
    obtain ⟨a, kvs, rfl, hd, rf⟩ := dv_inv wd2 e1 (r1.ext x2)
    have := keyW_inv e2 r2
    subst this
    obtain ⟨v, hv, rv⟩ := rf.val.1 w e3
    exact ⟨a, v, rfl, by rw [← hv]; exact DGet.k hd, kq w O2 S2 ρ2 v H2 (x1.trans x2) wd2 rv h2⟩
def dGet2 (to ti tf : DE) : DE := fun Γ O Q E => to Γ O (fun x O1 => (dv O1 x).isSome = true ∧ ti Γ O1 (fun y O2 => tf Γ O2 (fun z O3 => ∃ ws k, dv O3 x = some ws ∧ keyW y = some k ∧ Q ((lkW ws k).getD z) O3) E) E) E
theorem d_get2 (hu : X.A.units + 1 < cLine) (ho : PDE X Wx o to) (hi : PDE X Wx i ti) (hf : PDE X Wx f tf) (m : M2 X o "get" apos i f cpos) : PDE X Wx (.Call (.Attribute o "get" apos) [i, f] [] cpos) (dGet2 to ti tf) :=
  (pe_dget2 hu ho hi hf m).imp fun σ H Q ⟨Γ, O, S, ρ, Q', E', st, h, kq, kx⟩ => by
    refine ⟨Γ, O, S, ρ, _, E', st, h, fun w1 O1 S1 ρ1 v1 H1 x1 wd1 r1 ⟨h0, h1⟩ => ?_, kx⟩
    obtain ⟨ws0, e0⟩ := Option.isSome_iff_exists.mp h0
    obtain ⟨a0, kvs0, ea0, hd0, _⟩ := dv_inv wd1 e0 r1
    refine ⟨a0, ea0, .inl ⟨kvs0, .inl hd0⟩, ?_⟩
    refine ⟨Γ, O1, S1, ρ1, _, E', st.ext x1 wd1, h1, fun w2 O2 S2 ρ2 v2 H2 x2 wd2 r2 h2 => ?_, kx.ext x1⟩
    refine ⟨Γ, O2, S2, ρ2, _, E', st.ext (x1.trans x2) wd2, h2, fun w3 O3 S3 ρ3 v3 H3 x3 wd3 r3 ⟨ws, k, e1, e2, h3⟩ => ?_, kx.ext (x1.trans x2)⟩
    obtain ⟨a, kvs, ea, hd, rf⟩ := dv_inv wd3 e1 ((r1.ext x2).ext x3)
    rw [ea0] at ea
    cases ea
    have := keyW_inv e2 (r2.ext x3)
    subst this
    refine ⟨_, DGet.k hd, ?_⟩
    have xx := (x1.trans x2).trans x3
    cases hv : lkW ws k with
    | none =>
      rw [hv] at h3
      rw [rf.val.2 hv]
      exact kq _ O3 S3 ρ3 v3 H3 xx wd3 r3 h3
    | some w =>
      rw [hv] at h3
      obtain ⟨v, hv2, rv⟩ := rf.val.1 w hv
      rw [hv2]
      exact kq _ O3 S3 ρ3 v H3 xx wd3 rv h3
end
/-- {}, to be written -/
def dNewD : DE := fun _ O Q _ => Q (.o O.length) (O ++ [.dK []])
def fSortD : FC := fun ws O Q => ∃ x kws ks, ws = [x] ∧ dv O x = some kws ∧ kws.map (·.1) = ks.map Sum.inr ∧ ks.length < 64 ∧ ∀ ys : List Str, ys.Perm ks → sortedS ys = true → Q (.d (.list (ys.map .str))) O
section
variable {X : Cx} {Wx : WX}
theorem c_sortD (hc : X.calm = true) : CallD X (.builtin "sorted") fSortD := (call_sortedD hc).imp fun xs H Q ⟨ws, O, S, ρ, Q', wd, r, ⟨x, kws, ks, e, e1, e2, e3, q⟩, kq⟩ => by
  subst e
  cases r with
  | cons r rr =>
    cases rr
    obtain ⟨a, kvs, rfl, hd, rf⟩ := dv_inv wd e1 r
    refine ⟨a, kvs, ks, rfl, .inl hd, by rw [rf.keys, e2], e3, fun ys p h1 h2 np => ?_⟩
    have rl : ∀ ys : List Str, RelWs X.K S ρ O.length (ys.map V.str) ((ys.map PyData.str).map .d) := fun ys => by
      induction ys with
      | nil => exact .nil
      | cons y ys ih => exact .cons (.d (.str y)) ih
    exact kq.newL wd np (rl ys) (allD_map _) (q ys h1 h2)
end

/-! ### {}, d[k] = x, {k: x, ..} -/
section
variable {X : Cx} {Wx : WX} {o i value : Expr} {to ti tv : DE} {pos pos' : Pos}
theorem d_newD : PDE X Wx (.Dict [] [] pos) dNewD :=
  pe_dnewK.imp fun σ H Q ⟨Γ, O, S, ρ, Q', E', st, h, kq, kx⟩ p np => by
    obtain ⟨w1, x1⟩ := st.wd.push (u := .dK []) (ob := .dK []) np (.dK upd_same .nil)
    exact kq _ _ _ _ _ _ x1 w1 (.o (by simp) (by rw [rhoP_eq])) h
/-- d[k] = x, d a dict of our own -/
def dPut (to ti tv : DE) : DS := fun D Γ O => tv Γ O (fun v O1 => to Γ O1 (fun x O2 => ti Γ O2 (fun y O3 => ∃ m ws k, x = .o m ∧ O3[m]? = some (.dK ws) ∧ keyW y = some k ∧ ws.length < sizeLine ∧ D.nx Γ (O3.set m (.dK (ptW ws k v)))) fun x O' => D.ex x Γ O') fun x O' => D.ex x Γ O') fun x O' => D.ex x Γ O'
theorem s_dput (hu : X.A.units + 1 < cLine) (ho : PDE X Wx o to) (hi : PDE X Wx i ti) (hv : PDE X Wx value tv) (hs : swapsWith value (some (.Subscript o i pos')) pos.line X.env = pure false := by rfl) :
    PDS X Wx (.Assign [.Subscript o i pos'] value pos) (dPut to ti tv) :=
  (ps_dput hu ho hi hv hs).imp fun D σ H ⟨Γ, O, S, ρ, D', st, h, ks⟩ => by
    refine ⟨Γ, O, S, ρ, _, _, st, h, fun w1 O1 S1 ρ1 v1 H1 x1 wd1 r1 h1 => ?_, ks.kx st⟩
    refine ⟨Γ, O1, S1, ρ1, _, _, st.ext x1 wd1, h1, fun w2 O2 S2 ρ2 v2 H2 x2 wd2 r2 h2 => ?_, (ks.ext x1).kx (st.ext x1 wd1)⟩
    have x12 := x1.trans x2
    refine ⟨Γ, O2, S2, ρ2, _, _, st.ext x12 wd2, h2, fun w3 O3 S3 ρ3 v3 H3 x3 wd3 r3 ⟨m, ws, k, e1, e2, e3, hl, h3⟩ => ?_, (ks.ext x12).kx (st.ext x12 wd2)⟩
    subst e1
    have r2' := r2.ext x3
    cases r2' with
    | o hk z =>
      subst z
      have q := wd3.own m _ e2
      cases q with
      | @dK kvs _ hH rf =>
        have := keyW_inv e3 r3
        subst this
        have rv := (r1.ext x2).ext x3
        obtain ⟨w4, x4⟩ := wd3.write (u := .dK (putK kvs k v1)) (ob' := .dK (ptW ws k w1)) e2 (fun z => nomatch z) (.dK upd_same (rf.put rv))
        exact ⟨_, _, rfl, .inl ⟨kvs, k, hH, rfl, by rw [rf.len]; exact hl, rfl⟩, ks.nx Γ _ _ _ _ _ ((x12.trans x3).trans x4) (st.ext ((x12.trans x3).trans x4) w4) h3⟩
end
section
variable {K : PySem.W.Frag} {S : Hp} {ρ : Nat → Addr} {H : Hp} {O : List Ob}
theorem Wd.side {D : Addr} {u : HO} (wd : Wd K S ρ O H) (nD : H D = none) : Wd K S ρ O (upd H D u) ∧ Ext S ρ O.length H S ρ O.length (upd H D u) ∧ S D = none ∧ ∀ k, k < O.length → ρ k ≠ D := by
  have nS : S D = none := by
    cases e : S D with
    | none => rfl
    | some o => rw [wd.sub D o e] at nD; cases nD
  have ne : ∀ a o, H a = some o → a ≠ D := fun a o h z => by rw [z, nD] at h; cases h
  have nO : ∀ k, k < O.length → ρ k ≠ D := fun k hk z => by
    obtain ⟨o, q⟩ := wd.th k hk
    rw [z, nD] at q; cases q
  refine ⟨⟨fun a o h => by rw [upd_ne (ne a o (wd.sub a o h))]; exact wd.sub a o h, fun k ob e => (wd.own k ob e).at fun o q => by rw [upd_ne (nO k (Wd.lt e))]; exact q, wd.sep, wd.inj, fun k hk => ?_⟩,
    ⟨Nat.le_refl _, .refl _, fun _ _ => rfl, fun k h1 h2 => by omega, fun a o h => ⟨o, by rw [upd_ne (ne a o h)]; exact h⟩, fun a o h _ => by rw [upd_ne (ne a o h)]; exact h, fun a o h hs _ => hs⟩, nS, nO⟩
  obtain ⟨o, h⟩ := wd.th k hk
  exact ⟨o, by rw [upd_ne (nO k hk)]; exact h⟩
theorem Ext.away {S1 : Hp} {ρ1 : Nat → Addr} {n n1 : Nat} {H1 : Hp} {D : Addr} {u : HO} (x : Ext S ρ n H S1 ρ1 n1 H1) (hD : H D = some u) (nS : S D = none) (nO : ∀ k, k < n → ρ k ≠ D) : H1 D = some u ∧ S1 D = none ∧ ∀ k, k < n1 → ρ1 k ≠ D := by
  refine ⟨x.frame D _ hD nO, x.sfr D _ hD nS nO, fun k hk => ?_⟩
  by_cases hk2 : k < n
  · rw [x.rho k hk2]; exact nO k hk2
  · intro z
    have q := x.new k (Nat.le_of_not_lt hk2) hk
    rw [z, hD] at q; cases q
end
/-- pairs of data, the keys one after the other -/
def dPrs : List (DE × DE) → Gm → List Ob → (List (Key × PyData) → List Ob → Prop) → DX → Prop
  | [], _, O, Q, _ => Q [] O
  | (tk, tv) :: r, Γ, O, Q, E => tk Γ O (fun y O1 => tv Γ O1 (fun z O2 => ∃ k x, keyW y = some k ∧ z = .d x ∧ dPrs r Γ O2 (fun ps O3 => Q ((k, x) :: ps) O3) E) E) E
def dDisp (ds : List (DE × DE)) : DE := fun Γ O Q E => dPrs ds Γ O (fun ps O1 => ps.length ≤ 15 ∧ (ps.map (·.1)).Nodup ∧ ps ≠ [] ∧ Q (.d (.dict (ps.map fun p => (keyD p.1, p.2)))) O1) E
section
variable {X : Cx} {Wx : WX} {p : Addr} {σ : L2.St} {Γ : Gm} {E' : DX}
theorem prs_run : ∀ (ds : List (DE × DE)) (O1 : List Ob) (S1 : Hp) (ρ1 : Nat → Addr) (H1 : Hp) (R : List (Key × PyData) → List Ob → Prop) (Q2 : List (V × V) → Hp → Prop), At X.K S1 ρ1 H1 O1 σ Γ → H1 p = some (.dK []) → S1 p = none → (∀ k, k < O1.length → ρ1 k ≠ p) →
    dPrs ds Γ O1 R E' → KX X.K S1 ρ1 O1.length H1 σ E' Wx →
    (∀ ps O2 S2 ρ2 kvs H2, Ext S1 ρ1 O1.length H1 S2 ρ2 O2.length H2 → Wd X.K S2 ρ2 O2 H2 → H2 p = some (.dK []) → S2 p = none → (∀ k, k < O2.length → ρ2 k ≠ p) → RepK X.K S2 kvs (ps.map fun p => (keyD p.1, p.2)) → R ps O2 → kvs.map (·.1) = ps.map (·.1) → Q2 (kvs.map fun kv => (kV kv.1, kv.2)) H2) →
    tPairs (ds.map fun d => (iE X.K Wx d.1, iE X.K Wx d.2)) σ H1 Q2
  | [], O1, S1, ρ1, H1, R, Q2, st, hp, nS, nO, h, kx, k => k [] O1 S1 ρ1 [] H1 .refl st.wd hp nS nO .nil h rfl
  | (tk, tv) :: ds, O1, S1, ρ1, H1, R, Q2, st, hp, nS, nO, h, kx, k => by
    refine ⟨Γ, O1, S1, ρ1, _, E', st, h, fun w1 O2 S2 ρ2 v1 H2 x1 wd1 r1 h1 => ?_, kx⟩
    refine ⟨Γ, O2, S2, ρ2, _, E', st.ext x1 wd1, h1, fun w2 O3 S3 ρ3 v2 H3 x2 wd2 r2 ⟨ky, x, e1, e2, h2⟩ => ?_, kx.ext x1⟩
    subst e2
    have := keyW_inv e1 (r1.ext x2)
    subst this
    have x12 := x1.trans x2
    obtain ⟨hp3, nS3, nO3⟩ := x12.away hp nS nO
    refine prs_run ds O3 S3 ρ3 H3 _ _ (st.ext x12 wd2) hp3 nS3 nO3 h2 (kx.ext x12) fun ps O4 S4 ρ4 kvs H4 x3 wd4 hp4 nS4 nO4 rk hR hk => ?_
    have r2' := r2.ext x3
    cases r2' with
    | d rd => exact k ((ky, x) :: ps) O4 S4 ρ4 ((ky, v2) :: kvs) H4 (x12.trans x3) wd4 hp4 nS4 nO4 (.cons rd rk) hR (by rw [List.map_cons, List.map_cons, hk])
theorem putK_new {k : Key} {v : V} {l : List (Key × V)} (h : k ∉ l.map (·.1)) : putK l k v = l ++ [(k, v)] := by
  unfold putK
  rw [if_neg]
  intro z
  rw [List.any_eq_true] at z
  obtain ⟨kv, h1, h2⟩ := z
  exact h (List.mem_map.mpr ⟨kv, h1, of_decide_eq_true h2⟩)
theorem merge_nodup : ∀ (l acc : List (Key × V)), ((acc ++ l).map (·.1)).Nodup → mergeK acc l = acc ++ l
  | [], acc, _ => by rw [List.append_nil]; rfl
  | (k, v) :: l, acc, h => by
    have hk : k ∉ acc.map (·.1) := by
      rw [List.map_append, List.map_cons] at h
      intro z
      exact (List.nodup_append.mp h).2.2 k z k (List.mem_cons_self ..) rfl
    show mergeK (putK acc k v) l = _
    rw [putK_new hk, merge_nodup l (acc ++ [(k, v)]) (by rw [List.append_assoc]; exact h), List.append_assoc]
    rfl
theorem d_disp {pos : Pos} {keys : List (Option Expr)} {values : List Expr} {ds : List (DE × DE)} (h : PPs X pos keys values (ds.map fun d => (iE X.K Wx d.1, iE X.K Wx d.2))) (hall : keys.all (·.isSome) = true := by rfl) (hl : keys.length = values.length := by rfl) (h0 : keys ≠ [] := by simp)
    (h15 : keys.length ≤ 15 := by decide) : PDE X Wx (.Dict keys values pos) (dDisp ds) :=
  (pe_disp h hall hl h0 h15).imp fun σ H Q ⟨Γ, O, S, ρ, Q', E', st, h, kq, kx⟩ p np => by
    obtain ⟨wd1, x1, nS, nO⟩ := st.wd.side (u := .dK []) np
    refine prs_run ds O S ρ _ _ _ (st.ext x1 wd1) upd_same nS nO h (kx.ext x1) fun ps O2 S2 ρ2 kvs H2 x2 wd2 hp2 nS2 nO2 rk ⟨hl, hn, hne, q⟩ hk => ?_
    have hkl : kvs.length = ps.length := by
      have := congrArg List.length hk
      rw [List.length_map, List.length_map] at this
      exact this
    refine ⟨hp2, kvs, rfl, by omega, ?_⟩
    have em : mergeK [] kvs = kvs := merge_nodup kvs [] (by rw [List.nil_append, hk]; exact hn)
    rw [em]
    have nSp : ∀ a o, S a = some o → a ≠ p := fun a o e z => by
      have := st.wd.sub a o e
      rw [z, np] at this; cases this
    have nHp : ∀ a o, H a = some o → a ≠ p := fun a o e z => by rw [z, np] at e; cases e
    have x12 := x1.trans x2
    have wd3 : Wd X.K (upd S2 p (.dK kvs)) ρ2 O2 (upd H2 p (.dK kvs)) := by
      refine ⟨fun a o e => ?_, fun k ob e => ?_, fun k ob e hd => ?_, wd2.inj, fun k hk => ?_⟩
      · by_cases z : a = p
        · rw [z, upd_same] at e ⊢; exact e
        · rw [upd_ne z] at e ⊢; exact wd2.sub a o e
      · refine ((wd2.own k ob e).at fun o q => by rw [upd_ne (nO2 k (Wd.lt e))]; exact q).mono (fun a o h => ?_) (fun _ _ => rfl) (Nat.le_refl _)
        rw [upd_ne (fun z => by rw [z, nS2] at h; cases h)]; exact h
      · rw [upd_ne (nO2 k (Wd.lt e))]; exact wd2.sep k ob e hd
      · obtain ⟨o, h⟩ := wd2.th k hk
        exact ⟨o, by rw [upd_ne (nO2 k hk)]; exact h⟩
    have sub2 : SubH S2 (upd S2 p (.dK kvs)) := fun a o e => by
      rw [upd_ne (fun z => by rw [z, nS2] at e; cases e)]; exact e
    have x3 : Ext S ρ O.length H (upd S2 p (.dK kvs)) ρ2 O2.length (upd H2 p (.dK kvs)) :=
      ⟨x12.le, x12.sub.trans sub2, x12.rho, x12.new, fun a o e => by
        obtain ⟨o', e'⟩ := x12.dom a o e
        exact ⟨o', by rw [upd_ne (nHp a o e)]; exact e'⟩, fun a o e hk => by rw [upd_ne (nHp a o e)]; exact x12.frame a o e hk, fun a o e h1 h2 => by rw [upd_ne (nHp a o e)]; exact x12.sfr a o e h1 h2⟩
    have rk3 : RepK X.K (upd S2 p (.dK kvs)) kvs (ps.map fun p => (keyD p.1, p.2)) := rk.sub sub2
    exact kq _ O2 _ ρ2 _ _ x3 wd3 (.d (.dK upd_same rk3)) q
end
end UZ
/-! UZ, part C: calls of a function out of a list of functions. -/
namespace UZ
open PySem PySem.Spec PyProof.Rows L2
section
variable {X : Cx} {Wx : WX} {e L i : Expr} {es : List Expr} {tf : DE} {u : DA} {x : Str} {p q pos : Pos}
/-- a def of the module as a value -/
def dGl (x : Str) : DE := fun _ O Q _ => Q (.gl x) O
theorem d_gl {f : Addr} (hm : X.mg x = some (.ref f)) (hc : ClsN X.K x f) (hg : Gl X x := by rfl) (hd : (x == ("__debug__" : Str)) = false := by decide) : PDE X Wx (.Name x pos) (dGl x) :=
  (pe_glob hg hm (v := .ref f) rfl hd).imp fun σ H Q ⟨Γ, O, S, ρ, Q', E', st, h, kq, kx⟩ => kq _ O S ρ _ H .refl st.wd (.gl hc) h
/-- the defs that a value may name, with their promises -/
def Fns (P : Program) (w : World) (K : PySem.W.Frag) (mg : Str → Option Value) (base : Heap) (k : Nat) : List (Str × DSp) → Prop
  | [] => True
  | (x, sp) :: r => (∃ ps, FnD P w K mg base x k ps sp) ∧ Fns P w K mg base k r
theorem Fns.get {P : Program} {w : World} {K : PySem.W.Frag} {mg : Str → Option Value} {base : Heap} {k : Nat} {x : Str} {sp : DSp} : ∀ {l : List (Str × DSp)}, Fns P w K mg base k l → l.lookup x = some sp → ∃ ps, FnD P w K mg base x k ps sp
  | [], _, h => by cases h
  | (y, s) :: l, ⟨h1, h2⟩, h => by
    rw [List.lookup_cons] at h
    cases hb : (x == y) with
    | true =>
      rw [hb] at h
      cases h
      rw [eq_of_beq hb]; exact h1
    | false =>
      rw [hb] at h
      exact Fns.get h2 h
/-- f(e, ..), f a value that names a def -/
def dCallE (fs : List (Str × DSp)) (tf : DE) (u : DA) : DE := fun Γ O Q E => tf Γ O (fun w O1 => match w with
  | .gl x => match fs.lookup x with
    | some sp => u Γ O1 (fun ws O2 => sp ws O2 Q E) E
    | none => False
  | _ => False) E
theorem d_callE {k : Nat} {fs : List (Str × DSp)} (bx : Bx X Wx) (F : Fns X.prog X.w X.K X.mg X.base k fs) (hr : Room k X.A) (hf : PDE X Wx (.Subscript L i q) tf) (ha : PDA X Wx (e :: es) u)
    (hcall : eval (.Call (.Subscript L i q) (e :: es) [] pos) X.env = (do let fv ← eval (.Subscript L i q) X.env; callWith pos fv [] (backTo pos (starEach (e :: es) X.env)) (backToKw pos (keywordEach [] X.env))) := by rfl)
    (he : starEach (e :: es) X.env = (false, eval e X.env) :: starEach es X.env := by rfl) (hpl : (backTo pos (starEach es X.env)).any (·.1) = false := by rfl) : PDE X Wx (.Call (.Subscript L i q) (e :: es) [] pos) (dCallE fs tf u) := by
  refine ⟨fun pins s σ H Q I ⟨Γ, O, S, ρ, Q', E', st, h, kq, kx⟩ => ?_⟩
  rw [hcall]
  refine wpAny_bind (thn (hf.run pins s σ H _ I ⟨Γ, O, S, ρ, _, E', st, h, fun w1 O1 S1 ρ1 v1 H1 x1 wd1 r1 h1 => (⟨w1, O1, S1, ρ1, x1, wd1, r1, h1⟩ : ∃ w1 O1 S1 ρ1, Ext S ρ O.length H S1 ρ1 O1.length H1 ∧ Wd X.K S1 ρ1 O1 H1 ∧ RelW X.K S1 ρ1 O1.length v1 w1 ∧ (match w1 with
  | .gl x => match fs.lookup x with
    | some sp => u Γ O1 (fun ws O2 => sp ws O2 Q' E') E'
    | none => False
  | _ => False)), kx⟩) fun fv s1 ⟨v1, H1, I1, rv, w1, O1, S1, ρ1, x1, wd1, r1, h1⟩ => ?_)
  split at h1
  · rename_i x
    split at h1
    · rename_i sp hl
      cases r1 with
      | @gl _ f hc =>
        obtain rfl : fv = Value.ref f := rv
        obtain ⟨ps, FF⟩ := Fns.get F hl
        obtain ⟨f2, fd, FO, gm, kp, b⟩ := FF.ex
        have hm := PySem.W.mg_of I.ok.mod.kin I.ok.mod.glob hc
        rw [gm] at hm
        cases hm
        refine PySem.W.callWith_K (h₀ := X.base) I.ok.mod.kin kp (thn (ha.run pos pins s1 σ H1 _ I1 ⟨Γ, O1, S1, ρ1, _, E', st.ext x1 wd1, h1, fun ws O2 S2 ρ2 vs H2 x2 wd2 r2 h2 => (⟨ws, O2, S2, ρ2, x2, wd2, r2, h2⟩ : ∃ ws O2 S2 ρ2, Ext S1 ρ1 O1.length H1 S2 ρ2 O2.length H2 ∧ Wd X.K S2 ρ2 O2 H2 ∧ RelWs X.K S2 ρ2 O2.length vs ws ∧ sp ws O2 Q' E'), kx.ext x1⟩) fun us s2 ⟨vs, H2, I2, r, ws, O2, S2, ρ2, x2, wd2, r2, h2⟩ => ⟨I2.kIn, ?_⟩) he hpl
        refine run_fnS (E := WE Wx) FO hr b (passAt bx.tk σ) I2 r ?_
        exact ⟨ws, O2, S2, ρ2, Q', E', wd2, r2, h2, kq.ext (x1.trans x2), fun y O3 S3 ρ3 c d H3 x3 wd3 r3 q3 => kx y O3 S3 ρ3 c d H3 ((x1.trans x2).trans x3) wd3 r3 q3⟩
    · exact h1.elim
  · exact h1.elim
end
end UZ
namespace UZ
open PySem L2
theorem hu_d {X : Cx} {k : Nat} (hr : Room k X.A) : X.A.units + 1 < cLine := by have := hr.units; omega
theorem sub_one {x nm : Str} (h : ([(x, true)] : List (Str × Bool)).lookup nm = some true) : nm = x := by
  rw [List.lookup_cons] at h
  cases hb : (nm == x) with
  | true => exact eq_of_beq hb
  | false => rw [hb] at h; cases h
end UZ
/-! UZ, part Y: stepping through exceptions, dicts, calls out of lists. -/
namespace UZ
open PySem PySem.Spec PyProof.Rows PySem.W L2
section
variable {D : DEnds} {Γ : Gm} {O : List Ob} {t : DE} {Q : DQ} {E : DX}
theorem x_raise {x : Str} {fs : List Str} {u : DA} (h : u Γ O (fun ws O1 => ∃ xs, allD ws = some xs ∧ xs.length = fs.length ∧ fs.length ≤ 1000 ∧ (∀ y ∈ xs, okP y) ∧ D.ex (.fld x (fs.zip xs).reverse) Γ O1) fun y O' => D.ex y Γ O') : dRaise x fs u D Γ O := h
theorem x_raise0 {x : Str} (h : D.ex (.plain x) Γ O) : dRaise0 x D Γ O := h
theorem x_fex {x : Xc} (h : E x O) : (endsD O Q E).ex x Γ O := .inl h
def trAs (sub : List (Str × Bool)) (i : Nat) (th : Addr → Addr → DS) (D : DEnds) : Xc → Gm → List Ob → Prop := fun x Γ1 O1 => match sub.lookup (xName x) with
  | some true => match x with
    | .fld _ fs => ∀ a d, th a d (hEnds D i) (Γ1.set i (some (.exc a d fs))) O1
    | .plain _ => False
  | some false => D.ex x Γ1 O1
  | none => False
theorem x_tryAs {sub : List (Str × Bool)} {i : Nat} {tb : DS} {th : Addr → Addr → DS} (h : tb { D with ex := trAs sub i th D } Γ O) : dTryAs sub i tb th D Γ O := h
theorem x_caught {sub : List (Str × Bool)} {i : Nat} {th : Addr → Addr → DS} {nm : Str} {fs : List (Str × PyData)} (e : sub.lookup nm = some true) (h : ∀ a d, th a d (hEnds D i) (Γ.set i (some (.exc a d fs))) O) : trAs sub i th D (.fld nm fs) Γ O := by
  unfold trAs
  rw [show xName (.fld nm fs) = nm from rfl, e]
  exact h
def trNo (sub : List (Str × Bool)) (th : DS) (D : DEnds) : Xc → Gm → List Ob → Prop := fun x Γ1 O1 => match sub.lookup (xName x) with
  | some true => th { D with ex := fun _ _ _ => False } Γ1 O1
  | some false => D.ex x Γ1 O1
  | none => False
theorem x_try {sub : List (Str × Bool)} {tb th : DS} (h : tb { D with ex := trNo sub th D } Γ O) : dTry sub tb th D Γ O := h
theorem x_caught0 {sub : List (Str × Bool)} {th : DS} {x : Xc} (e : sub.lookup (xName x) = some true) (h : th { D with ex := fun _ _ _ => False } Γ O) : trNo sub th D x Γ O := by
  unfold trNo
  rw [e]
  exact h
theorem x_xf {a d : Addr} {f : Str} (h : t Γ O (fun w O1 => match w with
  | .exc a' d' fs => a' = a ∧ d' = d ∧ ∃ y, fs.lookup f = some y ∧ Q (.d y) O1
  | _ => False) E) : dXf a d f t Γ O Q E := h
theorem x_gl {x : Str} (h : Q (.gl x) O) : dGl x Γ O Q E := h
def kGl (fs : List (Str × DSp)) (u : DA) (Γ : Gm) (Q : DQ) (E : DX) : DQ := fun w O1 => match w with
  | .gl x => match fs.lookup x with
    | some sp => u Γ O1 (fun ws O2 => sp ws O2 Q E) E
    | none => False
  | _ => False
theorem x_callE {fs : List (Str × DSp)} {u : DA} (h : t Γ O (kGl fs u Γ Q E) E) : dCallE fs t u Γ O Q E := h
theorem x_kGl {fs : List (Str × DSp)} {u : DA} {x : Str} {sp : DSp} (e : fs.lookup x = some sp) (h : u Γ O (fun ws O2 => sp ws O2 Q E) E) : kGl fs u Γ Q E (.gl x) O := by
  show (match fs.lookup x with | some sp => u Γ O (fun ws O2 => sp ws O2 Q E) E | none => False)
  rw [e]; exact h
theorem x_newD (h : Q (.o O.length) (O ++ [.dK []])) : dNewD Γ O Q E := h
theorem x_dget {ti : DE} (h : t Γ O (fun x O1 => ti Γ O1 (fun y O2 => ∃ ws k w, dv O2 x = some ws ∧ keyW y = some k ∧ lkW ws k = some w ∧ Q w O2) E) E) : dDG t ti Γ O Q E := h
theorem x_get2 {ti tf : DE} (h : t Γ O (fun x O1 => (dv O1 x).isSome = true ∧ ti Γ O1 (fun y O2 => tf Γ O2 (fun z O3 => ∃ ws k, dv O3 x = some ws ∧ keyW y = some k ∧ Q ((lkW ws k).getD z) O3) E) E) E) : dGet2 t ti tf Γ O Q E := h
theorem x_put {ti tv : DE} (h : tv Γ O (fun v O1 => t Γ O1 (fun x O2 => ti Γ O2 (fun y O3 => ∃ m ws k, x = .o m ∧ O3[m]? = some (.dK ws) ∧ keyW y = some k ∧ ws.length < sizeLine ∧ D.nx Γ (O3.set m (.dK (ptW ws k v)))) fun x O' => D.ex x Γ O') fun x O' => D.ex x Γ O') fun x O' => D.ex x Γ O') : dPut t ti tv D Γ O := h
theorem x_disp {ds : List (DE × DE)} (h : dPrs ds Γ O (fun ps O1 => ps.length ≤ 15 ∧ (ps.map (·.1)).Nodup ∧ ps ≠ [] ∧ Q (.d (.dict (ps.map fun p => (keyD p.1, p.2)))) O1) E) : dDisp ds Γ O Q E := h
theorem x_prs {tk tv : DE} {r : List (DE × DE)} {R : List (Key × PyData) → List Ob → Prop} (h : tk Γ O (fun y O1 => tv Γ O1 (fun z O2 => ∃ k x, keyW y = some k ∧ z = .d x ∧ dPrs r Γ O2 (fun ps O3 => R ((k, x) :: ps) O3) E) E) E) : dPrs ((tk, tv) :: r) Γ O R E := h
theorem x_prn {R : List (Key × PyData) → List Ob → Prop} (h : R [] O) : dPrs [] Γ O R E := h
theorem dv_o {k : Nat} {ws : List (Key × W)} (e : O[k]? = some (.dK ws)) : dv O (.o k) = some ws := by
  show (match O[k]? with | some (.dK ws) => some ws | _ => none) = some ws
  rw [e]
theorem x_sortD {x : W} {kws : List (Key × W)} {ks : List Str} (e : dv O x = some kws) (hk : kws.map (·.1) = ks.map Sum.inr) (hl : ks.length < 64) (h : ∀ ys : List Str, ys.Perm ks → sortedS ys = true → Q (.d (.list (ys.map .str))) O) : fSortD [x] O Q := ⟨x, kws, ks, rfl, e, hk, hl, h⟩
theorem x_repL {xs : List PyData} {n : Nat} (h1 : n ≤ 1000) (h2 : xs.length ≤ 1000) (h : Q (.d (.list (List.replicate n xs).flatten)) O) : fRepL (.d (.list xs)) (.d (.int n)) O Q := by
  refine ⟨_, _, _, rfl, rfl, by omega, by omega, ?_, ?_, h⟩
  · rw [List.length_map, show ((n : Int)).toNat = n from rfl]
    exact Nat.le_trans (Nat.mul_le_mul h2 h1) (by decide)
  · rw [show ((n : Int)).toNat = n from rfl, ← List.map_replicate, ← List.map_flatten, allD_map]
theorem x_abs {i : Int} (h : Q (.d (.int i.natAbs)) O) : fAbs [.d (.int i)] O Q := by
  show Q (.d (.int (if i < 0 then -i else i))) O
  rw [show (if i < 0 then -i else i) = (i.natAbs : Int) by split <;> omega]
  exact h
end
end UZ
/-! UZ, part W: facts about own exception classes, as checks. -/
namespace UZ
open PySem PySem.Spec PyProof.Rows L2 PySem.W
def oexB (K : PySem.W.Frag) (C : Addr) : Bool := match K.lookup C with
  | some ⟨.type "type", _, .cls cd, sl⟩ => (match cd.mro, sl.toList with
    | .ref C' :: bm, [_, _, _, _, some (.builtin n), _] => C' == C && (n == "ValueError.__new__" && (!cd.hasDel && (cd.hasDict && PySem.HandSPX.refsVE bm)))
    | _, _ => false)
  | _ => false
theorem oexB_ok {K : PySem.W.Frag} {C : Addr} (q : oexB K C = true) : ∃ nm q N bs bm sn sub ab col dd k0 k1 k2 k3 k5, K.lookup C = some (excClassObj nm q C N bs bm true sn sub ab col dd k0 k1 k2 k3 k5 "ValueError.__new__") ∧ PySem.HandSPX.refsVE bm = true := by
  unfold oexB at q
  split at q
  · rename_i dd cd sl ho
    split at q
    · rename_i C' bm k0 k1 k2 k3 n k5 hm hs
      simp only [Bool.and_eq_true, beq_iff_eq, Bool.not_eq_true'] at q
      obtain ⟨rfl, rfl, hdel, hdict, ht⟩ := q
      obtain ⟨nm, bs, mro, ns, qn, hd, sn, sub, ab, col, del⟩ := cd
      dsimp only at hm hdel hdict
      subst hm hdel hdict
      have hsl : sl = #[k0, k1, k2, k3, some (.builtin "ValueError.__new__"), k5] := by
        obtain ⟨l⟩ := sl
        simp only at hs
        rw [hs]
      subst hsl
      exact ⟨nm, qn, ns, bs, bm, sn, sub, ab, col, dd, k0, k1, k2, k3, k5, ho, ht⟩
    · cases q
  · cases q
def fileB (K : PySem.W.Frag) (P : Program) (cd : Value) : Bool := match cd with
  | .ref a => (match K.lookup a with
    | some ⟨_, _, .fields vs, _⟩ => (match (vs[2]? : Option Value) with
      | some (.str file _) => (P.main.file : Str) == file
      | _ => false)
    | _ => false)
  | _ => false
theorem fileB_ok {K : PySem.W.Frag} {P : Program} {cd : Value} (q : fileB K P cd = true) : ∃ (a : Addr) (oc : Value) (od : Option Addr) (vs : Array Value) (sl : Array (Option Value)) (file : Str) (tf : Tok), cd = .ref a ∧ K.lookup a = some ⟨oc, od, .fields vs, sl⟩ ∧ vs[2]? = some (.str file tf) ∧ ((P.main.file : Str) == file) = true := by
  unfold fileB at q
  split at q
  · split at q
    · rename_i h
      split at q
      · rename_i h2
        exact ⟨_, _, _, _, _, _, _, rfl, h, h2, q⟩
      · cases q
    · cases q
  · cases q
def cellB (K : PySem.W.Frag) (cc C : Addr) : Bool := match K.lookup cc with
  | some ⟨_, _, .cell (some (.ref C')), _⟩ => C' == C
  | _ => false
theorem cellB_ok {K : PySem.W.Frag} {cc C : Addr} (q : cellB K cc C = true) : ∃ (oc : Value) (od : Option Addr) (sl : Array (Option Value)), K.lookup cc = some ⟨oc, od, .cell (some (.ref C)), sl⟩ := by
  unfold cellB at q
  split at q
  · rename_i h
    have := eq_of_beq q
    subst this
    exact ⟨_, _, _, h⟩
  · cases q
/-- all that is asked of a class, in one check -/
def exB (K : PySem.W.Frag) (P : Program) (C f cc : Addr) (cd : Value) (fs : List Str) : Bool :=
  oexB K C && (decide (PySem.W.findIn K (.ref C) "__setattr__" = some (some (.builtin "object.__setattr__"))) && (decide (PySem.W.subIn K (.ref C) (.type "BaseException") = some true) && (decide (PySem.W.typeIn K (.ref C) = some (.type "type")) && (PySem.W.keepIn K (.ref C) &&
  (fileB K P cd && (cellB K cc C && (decide (PySem.W.mroIn K C (.ref C) = some true) && (decide (PySem.W.nsIn K cStatics "thirdparty.any" = some none) && (decide (PySem.W.ks_superIn K C C "__init__" = some (some (.builtin "ValueError.__init__"))) &&
  (decide (PySem.W.subIn K (.ref C) (.type "ValueError") = some true) && (decide (PySem.W.nsIn K mainGlobals "super" = some none) && (!(P.main.scope.names.lookup ("super" : Str)).isSome && (decide (PySem.W.findIn K (.ref C) "__init__" = some (some (.ref f))) &&
  (decide (PySem.W.typeIn K (.ref f) = some (.type "function")) && (xfB K C && fs.all fun g => decide (PySem.W.findIn K (.ref C) g = some none))))))))))))))))
structure ExOk (K : PySem.W.Frag) (P : Program) (C f cc : Addr) (cd : Value) (fs : List Str) : Prop where
  sup : SupC P K C f cc cd
  ini : PySem.W.findIn K (.ref C) "__init__" = some (some (.ref f))
  ty : PySem.W.typeIn K (.ref f) = some (.type "function")
  xf : XfC K C
  no : ∀ g ∈ fs, PySem.W.findIn K (.ref C) g = some none
theorem exB_ok {K : PySem.W.Frag} {P : Program} {C f cc : Addr} {cd : Value} {fs : List Str} (h : exB K P C f cc cd fs = true) : ExOk K P C f cc cd fs := by
  unfold exB at h
  simp only [Bool.and_eq_true, decide_eq_true_eq, Bool.not_eq_true', List.all_eq_true] at h
  obtain ⟨h1, h2, h3, h4, h5, h6, h7, h8, h9, h10, h11, h12, h13, h14, h15, h16, h17⟩ := h
  exact ⟨⟨⟨oexB_ok h1, h2, h3, h4, h5⟩, fileB_ok h6, cellB_ok h7, h8, h9, h10, h11, h12, h13⟩, h14, h15, xfB_ok h16, h17⟩
/-- the initialiser within a class -/
def clsDef (st : Stmt) (i : Nat) : Stmt := match st with
  | .ClassDef (body := b) .. => b.getD i (.Pass ⟨0, 0, 0, 0⟩)
  | _ => .Pass ⟨0, 0, 0, 0⟩
end UZ
/-! UZ, part M: things of the module (lists, dicts), reversed lists, sums, sorted sets of texts. -/
namespace RT
open PySem PySem.Spec PyProof.Rows L2
section
variable {prog : Program} {w : World} {A : Around} {E : Value → Shared → Prop} {s : Shared}
/-- list(it), it = reversed(a list) -/
theorem list_init_rev {it l S : Addr} {items : Array Value} {R : Result → Shared → Prop} (hh : A.handled = none) (hit : s.heap.IsRevIter it l ((items.size : Int) - 1)) (hl : s.heap.IsList l items) (hne : l ≠ it) (hSi : S ≠ it) (hSl : S ≠ l)
    (hS : s.heap.get? S = some { cls := .type "list", data := .seq #[] }) (hn : items.size ≤ sizeLine)
    (hR : ∀ (h' : Heap) (tk : Nat) (acc : Array Value) (c' : Nat), (∀ b o, b ≠ it → b ≠ S → s.heap.get? b = some o → h'.get? b = some o) → h'.get? S = some { cls := .type "list", dict := none, data := .seq acc c', slots := #[] } → ItemsOf (fun i v => items[items.size - 1 - i]? = some v) acc items.size → R (.ok (.ret .none)) { s with heap := h', toks := tk }) :
    wpAny (model prog w) A.in1 (Builtin.«list.__init__» ⟨[.ref S, .ref it], []⟩)
      (fun fin s' => match fin with | .done f => R (.ok f) s' | .again c' => c'.quiet = true ∧ codeAny (model prog w) A c' R s') (fun e s' => R (.error e) s') s := by
  have W := (Walks.listRev (prog := prog) (w := w) (A := A.in1) hh it l hne items).toS
  have hSf : S ∉ [it, l] := by simp only [List.mem_cons, List.not_mem_nil, or_false, not_or]; exact ⟨hSi, hSl⟩
  show wpAny _ A.in1 (do let old ← Builtin.List.listItems (.ref S); Builtin.List.listUpdate (.ref S) (fun _ => #[]); letGo old.toList.reverse; Builtin.List.listExtendWith (.ref S) (.ref it) .none) _ _ s
  refine wpAny_bind ?_
  unfold Builtin.List.listItems
  refine wpAny_bind (wpAny_seqItems hS rfl (wpAny_pure ?_))
  show wpAny _ A.in1 (updateSeq S (fun _ => #[]) >>= fun _ => letGo (#[] : Array Value).toList.reverse >>= fun _ => Builtin.List.listExtendWith (.ref S) (.ref it) .none) _ _ s
  refine wpAny_bind (wpAny_updateSeq hS rfl ?_)
  have hS₂ := Heap.get?_update_self (Obj.mapSeq (fun _ => (#[] : Array Value))) hS rfl
  have oth : ∀ b o, b ≠ S → s.heap.get? b = some o → (s.heap.update S (Obj.mapSeq (fun _ => (#[] : Array Value)))).get? b = some o := fun b o hb e => (Heap.get?_update_other _ _ (Ne.symm hb)).trans e
  refine wpAny_bind (wpAny_letGo ?_)
  have hit1 : (s.heap.update S (Obj.mapSeq (fun _ => (#[] : Array Value)))).IsRevIter it l ((items.size : Int) - 1) := hit.at fun o e => oth _ _ (Ne.symm hSi) e
  have hl1 : (s.heap.update S (Obj.mapSeq (fun _ => (#[] : Array Value)))).IsList l items := by
    obtain ⟨o, e, r⟩ := hl
    exact ⟨o, oth _ _ (Ne.symm hSl) e, r⟩
  have hT : ({ s with heap := s.heap.update S (Obj.mapSeq (fun _ => (#[] : Array Value))) } : Shared).TypeIs (.ref it) "list_reverseiterator" := Heap.IsRevIter.typeIs (s := { s with heap := s.heap.update S (Obj.mapSeq (fun _ => (#[] : Array Value))) }) hit1
  have h1 : Builtin.List.listSameRef (.ref S) (.ref it) = false := by simp [Builtin.List.listSameRef, hSi]
  show wpAny _ A.in1 (Builtin.List.listExtendWith (.ref S) (.ref it) .none) _ _ _
  unfold Builtin.List.listExtendWith
  refine wpAny_bind (wpAny_typeOf hT ?_)
  rw [if_neg (by rw [h1]; decide)]
  refine wpAny_bind (wpAny_pyIter_revIter (s := { s with heap := s.heap.update S (Obj.mapSeq (fun _ => (#[] : Array Value))) }) hit1 ?_)
  refine wpAny_bind (wpAny_holding ?_)
  unfold Builtin.List.listLengthHint
  refine wpAny_bind (wpAny_specialOf hT nolen_lri ?_)
  show wpAny _ A.in1 (specialOf (Value.ref it) (Str.ofString "__length_hint__") >>= _) _ _ _
  refine wpAny_bind (wpAny_specialOf hT hint_lri ?_)
  generalize hid : ("list_reverseiterator.__length_hint__" : String) = id0
  wp_delta
  rw [show splitId id0 = some ("list_reverseiterator", "__length_hint__") from by subst hid; decide +kernel]
  subst hid
  refine wpAny_bind (wpAny_isInstance (b := true) hT (by rw [isSubtype_type]; kernel_rfl) ?_)
  refine wpAny_pure ?_
  rw [if_neg (by decide)]
  have e0 : ((items.size : Nat) : Int) - 1 - ((0 : Nat) : Int) = (items.size : Int) - 1 := by omega
  refine wpAny_pure ⟨plainId_quiet F.plain_extend_loop _, codeAny_extend_loopS W hn _ hSf _ items.size 0 _ _ _ rfl (Nat.zero_le _) ⟨Nat.zero_le _, by rw [e0]; exact hit1, hl1⟩ hS₂ (ItemsOf.nil _) fun s' acc' c' hm hS' hacc => ?_⟩
  rw [Moved.eq_with hm]
  refine hR s'.heap s'.toks acc' c' (fun b o hb hbS e => hm.heap b o (fun hmem => ?_) (oth b o hbS e)) hS' hacc
  rcases List.mem_cons.mp hmem with e' | hmem
  · exact hbS e'
  · exact hb (List.mem_singleton.mp hmem)
theorem call_list_rev {it l : Addr} {items : Array Value} {Q : Value → Shared → Prop} (hh : A.handled = none) (hit : s.heap.IsRevIter it l ((items.size : Int) - 1)) (hl : s.heap.IsList l items) (hne : l ≠ it) (hn : items.size ≤ sizeLine)
    (hQ : ∀ (h' : Heap) (tk : Nat) (acc : Array Value) (c' : Nat), (∀ b o, b ≠ it → s.heap.get? b = some o → h'.get? b = some o) → h'.get? s.heap.objs.size = some { cls := .type "list", dict := none, data := .seq acc c', slots := #[] } → ItemsOf (fun i v => items[items.size - 1 - i]? = some v) acc items.size → Q (.ref s.heap.objs.size) { s with heap := h', toks := tk }) :
    wpAny (model prog w) A (call (.type "list") [.ref it]) Q E s := by
  obtain ⟨oi, hoi, _⟩ := id hit
  obtain ⟨ol, hol, _⟩ := id hl
  have hSi : s.heap.objs.size ≠ it := Nat.ne_of_gt (Heap.lt_size hoi)
  have hSl : s.heap.objs.size ≠ l := Nat.ne_of_gt (Heap.lt_size hol)
  refine callType_codes (Q₁ := fun obj s₁ => obj = .ref s.heap.objs.size ∧ s₁ = { s with heap := s.heap.push { cls := .type "list", data := .seq #[] } }) F.called_list (F.typeCall_list_1 _) F.entry_list_init
    (code_list_new _ ⟨rfl, rfl⟩) fun obj s₁ h₁ => ?_
  obtain ⟨rfl, rfl⟩ := h₁
  have hS : (s.heap.push { cls := .type "list", data := .seq #[] }).get? s.heap.objs.size = some { cls := .type "list", data := .seq #[] } := Heap.get?_push_size _ rfl
  refine ⟨⟨_, hS, rfl⟩, F.args_list_init_2 _ _, list_init_rev (s := { s with heap := s.heap.push { cls := .type "list", data := .seq #[] } }) (A := A.in1) hh (hit.at fun o e => Heap.get?_push_of_some _ e) (hl.push _) hne hSi hSl hS hn fun h' tk acc c' hk hS' hacc => ⟨rfl, hQ h' tk acc c' (fun b o hb e => hk b o hb (fun z => ?_) (Heap.get?_push_of_some _ e)) hS' hacc⟩⟩
  exact Nat.lt_irrefl _ (z ▸ Heap.lt_size e)
end
end RT

namespace L2
open PySem PySem.Spec PyProof.Rows RT
/-- list(reversed(x)), x a list: a new list -/
def tLstRev (K : PySem.W.Frag) (te : TE) : TE := fun σ H Q => te σ H fun v H1 => ∃ (a : Addr) (xs : List V), v = .ref a ∧ SqL K H1 a xs ∧ ∀ q, H1 q = none → Q (.ref q) (upd H1 q (.lst xs.reverse))
section
variable {X : Cx}
theorem pe_lstRev {e : Expr} {te : TE} {p p2 pos pos2 : Pos} (hc : X.calm = true) (hg : Gl X "list") (hm : X.mg "list" = none) (hg2 : Gl X "reversed") (hm2 : X.mg "reversed" = none) (he : PE X e te)
    (hs : starEach [e] X.env = (false, eval e X.env) :: starEach [] X.env := by rfl)
    (hs2 : starEach [.Call (.Name "reversed" p2) [e] [] pos2] X.env = (false, eval (.Call (.Name "reversed" p2) [e] [] pos2) X.env) :: starEach [] X.env := by rfl) :
    PE X (.Call (.Name "list" p) [.Call (.Name "reversed" p2) [e] [] pos2] [] pos) (tLstRev X.K te) := by
  refine ⟨fun pins s σ H Q I h => ?_⟩
  refine Call_ (ld_blt I hg hm boot_list (PyProof.Rows.callWith_type1 (args_cons (Call_ (ld_blt I hg2 hm2 PyProof.Rows.boot_reversed (PyProof.Rows.callWith_type1 (args_cons (thn (he.run pins s σ H _ I h) fun u s1 ⟨v, H1, I1, r1, q1⟩ => args_nil ?_) hs) hs rfl))) hs2) hs2 rfl))
  obtain ⟨a, xs, ev, hq, q⟩ := q1
  subst ev
  obtain rfl : u = Value.ref a := r1
  obtain ⟨its, rv, p', hz⟩ := I1.list hq
  refine call_reversed_list p'.isList (args_nil ?_)
  have k0 : ∀ b o, s1.heap.get? b = some o → (s1.heap.push (revObj a ((its.toArray.size : Int) - 1))).get? b = some o := fun b o e => Heap.get?_push_of_some _ e
  have I2 : Inv X pins σ H1 { s1 with heap := s1.heap.push (revObj a ((its.toArray.size : Int) - 1)) } := I1.kept (t' := s1.toks) k0
  obtain ⟨f0, f1, f2, f3, f4, f5⟩ := I1.fpOk (H' := H1) (b := s1.heap.objs.size) (Nat.le_refl _) (I1.hok.fresh (Nat.le_refl _))
  have hl := p'.isList
  obtain ⟨ol, hol, _⟩ := id hl
  have hne : a ≠ s1.heap.objs.size := Nat.ne_of_lt (Heap.lt_size hol)
  have hn : its.toArray.size ≤ sizeLine := by rw [List.size_toArray, ← rv.length]; exact hz
  refine call_list_rev (s := { s1 with heap := s1.heap.push (revObj a ((its.toArray.size : Int) - 1)) }) (I1.ok.hd hc) ⟨_, Heap.get?_push_size _ rfl, rfl, rfl⟩ (hl.push _) hne hn fun h' tk acc c' hk hS hi => ?_
  have hsz : s1.heap.objs.size ≤ (s1.heap.push (revObj a ((its.toArray.size : Int) - 1))).objs.size := by simp [Heap.push]
  have k1 : ∀ b o, s1.heap.get? b = some o → h'.get? b = some o := fun b o e => hk b o (Nat.ne_of_lt (Heap.lt_size e)) (k0 b o e)
  refine ⟨.ref (s1.heap.push (revObj a ((its.toArray.size : Int) - 1))).objs.size, upd H1 _ (.lst xs.reverse), I1.laid (t' := tk) k1 hsz (show ObjOk X.prog X.w _ _ _ (.lst xs.reverse) from ⟨by rw [List.length_reverse]; exact hz, acc.toList, c', vals_rev rv hi, ?_⟩), rfl, q _ (I1.hok.fresh hsz)⟩
  rw [Array.toArray_toList]
  exact hS
end
end L2
namespace UZ
open PySem PySem.W L2
section
variable {X : Cx} {Wx : WX}
/-- x in a list of the module -/
def fInR : F2 := fun x y O Q => ∃ a bs, x = .d a ∧ y = .rl bs ∧ okD a ∧ okD (.list bs) ∧ Q (.d (.bool (bs.any fun z => PyData.eqv z a))) O
theorem o_inR (hu : X.A.units + 65 < cLine) : OpD X (compareOp .In) fInR := by
  intro pins s σ H x y v u Q I rx ry ⟨wx, wy, O, S, ρ, Q', wd, r1, r2, ⟨a, b, s1, s2, o1, o2, q⟩, kq⟩
  subst s1 s2
  cases r1 with
  | d r1 =>
    cases r2 with
    | rl h2 g2 =>
      have p2 : PyData.plainAll b = true := by have := o2.1; simpa [PyData.plain] using this
      obtain ⟨as, q1⟩ := Dp.reads I a x v ((r1.sub wd.sub).dp o1.1) rx
      obtain ⟨bs, q2⟩ := Dp.reads I (.list b) _ u (.lst (SubH.sqL wd.sub h2) (RepL.dp (g2.sub wd.sub) p2)) ry
      exact SeqAt.in_list_data q2 q1 (by simpa [PyData.plain] using o2.1) o1.1 (by have := o1.2; omega) ⟨.bl _, H, I, rfl, kq.back wd (.d (.bl _)) q⟩
end
end UZ
namespace UZ
open PySem PySem.W L2
section
variable {X : Cx} {Wx : WX}
/-- list(reversed(x)), x a list of data -/
def fLstRev : F1 := fun x O Q => ∃ xs zs, lv O x = some xs ∧ allD xs.reverse = some zs ∧ Q (.d (.list zs)) O
theorem d_lstRev {e : Expr} {t : DE} {p p2 pos pos2 : Pos} (hc : X.calm = true) (hm : X.mg "list" = none) (hm2 : X.mg "reversed" = none) (he : PDE X Wx e t) (hg : Gl X "list" := by rfl) (hg2 : Gl X "reversed" := by rfl)
    (hs : starEach [e] X.env = (false, eval e X.env) :: starEach [] X.env := by rfl)
    (hs2 : starEach [.Call (.Name "reversed" p2) [e] [] pos2] X.env = (false, eval (.Call (.Name "reversed" p2) [e] [] pos2) X.env) :: starEach [] X.env := by rfl) :
    PDE X Wx (.Call (.Name "list" p) [.Call (.Name "reversed" p2) [e] [] pos2] [] pos) (dUn fLstRev t) :=
  (pe_lstRev hc hg hm hg2 hm2 he hs hs2).imp fun σ H Q ⟨Γ, O, S, ρ, Q', E', st, h, kq, kx⟩ => ⟨Γ, O, S, ρ, _, E', st, h, fun w1 O1 S1 ρ1 v1 H1 x1 wd1 r1 ⟨xs, zs, e1, ez, h1⟩ => by
    obtain ⟨a, vs, rfl, h2, g⟩ := lv_inv wd1 e1 r1
    exact ⟨a, vs, rfl, h2, fun p np => (kq.ext x1).newL wd1 np g.reverse ez h1⟩, kx⟩
theorem x_lstRev {xs : List PyData} {O : List Ob} {Q : DQ} (h : Q (.d (.list xs.reverse)) O) : fLstRev (.d (.list xs)) O Q := ⟨xs.map .d, xs.reverse, rfl, by rw [← List.map_reverse, allD_map], h⟩
end
end UZ

/-! ### d.get(x, y), d a dict of the module with texts as keys and scalars as values -/
namespace L2
open PySem PySem.Spec PyProof.Rows
inductive KTblL (P : Params) : List DictEntry → List (Str × V) → Prop
  | nil : KTblL P [] []
  | cons {e : DictEntry} {es : List DictEntry} {x : Str} {t : Tok} {v : V} {vs : List (Str × V)} (hk : e.key = .str x t) (hh : e.hash = PyData.keyHash P x) (hv : RelV v e.val) : KTblL P es vs → KTblL P (e :: es) ((x, v) :: vs)
def KTbl (K : PySem.W.Frag) (w : World) (a : Addr) (vs : List (Str × V)) : Prop := ∃ es n, K.lookup a = some ⟨.type "dict", none, .dict es n, #[]⟩ ∧ KTblL w.params es.toList vs ∧ (a == sysModules) = false
theorem KTblL.lit {P : Params} : ∀ {es : List DictEntry} {vs : List (Str × V)}, KTblL P es vs → PySem.W.KeysLit P es
  | _, _, .nil => trivial
  | _, _, .cons hk hh _ r => ⟨⟨_, _, hk, hh⟩, r.lit⟩
theorem KTblL.find {P : Params} {z : Str} : ∀ {es : List DictEntry} {vs : List (Str × V)}, KTblL P es vs → (vs.lookup z = none ∧ es.find? (fun d => Value.isStrOf z d.key) = none) ∨ ∃ v e, vs.lookup z = some v ∧ es.find? (fun d => Value.isStrOf z d.key) = some e ∧ RelV v e.val
  | _, _, .nil => .inl ⟨rfl, rfl⟩
  | e :: es, (x, v) :: vs, .cons (t := t) hk hh hv r => by
    rw [List.lookup_cons, List.find?_cons, hk]
    show (match z == x with | true => some v | false => vs.lookup z) = none ∧ (match x == z with | true => some e | false => es.find? _) = none ∨ ∃ v' e', (match z == x with | true => some v | false => vs.lookup z) = some v' ∧ (match x == z with | true => some e | false => es.find? _) = some e' ∧ RelV v' e'.val
    by_cases hz : z = x
    · subst hz
      rw [beq_self_eq_true]
      exact .inr ⟨v, e, rfl, rfl, hv⟩
    · rw [beq_false_of_ne hz, beq_false_of_ne (Ne.symm hz)]
      exact r.find
section
variable {X : Cx} {o e f : Expr} {apos cpos : Pos} {to ty tx : TE}
def tKGet (K : PySem.W.Frag) (w : World) (to ty tx : TE) : TE := fun σ H Q => to σ H fun x H1 => ∃ a vs, x = .ref a ∧ KTbl K w a vs ∧ ty σ H1 fun y H2 => tx σ H2 fun z H3 => ∃ k, y = .str k ∧ Q ((vs.lookup k).getD z) H3
theorem pe_kget (ho : PE X o to) (he : PE X e ty) (hf : PE X f tx) (m : M2 X o "get" apos e f cpos) : PE X (.Call (.Attribute o "get" apos) [e, f] [] cpos) (tKGet X.K X.w to ty tx) := by
  refine ⟨fun pins s σ H Q I h => ?_⟩
  refine wpAny_Call_method m.base m.few m.line PySem.F.plainAttrs_dict PySem.F.slot_dict_get PySem.F.type_dict_get (thn (ho.run pins s σ H _ I h) fun u s1 ⟨x, H1, I1, rx, a, vs, ex, ⟨es, n, hl, kt, low⟩, q1⟩ => ?_)
  subst ex
  obtain rfl : u = Value.ref a := rx
  have mo := fun (s' : Shared) (K' : X.K.In s'.heap) => PySem.W.mapOf_K (prog := X.prog) (w := X.w) K' hl kt.lit
  refine ⟨(mo s1 I1.kIn).typeIs, fun b q => ?_, ?_⟩
  · cases q
    exact ⟨_, I1.kIn _ _ hl, rfl⟩
  rw [m.trees]
  refine Calls.callWith_builtin rfl (Calls.evalArgs_plain (Calls.spliced_cons (thn (he.run pins s1 σ H1 _ I1 q1) fun iv s2 ⟨y, H2, I2, ry, q2⟩ =>
    Calls.spliced_cons (thn (hf.run pins s2 σ H2 _ I2 q2) fun fv s3 ⟨z, H3, I3, rz, k, ek, q3⟩ => Calls.spliced_nil ?_))))
  subst ek
  obtain ⟨t, rfl⟩ := (show ∃ t, iv = Value.str k t from ry)
  refine call_meetsIn PySem.F.slot_dict_get (mo s3 I3.kIn).typeIs PySem.F.entry_dict_get (PySem.F.args_dict_get_3 _ _ _) (meets_dict_get_default (strKind X.prog X.w) a (strKind_is X.prog X.w k t) low fv) ⟨_, mo s3 I3.kIn, ?_⟩
  have fb : findBy Value.isStrOf es k = (es.toList.find? fun d => Value.isStrOf k d.key).map (·.val) := by
    obtain ⟨l⟩ := es
    unfold findBy
    rw [List.find?_toArray]
  rcases kt.find (z := k) with ⟨e1, e2⟩ | ⟨v, d, e1, e2, r⟩
  · rw [e1] at q3
    rw [fb, e2]
    exact ⟨_, H3, I3.tok _, rz, q3⟩
  · rw [e1] at q3
    rw [fb, e2]
    exact ⟨_, H3, I3.tok _, r, q3⟩
end
end L2
/-! V, part A: the same readings told as functions: what an expression gives is computed. -/
namespace UZ
open PySem PySem.Spec PyProof.Rows L2

/-- what an expression comes to: a value and the objects, an exception, or nothing that is told here -/
inductive R (α : Type) where
  | ok (a : α) (O : List Ob)
  | ex (x : Xc) (O : List Ob)
  | bad
namespace R
variable {α β γ : Type}
def run (r : R α) (Q : α → List Ob → Prop) (E : DX) : Prop := match r with
  | .ok a O => Q a O
  | .ex x O => E x O
  | .bad => False
def bind (r : R α) (f : α → List Ob → R β) : R β := match r with
  | .ok a O => f a O
  | .ex x O => .ex x O
  | .bad => .bad
def ofO : Option (α × List Ob) → R α
  | some (a, O) => .ok a O
  | none => .bad
@[simp] theorem bind_ok {a : α} {O : List Ob} {f : α → List Ob → R β} : (R.ok a O).bind f = f a O := rfl
@[simp] theorem bind_ex {x : Xc} {O : List Ob} {f : α → List Ob → R β} : (R.ex x O).bind f = .ex x O := rfl
@[simp] theorem bind_bad {f : α → List Ob → R β} : R.bad.bind f = .bad := rfl
@[simp] theorem ofO_some {a : α} {O : List Ob} : ofO (some (a, O)) = .ok a O := rfl
@[simp] theorem ofO_none : ofO (none : Option (α × List Ob)) = .bad := rfl
theorem run_bind {r : R α} {f : α → List Ob → R β} {Q : β → List Ob → Prop} {E : DX} : (r.bind f).run Q E = r.run (fun a O => (f a O).run Q E) E := by cases r <;> rfl
theorem run_ofO {o : Option (α × List Ob)} {Q : α → List Ob → Prop} {E : DX} (h : (ofO o).run Q E) : ∃ a O, o = some (a, O) ∧ Q a O := by
  cases o with
  | none => exact h.elim
  | some p => exact ⟨p.1, p.2, rfl, h⟩
theorem run_imp {r : R α} {Q Q' : α → List Ob → Prop} {E E' : DX} (h : r.run Q E) (hq : ∀ a O, Q a O → Q' a O) (he : ∀ x O, E x O → E' x O) : r.run Q' E' := by
  cases r with
  | ok a O => exact hq _ _ h
  | ex x O => exact he _ _ h
  | bad => exact h
theorem bind_assoc {r : R α} {f : α → List Ob → R β} {g : β → List Ob → R γ} : (r.bind f).bind g = r.bind fun a O => (f a O).bind g := by cases r <;> rfl
end R
abbrev VE := Gm → List Ob → R W
abbrev VA := Gm → List Ob → R (List W)
abbrev VT := Gm → List Ob → R Bool
abbrev VO := Gm → List Ob → R (Option Int)
def oE (t : VE) : DE := fun Γ O Q E => (t Γ O).run Q E
def oA (t : VA) : DA := fun Γ O Q E => (t Γ O).run Q E
def oT (t : VT) : DT := fun Γ O Q E => (t Γ O).run Q E
def oO (t : VO) : DO := fun Γ O Q E => (t Γ O).run Q E
abbrev PVE (X : Cx) (Wx : WX) (e : Expr) (t : VE) : Prop := PDE X Wx e (oE t)
abbrev PVA (X : Cx) (Wx : WX) (e : List Expr) (t : VA) : Prop := PDA X Wx e (oA t)
abbrev PVT (X : Cx) (Wx : WX) (e : Expr) (t : VT) : Prop := PDT X Wx e (oT t)
abbrev PVW (X : Cx) (Wx : WX) (e : Expr) (t : VT) : Prop := PDW X Wx e (oT t)
abbrev PVO (X : Cx) (Wx : WX) (e : Option Expr) (t : VO) : Prop := PDO X Wx e (oO t)
section
variable {X : Cx} {Wx : WX} {e : Expr} {es : List Expr} {oe : Option Expr}
theorem pde_imp {t t' : DE} (h : PDE X Wx e t) (i : ∀ Γ O Q E, t' Γ O Q E → t Γ O Q E) : PDE X Wx e t' := L2.PE.imp h fun σ H Q ⟨Γ, O, S, ρ, Q', E', st, h, r⟩ => ⟨Γ, O, S, ρ, Q', E', st, i _ _ _ _ h, r⟩
theorem pda_imp {t t' : DA} (h : PDA X Wx es t) (i : ∀ Γ O Q E, t' Γ O Q E → t Γ O Q E) : PDA X Wx es t' := L2.PA.imp h fun σ H Q ⟨Γ, O, S, ρ, Q', E', st, h, r⟩ => ⟨Γ, O, S, ρ, Q', E', st, i _ _ _ _ h, r⟩
theorem pdt_imp {t t' : DT} (h : PDT X Wx e t) (i : ∀ Γ O Q E, t' Γ O Q E → t Γ O Q E) : PDT X Wx e t' := L2.PT.imp h fun σ H Q ⟨Γ, O, S, ρ, Q', E', st, h, r⟩ => ⟨Γ, O, S, ρ, Q', E', st, i _ _ _ _ h, r⟩
theorem pdw_imp {t t' : DT} (h : PDW X Wx e t) (i : ∀ Γ O Q E, t' Γ O Q E → t Γ O Q E) : PDW X Wx e t' := L2.PW.imp h fun σ H Q ⟨Γ, O, S, ρ, Q', E', st, h, r⟩ => ⟨Γ, O, S, ρ, Q', E', st, i _ _ _ _ h, r⟩
theorem pdo_imp {t t' : DO} (h : PDO X Wx oe t) (i : ∀ Γ O Q E, t' Γ O Q E → t Γ O Q E) : PDO X Wx oe t' := L2.PO.imp h fun σ H Q ⟨Γ, O, S, ρ, Q', E', st, h, r⟩ => ⟨Γ, O, S, ρ, Q', E', st, i _ _ _ _ h, r⟩
theorem pe_or {t t' : TE} (h : PE X e t) (h' : PE X e t') : PE X e fun σ H Q => t σ H Q ∨ t' σ H Q := ⟨fun pins s σ H Q I q => q.elim (h.run pins s σ H Q I) (h'.run pins s σ H Q I)⟩
theorem pde_or {t t' : DE} (h : PDE X Wx e t) (h' : PDE X Wx e t') : PDE X Wx e fun Γ O Q E => t Γ O Q E ∨ t' Γ O Q E := L2.PE.imp (UZ.pe_or h h') fun σ H Q ⟨Γ, O, S, ρ, Q', E', st, h, r⟩ => h.elim (fun h => .inl ⟨Γ, O, S, ρ, Q', E', st, h, r⟩) fun h => .inr ⟨Γ, O, S, ρ, Q', E', st, h, r⟩

/-! ### names, constants -/
def vV (i : Nat) : VE := fun Γ O => match Γ[i]? with
  | some (some w) => .ok w O
  | _ => .bad
def vC (x : PyData) : VE := fun _ O => .ok (.d x) O
def vCw (w : W) : VE := fun _ O => .ok w O
variable {a b : Expr} {pos : Pos}
theorem vv (i : Nat) {t : DE} (h : PDE X Wx e (dV i)) : PVE X Wx e (vV i) := pde_imp h fun Γ O Q E h => by
  unfold oE vV at h; unfold dV
  split at h
  · rename_i w e; try rw [e]
    exact h
  · exact h.elim
theorem v_v (i : Nat) {x : Str} (hN : X.N[i]? = some x := by rfl) (hv : Vis X.env.scope x := by first | exact Or.inl rfl | exact Or.inr (Or.inl rfl) | exact Or.inr (Or.inr rfl)) (hd : (x == ("__debug__" : Str)) = false := by decide)
    (hcd : (x == ("__classdict__" : Str)) = false := by decide) : PVE X Wx (.Name x pos) (vV i) := vv i (t := dV i) (d_v i hN hv hd hcd)
theorem v_c {x : PyData} (h : PDE X Wx e (dC x)) : PVE X Wx e (vC x) := pde_imp h fun _ _ _ _ h => h
theorem v_cw {x : W} (h : PDE X Wx e (dCw x)) : PVE X Wx e (vCw x) := pde_imp h fun _ _ _ _ h => h
theorem v_int {i : Int} {j} : PVE X Wx (.Constant (.int i) j pos) (vC (.int i)) := v_c d_int
theorem v_bl {i : Bool} {j} : PVE X Wx (.Constant (.bool i) j pos) (vC (.bool i)) := v_c d_bl
theorem v_str {i : Str} {j} : PVE X Wx (.Constant (.str i) j pos) (vC (.str i)) := v_c d_str
theorem v_non {j} : PVE X Wx (.Constant .none j pos) (vC .none) := v_c d_non

/-! ### operators of two values -/
abbrev U2 := W → W → List Ob → Option (W × List Ob)
def oF (f : U2) : F2 := fun x y O Q => ∃ w O', f x y O = some (w, O') ∧ Q w O'
abbrev OpV (X : Cx) (g : Value → Value → Sem Value) (f : U2) : Prop := OpD X g (oF f)
def vOp (f : U2) (ta tb : VE) : VE := fun Γ O => (ta Γ O).bind fun x O1 => (tb Γ O1).bind fun y O2 => .ofO (f x y O2)
theorem op_imp {f : U2} {ta tb : VE} {Γ : Gm} {O : List Ob} {Q : DQ} {E : DX} (h : oE (vOp f ta tb) Γ O Q E) : dOp (oF f) (oE ta) (oE tb) Γ O Q E := by
  unfold oE vOp at h
  rw [R.run_bind] at h
  refine R.run_imp h (fun x O1 h => ?_) fun _ _ h => h
  rw [R.run_bind] at h
  refine R.run_imp h (fun y O2 h => ?_) fun _ _ h => h
  exact R.run_ofO h
theorem v_op {op : Operator} {f : U2} {ta tb : VE} (ho : OpV X (binaryOp op) f) (ha : PVE X Wx a ta) (hb : PVE X Wx b tb) : PVE X Wx (.BinOp a op b pos) (vOp f ta tb) := pde_imp (d_op ho ha hb) fun _ _ _ _ h => op_imp h
theorem v_cmp {op : CmpOp} {f : U2} {ta tb : VE} (ho : OpV X (compareOp op) f) (ha : PVE X Wx a ta) (hb : PVE X Wx b tb) (hm : behindInMarks op b = false := by first | exact nomark _ | rfl) : PVE X Wx (.Compare a [op] [b] pos) (vOp f ta tb) := pde_imp (d_cmp ho ha hb hm) fun _ _ _ _ h => op_imp h
theorem opd_or {g : Value → Value → Sem Value} {f f' : F2} (h : OpD X g f) (h' : OpD X g f') : OpD X g fun x y O Q => f x y O Q ∨ f' x y O Q :=
  fun pins s σ H x y v u Q I rx ry ⟨wx, wy, O, S, ρ, Q', wd, r1, r2, q, kq⟩ => q.elim (fun q => h pins s σ H x y v u Q I rx ry ⟨wx, wy, O, S, ρ, Q', wd, r1, r2, q, kq⟩) fun q => h' pins s σ H x y v u Q I rx ry ⟨wx, wy, O, S, ρ, Q', wd, r1, r2, q, kq⟩
theorem opd_imp {g : Value → Value → Sem Value} {f f' : F2} (h : OpD X g f) (i : ∀ x y O Q, f' x y O Q → f x y O Q) : OpD X g f' :=
  fun pins s σ H x y v u Q I rx ry ⟨wx, wy, O, S, ρ, Q', wd, r1, r2, q, kq⟩ => h pins s σ H x y v u Q I rx ry ⟨wx, wy, O, S, ρ, Q', wd, r1, r2, i _ _ _ _ q, kq⟩
abbrev U1 := W → List Ob → Option (W × List Ob)
def oF1 (f : U1) : F1 := fun x O Q => ∃ w O', f x O = some (w, O') ∧ Q w O'
abbrev UnV (X : Cx) (g : Value → Sem Value) (f : U1) : Prop := UnD X g (oF1 f)
def vUn (f : U1) (ta : VE) : VE := fun Γ O => (ta Γ O).bind fun x O1 => .ofO (f x O1)
theorem un_imp {f : U1} {ta : VE} {Γ : Gm} {O : List Ob} {Q : DQ} {E : DX} (h : oE (vUn f ta) Γ O Q E) : dUn (oF1 f) (oE ta) Γ O Q E := by
  unfold oE vUn at h
  rw [R.run_bind] at h
  exact R.run_imp h (fun x O1 h => R.run_ofO h) fun _ _ h => h
theorem v_un {op : UnaryOp} {f : U1} {ta : VE} (ho : UnV X (unaryOp op) f) (ha : PVE X Wx a ta) : PVE X Wx (.UnaryOp op a pos) (vUn f ta) := pde_imp (d_un ho ha) fun _ _ _ _ h => un_imp h

/-! ### tests -/
def asB : W → Option Bool
  | .d (.bool b) => some b
  | _ => none
def bB (r : R W) : R Bool := r.bind fun w O => match asB w with
  | some b => .ok b O
  | none => .bad
def vTst (t : VE) : VT := fun Γ O => bB (t Γ O)
@[simp] theorem bB_ok {b : Bool} {O : List Ob} : bB (.ok (.d (.bool b)) O) = .ok b O := rfl
@[simp] theorem bB_ex {x : Xc} {O : List Ob} : bB (.ex x O) = .ex x O := rfl
theorem bB_run {r : R W} {Q : Bool → List Ob → Prop} {E : DX} (h : (bB r).run Q E) : r.run (onB Q) E := by
  unfold bB at h
  rw [R.run_bind] at h
  refine R.run_imp h (fun w O h => ?_) fun _ _ h => h
  split at h
  · rename_i b e
    unfold asB at e
    split at e
    · cases e; exact h
    · cases e
  · exact h.elim
theorem v_tst {t : VE} (h : PVE X Wx e t) (he : ∀ whole, isTrue e X.env whole = (do let v ← whole; standAt e.pos; holding [v] (truthy v)) := by intro _; rfl) : PVT X Wx e (vTst t) := pdt_imp (d_tst h he) fun Γ O Q E h => bB_run h
theorem v_tcmp {op : CmpOp} {f : U2} {ta tb : VE} (ho : OpV X (compareOp op) f) (ha : PVE X Wx a ta) (hb : PVE X Wx b tb) (hm : behindInMarks op b = false := by first | exact nomark _ | rfl) : PVT X Wx (.Compare a [op] [b] pos) (vTst (vOp f ta tb)) :=
  pdt_imp (d_tcmp ho ha hb hm) fun Γ O Q E h => op_imp (bB_run h)
def vNotT (t : VT) : VT := fun Γ O => (t Γ O).bind fun b O1 => .ok (!b) O1
theorem v_not {t : VT} (h : PVT X Wx a t) : PVT X Wx (.UnaryOp .Not a pos) (vNotT t) := pdt_imp (d_not h) fun Γ O Q E h => by
  unfold oT vNotT at h
  rw [R.run_bind] at h
  exact h
def vAndT (t u : VT) : VT := fun Γ O => (t Γ O).bind fun b O1 => if b = true then u Γ O1 else .ok false O1
def vOrT (t u : VT) : VT := fun Γ O => (t Γ O).bind fun b O1 => if b = true then .ok true O1 else u Γ O1
variable {rest : List Expr}
theorem v_and1 {t : VT} (h : PVT X Wx a t) : PVW X Wx (.BoolOp .And [a] pos) t := d_and1 h
theorem v_or1 {t : VT} (h : PVT X Wx a t) : PVW X Wx (.BoolOp .Or [a] pos) t := d_or1 h
theorem v_and {t u : VT} (ha : PVT X Wx a t) (hb : PVW X Wx (.BoolOp .And (b :: rest) pos) u) : PVW X Wx (.BoolOp .And (a :: b :: rest) pos) (vAndT t u) := pdw_imp (d_and ha hb) fun Γ O Q E h => by
  unfold oT vAndT at h
  rw [R.run_bind] at h
  refine R.run_imp h (fun k O1 h => ?_) fun _ _ h => h
  cases k <;> exact h
theorem v_or {t u : VT} (ha : PVT X Wx a t) (hb : PVW X Wx (.BoolOp .Or (b :: rest) pos) u) : PVW X Wx (.BoolOp .Or (a :: b :: rest) pos) (vOrT t u) := pdw_imp (d_or ha hb) fun Γ O Q E h => by
  unfold oT vOrT at h
  rw [R.run_bind] at h
  refine R.run_imp h (fun k O1 h => ?_) fun _ _ h => h
  cases k <;> exact h
theorem v_w {t : VT} (h : PVW X Wx e t) : PVT X Wx e t := d_w h
def vAndV (ta tb : VE) : VE := fun Γ O => (bB (ta Γ O)).bind fun b O1 => if b = true then tb Γ O1 else .ok (.d (.bool false)) O1
def vOrV (ta tb : VE) : VE := fun Γ O => (bB (ta Γ O)).bind fun b O1 => if b = true then .ok (.d (.bool true)) O1 else tb Γ O1
def vNotV (ta : VE) : VE := fun Γ O => (bB (ta Γ O)).bind fun b O1 => .ok (.d (.bool !b)) O1
theorem v_oneV {op} {t : VE} (h : PVE X Wx a t) : PVE X Wx (.BoolOp op [a] pos) t := d_oneV h
theorem v_andV {ta tb : VE} (ha : PVE X Wx a ta) (hb : PVE X Wx (.BoolOp .And (b :: rest) pos) tb) : PVE X Wx (.BoolOp .And (a :: b :: rest) pos) (vAndV ta tb) := pde_imp (d_andV ha hb) fun Γ O Q E h => by
  unfold oE vAndV at h
  rw [R.run_bind] at h
  refine R.run_imp (bB_run h) (fun w O1 h => ?_) fun _ _ h => h
  unfold onB at h ⊢
  split at h
  · rename_i k
    cases k <;> exact h
  · exact h.elim
theorem v_orV {ta tb : VE} (ha : PVE X Wx a ta) (hb : PVE X Wx (.BoolOp .Or (b :: rest) pos) tb) : PVE X Wx (.BoolOp .Or (a :: b :: rest) pos) (vOrV ta tb) := pde_imp (d_orV ha hb) fun Γ O Q E h => by
  unfold oE vOrV at h
  rw [R.run_bind] at h
  refine R.run_imp (bB_run h) (fun w O1 h => ?_) fun _ _ h => h
  unfold onB at h ⊢
  split at h
  · rename_i k
    cases k <;> exact h
  · exact h.elim
theorem v_notV {ta : VE} (ha : PVE X Wx a ta) : PVE X Wx (.UnaryOp .Not a pos) (vNotV ta) := pde_imp (d_notV ha) fun Γ O Q E h => by
  unfold oE vNotV at h
  rw [R.run_bind] at h
  refine R.run_imp (bB_run h) (fun w O1 h => ?_) fun _ _ h => h
  unfold onB at h ⊢
  split at h
  · exact h
  · exact h.elim
def vIfE (t : VT) (ta tb : VE) : VE := fun Γ O => (t Γ O).bind fun b O1 => if b = true then ta Γ O1 else tb Γ O1
theorem v_ifE {c : Expr} {t : VT} {ta tb : VE} (hc : PVT X Wx c t) (ha : PVE X Wx a ta) (hb : PVE X Wx b tb) : PVE X Wx (.IfExp c a b pos) (vIfE t ta tb) := pde_imp (d_ifE hc ha hb) fun Γ O Q E h => by
  unfold oE vIfE at h
  rw [R.run_bind] at h
  refine R.run_imp h (fun k O1 h => ?_) fun _ _ h => h
  cases k <;> exact h
/-- a < b < c -/
def vChain (f g : U2) (ta tb tc : VE) : VE := fun Γ O => (ta Γ O).bind fun x O1 => (tb Γ O1).bind fun y O2 => (bB (.ofO (f x y O2))).bind fun b O3 => if b = true then (tc Γ O3).bind fun u O4 => .ofO (g y u O4) else .ok (.d (.bool false)) O3
theorem ofO_q {o : Option (W × List Ob)} {Q : DQ} {E : DX} (h : (R.ofO o).run Q E) : ∃ w O', o = some (w, O') ∧ Q w O' := R.run_ofO h
theorem chain_imp {f g : U2} {ta tb tc : VE} {Γ : Gm} {O : List Ob} {Q : DQ} {E : DX} (h : oE (vChain f g ta tb tc) Γ O Q E) : dChain (oF f) (oF g) (oE ta) (oE tb) (oE tc) Γ O Q E := by
  unfold oE vChain at h
  rw [R.run_bind] at h
  refine R.run_imp h (fun x O1 h => ?_) fun _ _ h => h
  rw [R.run_bind] at h
  refine R.run_imp h (fun y O2 h => ?_) fun _ _ h => h
  rw [R.run_bind] at h
  obtain ⟨w, O', e, q⟩ := R.run_ofO (bB_run h)
  refine ⟨w, O', e, ?_⟩
  unfold onB at q ⊢
  split at q
  · rename_i k
    cases k with
    | false => exact q
    | true =>
      rw [if_pos rfl, R.run_bind] at q
      exact R.run_imp q (fun u O4 h => R.run_ofO h) fun _ _ h => h
  · exact q.elim
theorem v_chain {op op' : CmpOp} {f g : U2} {c : Expr} {ta tb tc : VE} (ho : OpV X (compareOp op) f) (ho' : OpV X (compareOp op') g) (ha : PVE X Wx a ta) (hb : PVE X Wx b tb) (hc : PVE X Wx c tc)
    (hm : lastMarks [op, op'] [b, c] = false := by with_unfolding_all rfl) : PVE X Wx (.Compare a [op, op'] [b, c] pos) (vChain f g ta tb tc) := pde_imp (d_chain ho ho' ha hb hc hm) fun _ _ _ _ h => chain_imp h
theorem v_tchain {op op' : CmpOp} {f g : U2} {c : Expr} {ta tb tc : VE} (ho : OpV X (compareOp op) f) (ho' : OpV X (compareOp op') g) (ha : PVE X Wx a ta) (hb : PVE X Wx b tb) (hc : PVE X Wx c tc)
    (hm : lastMarks [op, op'] [b, c] = false := by with_unfolding_all rfl) : PVT X Wx (.Compare a [op, op'] [b, c] pos) (vTst (vChain f g ta tb tc)) := pdt_imp (d_tchain ho ho' ha hb hc hm) fun _ _ _ _ h => chain_imp (bB_run h)

/-! ### argument lists, displays -/
def vNil : VA := fun _ O => .ok [] O
def vCons (t : VE) (u : VA) : VA := fun Γ O => (t Γ O).bind fun w O1 => (u Γ O1).bind fun ws O2 => .ok (w :: ws) O2
theorem v_nil : PVA X Wx [] vNil := pda_imp d_nil fun _ _ _ _ h => h
theorem v_cons {t : VE} {u : VA} (h : PVE X Wx e t) (hr : PVA X Wx es u) (hs : starEach (e :: es) X.env = (false, eval e X.env) :: starEach es X.env := by rfl) : PVA X Wx (e :: es) (vCons t u) := pda_imp (d_cons h hr hs) fun Γ O Q E h => by
  unfold oA vCons at h
  rw [R.run_bind] at h
  refine R.run_imp h (fun w O1 h => ?_) fun _ _ h => h
  rw [R.run_bind] at h
  exact h
/-- a tuple -/
def vTup (u : VA) : VE := fun Γ O => (u Γ O).bind fun ws O1 => if ws.length ≤ sizeLine then .ok (mkT ws) O1 else .bad
theorem v_tup {u : VA} {x1} (h : PVA X Wx es u) : PVE X Wx (.Tuple es x1 pos) (vTup u) := pde_imp (d_tup h) fun Γ O Q E h => by
  unfold oE vTup at h
  rw [R.run_bind] at h
  refine R.run_imp h (fun ws O1 h => ?_) fun _ _ h => h
  split at h
  · rename_i hl; exact ⟨hl, h⟩
  · exact h.elim
/-- a new list: of data alone never changed again, else to be changed -/
def mkL (ws : List W) (O : List Ob) : W × List Ob := match allD ws with
  | some xs => (.d (.list xs), O)
  | none => (.o O.length, O ++ [.lst ws])
def mkO (ws : List W) (O : List Ob) : W × List Ob := (.o O.length, O ++ [.lst ws])
def vLst (u : VA) : VE := fun Γ O => (u Γ O).bind fun ws O1 => if ws.length ≤ sizeLine then .ok (mkL ws O1).1 (mkL ws O1).2 else .bad
def vLstO (u : VA) : VE := fun Γ O => (u Γ O).bind fun ws O1 => if ws.length ≤ sizeLine then .ok (mkO ws O1).1 (mkO ws O1).2 else .bad
theorem v_lstO {u : VA} (h : PVA X Wx es u) : PVE X Wx (.List es pos) (vLstO u) := pde_imp (d_lstO h) fun Γ O Q E h => by
  unfold oE vLstO at h
  rw [R.run_bind] at h
  refine R.run_imp h (fun ws O1 h => ?_) fun _ _ h => h
  split at h
  · rename_i hl; exact ⟨hl, h⟩
  · exact h.elim
theorem v_lst {u : VA} (h : PVA X Wx es u) : PVE X Wx (.List es pos) (vLst u) := pde_imp (pde_or (d_lst h) (d_lstO h)) fun Γ O Q E h => by
  unfold oE vLst at h
  unfold dLst dLstO oA
  cases e : u Γ O with
  | bad => rw [e] at h; exact h.elim
  | ex x O1 => rw [e] at h; exact .inl h
  | ok ws O1 =>
    rw [e] at h
    dsimp only [R.bind] at h
    split at h
    · rename_i hl
      unfold mkL at h
      cases ea : allD ws with
      | some xs => rw [ea] at h; refine .inl ⟨hl, ?_⟩; rw [ea]; exact h
      | none => rw [ea] at h; exact .inr ⟨hl, h⟩
    · exact h.elim

/-! ### indices, slices -/
abbrev IxV (X : Cx) (f : U2) : Prop := IxD X (oF f)
theorem ixd_or {f f' : F2} (h : IxD X f) (h' : IxD X f') : IxD X fun x y O Q => f x y O Q ∨ f' x y O Q :=
  (h.or h').imp fun x y H Q ⟨wx, wy, O, S, ρ, Q', wd, r1, r2, q, kq⟩ => q.elim (fun q => .inl ⟨wx, wy, O, S, ρ, Q', wd, r1, r2, q, kq⟩) fun q => .inr ⟨wx, wy, O, S, ρ, Q', wd, r1, r2, q, kq⟩
theorem ixd_imp {f f' : F2} (h : IxD X f) (i : ∀ x y O Q, f' x y O Q → f x y O Q) : IxD X f' := h.imp fun x y H Q ⟨wx, wy, O, S, ρ, Q', wd, r1, r2, q, kq⟩ => ⟨wx, wy, O, S, ρ, Q', wd, r1, r2, i _ _ _ _ q, kq⟩
theorem v_ix {f : U2} {ta tb : VE} (hf : IxV X f) (ha : PVE X Wx a ta) (hb : PVE X Wx b tb) (hs : PlainIx b := by exact fun _ _ => rfl) : PVE X Wx (.Subscript a b pos) (vOp f ta tb) := pde_imp (d_ix hf ha hb hs) fun _ _ _ _ h => op_imp h
def vNoP : VO := fun _ O => .ok none O
def vPart (t : VE) : VO := fun Γ O => (t Γ O).bind fun w O1 => match w with
  | .d (.int i) => .ok (some i) O1
  | _ => .bad
theorem v_noP : PVO X Wx none vNoP := pdo_imp d_noP fun _ _ _ _ h => h
theorem v_part {t : VE} (h : PVE X Wx e t) : PVO X Wx (some e) (vPart t) := pdo_imp (d_part h) fun Γ O Q E h => by
  unfold oO vPart at h
  rw [R.run_bind] at h
  refine R.run_imp h (fun w O1 h => ?_) fun _ _ h => h
  split at h
  · exact h
  · exact h.elim
abbrev US := W → Option Int → Option Int → List Ob → Option (W × List Ob)
def oFS (f : US) : FS := fun x lo hi O Q => ∃ w O', f x lo hi O = some (w, O') ∧ Q w O'
def vSl (f : US) (t : VE) (tl th : VO) : VE := fun Γ O => (t Γ O).bind fun x O1 => (tl Γ O1).bind fun lo O2 => (th Γ O2).bind fun hi O3 => .ofO (f x lo hi O3)
theorem slr_or {r r' : V → Option Int → Option Int → Hp → VK → Prop} (h : SlR X r) (h' : SlR X r') : SlR X fun x lo hi H Q => r x lo hi H Q ∨ r' x lo hi H Q := fun pins s σ H x v vl vu lo hi sl Q I rx hs pl pu q => q.elim (h pins s σ H x v vl vu lo hi sl Q I rx hs pl pu) (h' pins s σ H x v vl vu lo hi sl Q I rx hs pl pu)
theorem sls_or {f f' : FS} (h : SlR X (rS X.K f)) (h' : SlR X (rS X.K f')) : SlR X (rS X.K fun x lo hi O Q => f x lo hi O Q ∨ f' x lo hi O Q) := (slr_or h h').imp fun x lo hi H Q ⟨wx, O, S, ρ, Q', wd, r1, q, kq⟩ => q.elim (fun q => .inl ⟨wx, O, S, ρ, Q', wd, r1, q, kq⟩) fun q => .inr ⟨wx, O, S, ρ, Q', wd, r1, q, kq⟩
theorem sls_imp {f f' : FS} (h : SlR X (rS X.K f)) (i : ∀ x lo hi O Q, f' x lo hi O Q → f x lo hi O Q) : SlR X (rS X.K f') := h.imp fun x lo hi H Q ⟨wx, O, S, ρ, Q', wd, r1, q, kq⟩ => ⟨wx, O, S, ρ, Q', wd, r1, i _ _ _ _ _ q, kq⟩
theorem v_sl {f : US} {lo hi : Option Expr} {p2 : Pos} {t : VE} {tl th : VO} (hf : SlR X (rS X.K (oFS f))) (he : PVE X Wx e t) (hl : PVO X Wx lo tl) (hh : PVO X Wx hi th) : PVE X Wx (.Subscript e (.Slice lo hi none p2) pos) (vSl f t tl th) := pde_imp (d_sl hf he hl hh) fun Γ O Q E h => by
  unfold oE vSl at h
  rw [R.run_bind] at h
  refine R.run_imp h (fun x O1 h => ?_) fun _ _ h => h
  rw [R.run_bind] at h
  refine R.run_imp h (fun l O2 h => ?_) fun _ _ h => h
  rw [R.run_bind] at h
  refine R.run_imp h (fun u O3 h => ?_) fun _ _ h => h
  exact R.run_ofO h

/-! ### built-in functions and classes called -/
abbrev UC := List W → List Ob → Option (W × List Ob)
def oFC (f : UC) : FC := fun ws O Q => ∃ w O', f ws O = some (w, O') ∧ Q w O'
abbrev CallV (X : Cx) (g : Value) (f : UC) : Prop := CallD X g (oFC f)
theorem calld_or {g : Value} {f f' : FC} (h : CallD X g f) (h' : CallD X g f') : CallD X g fun ws O Q => f ws O Q ∨ f' ws O Q := (h.or h').imp fun xs H Q ⟨ws, O, S, ρ, Q', wd, r, q, kq⟩ => q.elim (fun q => .inl ⟨ws, O, S, ρ, Q', wd, r, q, kq⟩) fun q => .inr ⟨ws, O, S, ρ, Q', wd, r, q, kq⟩
theorem calld_imp {g : Value} {f f' : FC} (h : CallD X g f) (i : ∀ ws O Q, f' ws O Q → f ws O Q) : CallD X g f' := h.imp fun xs H Q ⟨ws, O, S, ρ, Q', wd, r, q, kq⟩ => ⟨ws, O, S, ρ, Q', wd, r, i _ _ _ q, kq⟩
def vCB (f : UC) (u : VA) : VE := fun Γ O => (u Γ O).bind fun ws O1 => .ofO (f ws O1)
theorem cb_imp {f : UC} {u : VA} {Γ : Gm} {O : List Ob} {Q : DQ} {E : DX} (h : oE (vCB f u) Γ O Q E) : dCB (oFC f) (oA u) Γ O Q E := by
  unfold oE vCB at h
  rw [R.run_bind] at h
  exact R.run_imp h (fun ws O1 h => R.run_ofO h) fun _ _ h => h
variable {x : Str} {p : Pos} {id T : String}
theorem v_cb {f : UC} {u : VA} (hc : CallV X (.builtin id) f) (hm : X.mg x = none) (hv : bootBuiltins x = some (.builtin id)) (ha : PVA X Wx (e :: es) u) (hg : Gl X x := by rfl) (hn : x ≠ "__name__" := by decide) (hdb : (x == ("__debug__" : Str)) = false := by decide)
    (he : starEach (e :: es) X.env = (false, eval e X.env) :: starEach es X.env := by rfl) (hpl : (backTo pos (starEach es X.env)).any (·.1) = false := by rfl) : PVE X Wx (.Call (.Name x p) (e :: es) [] pos) (vCB f u) := pde_imp (d_cb hc hm hv ha hg hn hdb he hpl) fun _ _ _ _ h => cb_imp h
theorem v_ct {f : UC} {u : VA} (hc : CallV X (.type T) f) (hm : X.mg x = none) (hv : bootBuiltins x = some (.type T)) (ha : PVA X Wx (e :: es) u) (hg : Gl X x := by rfl) (hn : x ≠ "__name__" := by decide) (hdb : (x == ("__debug__" : Str)) = false := by decide)
    (he : starEach (e :: es) X.env = (false, eval e X.env) :: starEach es X.env := by rfl) (hpl : (backTo pos (starEach es X.env)).any (·.1) = false := by rfl) : PVE X Wx (.Call (.Name x p) (e :: es) [] pos) (vCB f u) := pde_imp (d_ct hc hm hv ha hg hn hdb he hpl) fun _ _ _ _ h => cb_imp h
theorem v_ty {x : Str} {T : String} (hm : X.mg x = none) (hv : bootBuiltins x = some (.type T)) (hg : Gl X x := by rfl) (hn : x ≠ "__name__" := by decide) (hd : (x == ("__debug__" : Str)) = false := by decide) : PVE X Wx (.Name x pos) (vCw (.v (.ty T))) := v_cw (d_ty hm hv hg hn hd)
theorem v_gstr {x : Str} {z : Str} {t : Tok} (hm : X.mg x = some (.str z t)) (hg : Gl X x := by rfl) (hd : (x == ("__debug__" : Str)) = false := by decide) : PVE X Wx (.Name x pos) (vC (.str z)) := v_c (d_gstr hm hg hd)
theorem v_gint {x : Str} {z : Int} {t : Tok} (hm : X.mg x = some (.int z t)) (hg : Gl X x := by rfl) (hd : (x == ("__debug__" : Str)) = false := by decide) : PVE X Wx (.Name x pos) (vC (.int z)) := v_c (d_gint hm hg hd)
end
end UZ
/-! V, part B: operators by what they are given. -/
namespace UZ
open PySem PySem.Spec PyProof.Rows L2

/-! ### data read through the objects -/
def mapO {α β : Type} (f : α → Option β) : List α → Option (List β)
  | [] => some []
  | x :: xs => match f x, mapO f xs with
    | some y, some ys => some (y :: ys)
    | _, _ => none
theorem mapO_map {α β γ : Type} {f : β → Option γ} {g : α → β} {h : α → γ} : ∀ {l : List α}, (∀ x ∈ l, f (g x) = some (h x)) → mapO f (l.map g) = some (l.map h)
  | [], _ => rfl
  | x :: l, hl => by
    show (match f (g x), mapO f (l.map g) with | some y, some ys => some (y :: ys) | _, _ => none) = _
    rw [hl x (List.mem_cons_self ..), mapO_map fun y hy => hl y (List.mem_cons_of_mem _ hy)]
    rfl
/-- a value as data, its own objects (those from n0 on) read -/
def rsW (n0 : Nat) (O : List Ob) : Nat → W → Option PyData
  | _, .d x => some x
  | n + 1, .o k => if n0 ≤ k then match O[k]? with
    | some (.lst ws) => (mapO (rsW n0 O n) ws).map .list
    | _ => none else none
  | n + 1, .tp ws => (mapO (rsW n0 O n) ws).map .tuple
  | _, _ => none
@[simp] theorem rsW_d {n0 : Nat} {O : List Ob} {n : Nat} {x : PyData} : rsW n0 O n (.d x) = some x := by cases n <;> rfl
theorem rsW_o {n0 : Nat} {O : List Ob} {n k : Nat} {ws : List W} (h0 : n0 ≤ k) (h : O[k]? = some (.lst ws)) : rsW n0 O (n + 1) (.o k) = (mapO (rsW n0 O n) ws).map .list := by
  show (if n0 ≤ k then match O[k]? with | some (.lst ws) => (mapO (rsW n0 O n) ws).map PyData.list | _ => none else none) = _
  rw [if_pos h0, h]
@[simp] theorem rsW_tp {n0 : Nat} {O : List Ob} {n : Nat} {ws : List W} : rsW n0 O (n + 1) (.tp ws) = (mapO (rsW n0 O n) ws).map .tuple := rfl
@[simp] theorem mapO_d {n0 : Nat} {O : List Ob} {n : Nat} {xs : List PyData} : mapO (rsW n0 O n) (xs.map .d) = some xs := by
  have := mapO_map (f := rsW n0 O n) (g := W.d) (h := id) (l := xs) fun x _ => rsW_d
  simpa using this
theorem rsNL_of {n0 : Nat} {O : List Ob} {f : W → Option PyData} (hf : ∀ w x, f w = some x → RsN n0 O w x) : ∀ {ws : List W} {xs : List PyData}, mapO f ws = some xs → RsNL n0 O ws xs
  | [], xs, h => by cases h; exact .nil
  | w :: ws, xs, h => by
    unfold mapO at h
    split at h
    · rename_i y ys e1 e2
      cases h
      exact .cons (hf _ _ e1) (rsNL_of hf e2)
    · cases h
theorem rsW_N {n0 : Nat} {O : List Ob} : ∀ (n : Nat) (w : W) (x : PyData), rsW n0 O n w = some x → RsN n0 O w x
  | n, .d y, x, h => by rw [rsW_d] at h; cases h; exact .d
  | n + 1, .o k, x, h => by
    unfold rsW at h
    split at h
    · rename_i h0
      split at h
      · rename_i ws e
        cases em : mapO (rsW n0 O n) ws with
        | none => rw [em] at h; cases h
        | some xs =>
          rw [em] at h; cases h
          exact .o h0 e (rsNL_of (rsW_N n) em)
      · cases h
    · cases h
  | n + 1, .tp ws, x, h => by
    unfold rsW at h
    cases em : mapO (rsW n0 O n) ws with
    | none => rw [em] at h; cases h
    | some xs =>
      rw [em] at h; cases h
      exact .tp (rsNL_of (rsW_N n) em)
  | 0, .o k, x, h => by cases h
  | 0, .tp ws, x, h => by cases h
  | n + 1, .rl _, x, h => by cases h
  | n + 1, .v _, x, h => by cases h
  | n + 1, .exc _ _ _, x, h => by cases h
  | n + 1, .gl _, x, h => by cases h
  | n + 1, .xv _ _, x, h => by cases h
  | 0, .rl _, x, h => by cases h
  | 0, .v _, x, h => by cases h
  | 0, .exc _ _ _, x, h => by cases h
  | 0, .gl _, x, h => by cases h
  | 0, .xv _ _, x, h => by cases h
mutual
theorem RsN.rs {O : List Ob} : ∀ {w : W} {x : PyData}, RsN 0 O w x → Rs O w x
  | _, _, .d => .d
  | _, _, .o _ e r => .o e (RsNL.rs r)
  | _, _, .tp r => .tp (RsNL.rs r)
theorem RsNL.rs {O : List Ob} : ∀ {w : List W} {x : List PyData}, RsNL 0 O w x → RsL O w x
  | _, _, .nil => .nil
  | _, _, .cons h r => .cons (RsN.rs h) (RsNL.rs r)
end
theorem rsW_rs {O : List Ob} {n : Nat} {w : W} {x : PyData} (h : rsW 0 O n w = some x) : Rs O w x := (rsW_N n w x h).rs

section
variable {X : Cx}
/-! ### arithmetic -/
def MulOk (i j : Int) : Prop := i.natAbs.log2 < 64 ∨ j.natAbs.log2 < 64 ∨ i.natAbs.log2 + j.natAbs.log2 < 100000000
instance (i j : Int) : Decidable (MulOk i j) := inferInstanceAs (Decidable (_ ∨ _))
theorem MulOk.ok {i j : Int} (h : MulOk i j) : IntMulOk i j := by
  have b : ∀ x : Int, Builtin.Int.intBits x ≤ x.natAbs.log2 + 1 := fun x => by
    unfold Builtin.Int.intBits
    split <;> omega
  have h1 := b i
  have h2 := b j
  rcases h with h3 | h3 | h3
  · exact .of_left (by omega)
  · exact .of_right (by omega)
  have e : bitsLine = 134217728 := by decide
  unfold IntMulOk
  intro z
  rw [Bool.and_eq_true] at z
  have z2 := z.2
  unfold Builtin.Int.intTooBig at z2
  have z3 := of_decide_eq_true z2
  rw [e] at z3
  omega
def DivOk (j : Int) : Prop := j ≠ 0 ∧ j.natAbs.log2 < 9000
instance (j : Int) : Decidable (DivOk j) := inferInstanceAs (Decidable (_ ∧ _))
def uInt (g : Int → Int → PyData) : U2 := fun x y O => match x, y with
  | .d (.int i), .d (.int j) => some (.d (g i j), O)
  | _, _ => none
def uIntC (C : Int → Int → Prop) [∀ i j, Decidable (C i j)] (g : Int → Int → PyData) : U2 := fun x y O => match x, y with
  | .d (.int i), .d (.int j) => if C i j then some (.d (g i j), O) else none
  | _, _ => none
@[simp] theorem uInt_i {g : Int → Int → PyData} {i j : Int} {O : List Ob} : uInt g (.d (.int i)) (.d (.int j)) O = some (.d (g i j), O) := rfl
theorem uIntC_i {C : Int → Int → Prop} [∀ i j, Decidable (C i j)] {g : Int → Int → PyData} {i j : Int} {O : List Ob} (h : C i j) : uIntC C g (.d (.int i)) (.d (.int j)) O = some (.d (g i j), O) := if_pos h
theorem uInt_inv {g : Int → Int → PyData} {x y w : W} {O O' : List Ob} (h : uInt g x y O = some (w, O')) : ∃ i j, x = .d (.int i) ∧ y = .d (.int j) ∧ w = .d (g i j) ∧ O' = O := by
  unfold uInt at h
  split at h
  · cases h; exact ⟨_, _, rfl, rfl, rfl, rfl⟩
  · cases h
theorem uIntC_inv {C : Int → Int → Prop} [∀ i j, Decidable (C i j)] {g : Int → Int → PyData} {x y w : W} {O O' : List Ob} (h : uIntC C g x y O = some (w, O')) : ∃ i j, x = .d (.int i) ∧ y = .d (.int j) ∧ C i j ∧ w = .d (g i j) ∧ O' = O := by
  unfold uIntC at h
  split at h
  · split at h
    · rename_i c
      cases h; exact ⟨_, _, rfl, rfl, c, rfl, rfl⟩
    · cases h
  · cases h
theorem uInt_ok {f : Value → Value → Sem Value} {g : Int → Int → PyData} (h : OpD X f (fI0 g)) : OpV X f (uInt g) := opd_imp h fun x y O Q ⟨w, O', e, q⟩ => by
  obtain ⟨i, j, rfl, rfl, rfl, rfl⟩ := uInt_inv e
  exact q
theorem uIntC_ok {f : Value → Value → Sem Value} {C : Int → Int → Prop} [∀ i j, Decidable (C i j)] {g : Int → Int → PyData} (h : OpD X f (fI C g)) : OpV X f (uIntC C g) := opd_imp h fun x y O Q ⟨w, O', e, q⟩ => by
  obtain ⟨i, j, rfl, rfl, c, rfl, rfl⟩ := uIntC_inv e
  exact ⟨c, q⟩
abbrev uSub : U2 := uInt fun i j => .int (i - j)
abbrev uDiv : U2 := uIntC (fun _ j => DivOk j) fun i j => .int (i.fdiv j)
abbrev uMod : U2 := uIntC (fun _ j => j ≠ 0) fun i j => .int (i.fmod j)
abbrev uPow : U2 := uIntC (fun i j => 0 ≤ j ∧ j ≤ 1000000 ∧ i.natAbs < 2 ^ 64) fun i j => .int (i ^ j.toNat)
abbrev uAnd : U2 := uInt fun i j => .int (Builtin.bitAnd i j)
abbrev uLt : U2 := uInt fun i j => .bool (decide (i < j))
abbrev uLe : U2 := uInt fun i j => .bool (decide (i ≤ j))
abbrev uGt : U2 := uInt fun i j => .bool (decide (j < i))
abbrev uGe : U2 := uInt fun i j => .bool (decide (j ≤ i))
theorem p_sub : OpV X (binaryOp .Sub) uSub := uInt_ok o_sub
theorem p_div : OpV X (binaryOp .FloorDiv) uDiv := uIntC_ok (fI_ok (C := fun _ j => DivOk j) (gV := fun i j => .int (i.fdiv j)) (opI fun _ _ _ _ _ _ _ hc q => floordiv_int hc.1 q (.inl (PyProof.noPylong_of_log2 hc.2))) fun _ _ _ => .int _)
theorem p_mod : OpV X (binaryOp .Mod) uMod := uIntC_ok (fI_ok op_modN fun _ _ _ => .int _)
theorem p_pow : OpV X (binaryOp .Pow) uPow := uIntC_ok (fI_ok (C := fun i j => 0 ≤ j ∧ j ≤ 1000000 ∧ i.natAbs < 2 ^ 64) (gV := fun i j => .int (i ^ j.toNat)) op_pow fun _ _ _ => .int _)
theorem p_and : OpV X (binaryOp .BitAnd) uAnd := uInt_ok (fI0_ok op_and fun _ _ _ => .int _)
theorem p_lt : OpV X (compareOp .Lt) uLt := uInt_ok o_lt
theorem p_le : OpV X (compareOp .LtE) uLe := uInt_ok o_le
theorem p_gt : OpV X (compareOp .Gt) uGt := uInt_ok o_gt
theorem p_ge : OpV X (compareOp .GtE) uGe := uInt_ok o_ge
def uNeg : U1 := fun x O => match x with
  | .d (.int i) => some (.d (.int (-i)), O)
  | _ => none
@[simp] theorem uNeg_i {i : Int} {O : List Ob} : uNeg (.d (.int i)) O = some (.d (.int (-i)), O) := rfl
theorem und_imp {g : Value → Sem Value} {f f' : F1} (h : UnD X g f) (i : ∀ x O Q, f' x O Q → f x O Q) : UnD X g f' :=
  L2.UnR.imp h fun x H Q ⟨wx, O, S, ρ, Q', wd, r1, q, kq⟩ => ⟨wx, O, S, ρ, Q', wd, r1, i _ _ _ q, kq⟩
theorem p_neg : UnV X (unaryOp .USub) uNeg := und_imp o_neg fun x O Q ⟨w, O', e, q⟩ => by
  unfold uNeg at e
  split at e
  · cases e; exact q
  · cases e

/-! ### + and * -/
/-- + : ints, texts, tuples, lists (mk: what a new list is) -/
def uAddM (mk : List W → List Ob → W × List Ob) : U2 := fun x y O => match x, y with
  | .d (.int i), .d (.int j) => some (.d (.int (i + j)), O)
  | .d (.str i), .d (.str j) => if i.length + j.length ≤ sizeLine then some (.d (.str (i ++ j)), O) else none
  | x, y => match tv x, tv y with
    | some xs, some ys => if xs.length + ys.length ≤ sizeLine then some (mkT (xs ++ ys), O) else none
    | _, _ => match lvS O x, lvS O y with
      | some xs, some ys => if xs.length + ys.length ≤ sizeLine then some (mk (xs ++ ys) O) else none
      | _, _ => none
abbrev uAdd : U2 := uAddM mkL
abbrev uAddO : U2 := uAddM mkO
theorem mkL_cases {ws : List W} {O : List Ob} : (∃ xs, allD ws = some xs ∧ mkL ws O = (.d (.list xs), O)) ∨ mkL ws O = mkO ws O := by
  unfold mkL
  cases e : allD ws with
  | some xs => exact .inl ⟨xs, rfl, rfl⟩
  | none => exact .inr rfl
theorem p_addM {mk : List W → List Ob → W × List Ob} (hmk : ∀ ws O, (∃ xs, allD ws = some xs ∧ mk ws O = (.d (.list xs), O)) ∨ mk ws O = mkO ws O) : OpV X (binaryOp .Add) (uAddM mk) :=
  opd_imp (opd_or (opd_or o_add o_addS) (opd_or o_addT (opd_or o_addL o_addO))) fun x y O Q ⟨w, O', e, q⟩ => by
    unfold uAddM at e
    split at e
    · cases e; exact .inl (.inl q)
    · split at e
      · rename_i hl
        cases e; exact .inl (.inr ⟨hl, q⟩)
      · cases e
    · split at e
      · rename_i xs ys e1 e2
        split at e
        · rename_i hl
          cases e; exact .inr (.inl ⟨xs, ys, e1, e2, hl, q⟩)
        · cases e
      · split at e
        · rename_i xs ys e1 e2
          split at e
          · rename_i hl
            rcases hmk (xs ++ ys) O with ⟨zs, ez, em⟩ | em
            · rw [em] at e; cases e; exact .inr (.inr (.inl ⟨xs, ys, zs, e1, e2, hl, ez, q⟩))
            · rw [em] at e; cases e; exact .inr (.inr (.inr ⟨xs, ys, e1, e2, hl, q⟩))
          · cases e
        · cases e
theorem p_add : OpV X (binaryOp .Add) uAdd := p_addM fun _ _ => mkL_cases
theorem p_addO : OpV X (binaryOp .Add) uAddO := p_addM fun _ _ => .inr rfl
theorem p_iadd : OpV X (inplaceOp .Add) (uInt fun i j => .int (i + j)) := uInt_ok o_iadd
theorem p_isub : OpV X (inplaceOp .Sub) uSub := uInt_ok o_isub
/-- a number of times (not decided by a program: the kernel would count) -/
def smT (n : Int) : Prop := -(2 ^ 63) ≤ n ∧ n < 2 ^ 63
open Classical in
/-- * : ints, a tuple or a list times an int -/
noncomputable def uMulM (mk : List W → List Ob → W × List Ob) : U2 := fun x y O => match x, y with
  | .d (.int i), .d (.int j) => if MulOk i j then some (.d (.int (i * j)), O) else none
  | x, .d (.int n) => match tv x with
    | some xs => if 0 ≤ n ∧ n ≤ 1000 ∧ xs.length ≤ 1000 then some (mkT (List.replicate n.toNat xs).flatten, O) else none
    | none => match lvS O x with
      | some xs => if smT n ∧ xs.length * n.toNat ≤ sizeLine then some (mk (List.replicate n.toNat xs).flatten O) else none
      | none => none
  | _, _ => none
noncomputable abbrev uMul : U2 := uMulM mkL
noncomputable abbrev uMulO : U2 := uMulM mkO
theorem p_mulM {mk : List W → List Ob → W × List Ob} (hmk : ∀ ws O, (∃ xs, allD ws = some xs ∧ mk ws O = (.d (.list xs), O)) ∨ mk ws O = mkO ws O) : OpV X (binaryOp .Mult) (uMulM mk) :=
  opd_imp (opd_or (fI_ok (C := MulOk) (g := fun i j => .int (i * j)) (gV := fun i j => .int (i * j)) (opI fun _ _ _ _ _ _ _ hc q => mul_int q hc.ok) fun _ _ _ => .int _) (opd_or o_repT (opd_or o_repL o_repO))) fun x y O Q ⟨w, O', e, q⟩ => by
    unfold uMulM at e
    split at e
    · split at e
      · rename_i c
        cases e; exact .inl ⟨c, q⟩
      · cases e
    · split at e
      · rename_i xs e1
        split at e
        · rename_i c
          cases e; exact .inr (.inl ⟨xs, _, e1, rfl, c.1, c.2.1, c.2.2, q⟩)
        · cases e
      · split at e
        · rename_i xs e1
          split at e
          · rename_i c
            rcases hmk (List.replicate _ xs).flatten O with ⟨zs, ez, em⟩ | em
            · rw [em] at e; cases e; exact .inr (.inr (.inl ⟨xs, _, zs, e1, rfl, c.1.1, c.1.2, c.2, ez, q⟩))
            · rw [em] at e; cases e; exact .inr (.inr (.inr ⟨xs, _, e1, rfl, c.1.1, c.1.2, c.2, q⟩))
          · cases e
        · cases e
    · cases e
theorem p_mul : OpV X (binaryOp .Mult) uMul := p_mulM fun _ _ => mkL_cases
theorem p_mulO : OpV X (binaryOp .Mult) uMulO := p_mulM fun _ _ => .inr rfl

/-! ### == != in is -/
def okB (x : PyData) : Bool := x.plain && decide (x.depth ≤ 50)
theorem okB_iff {x : PyData} : okB x = true ↔ okD x := by
  unfold okB okD
  rw [Bool.and_eq_true, decide_eq_true_eq]
def eqD (a b : PyData) : Option Bool := match eqS a b with
  | some r => some r
  | none => if okB a && okB b then some (PyData.eqv a b) else none
def uEqN (neg : Bool) : U2 := fun x y O => match rsW 0 O 8 x, rsW 0 O 8 y with
  | some a, some b => match eqD a b with
    | some r => some (.d (.bool (if neg then !r else r)), O)
    | none => none
  | _, _ => none
abbrev uEq : U2 := uEqN false
abbrev uNe : U2 := uEqN true
theorem okD_scal {a b : PyData} {r : Bool} (e : eqS a b = some r) : okD a ∧ okD b ∧ PyData.eqv a b = r := by
  cases a <;> cases b <;> simp_all [eqS, okD, PyData.plain, PyData.depth, PyData.eqv] <;> (subst e; rw [Bool.eq_iff_iff]; simp)
theorem eqD_inv {a b : PyData} {r : Bool} (h : eqD a b = some r) : okD a ∧ okD b ∧ PyData.eqv a b = r := by
  unfold eqD at h
  split at h
  · rename_i e; cases h; exact okD_scal e
  · split at h
    · rename_i c
      rw [Bool.and_eq_true, okB_iff, okB_iff] at c
      cases h; exact ⟨c.1, c.2, rfl⟩
    · cases h
theorem uEqN_inv {neg : Bool} {x y w : W} {O O' : List Ob} (h : uEqN neg x y O = some (w, O')) : ∃ a b, Rs O x a ∧ Rs O y b ∧ okD a ∧ okD b ∧ w = .d (.bool (if neg then !PyData.eqv a b else PyData.eqv a b)) ∧ O' = O := by
  unfold uEqN at h
  split at h
  · rename_i a b e1 e2
    split at h
    · rename_i r er
      obtain ⟨h1, h2, h3⟩ := eqD_inv er
      cases h
      exact ⟨a, b, rsW_rs e1, rsW_rs e2, h1, h2, by rw [h3], rfl⟩
    · cases h
  · cases h
theorem p_eq (hu : X.A.units + 64 < cLine) : OpV X (compareOp .Eq) uEq := opd_imp (o_eqD hu) fun x y O Q ⟨w, O', e, q⟩ => by
  obtain ⟨a, b, h1, h2, h3, h4, rfl, rfl⟩ := uEqN_inv e
  exact ⟨a, b, h1, h2, h3, h4, q⟩
theorem p_ne (hu : X.A.units + 64 < cLine) : OpV X (compareOp .NotEq) uNe := opd_imp (o_neD hu) fun x y O Q ⟨w, O', e, q⟩ => by
  obtain ⟨a, b, h1, h2, h3, h4, rfl, rfl⟩ := uEqN_inv e
  exact ⟨a, b, h1, h2, h3, h4, q⟩
/-- in: one sign in a text; a value in a list -/
def uInN (neg : Bool) : U2 := fun x y O => match x, y with
  | .d (.str i), .d (.str z) => match i.cps.toList with
    | [c] => some (.d (.bool (if neg then !decide (c ∈ z.cps.toList) else decide (c ∈ z.cps.toList))), O)
    | _ => none
  | x, y => match rsW 0 O 8 x, rsW 0 O 8 y with
    | some a, some (.list bs) => if okB a && okB (.list bs) then some (.d (.bool (if neg then !(bs.any fun z => PyData.eqv z a) else bs.any fun z => PyData.eqv z a)), O) else none
    | _, _ => none
abbrev uIn : U2 := uInN false
abbrev uNin : U2 := uInN true
theorem uInN_inv {neg : Bool} {x y w : W} {O O' : List Ob} {Q : DQ} (h : uInN neg x y O = some (w, O')) (q : Q w O') : fInS neg x y O Q ∨ (∃ a bs, Rs O x a ∧ Rs O y (.list bs) ∧ okD a ∧ okD (.list bs) ∧ Q (.d (.bool (if neg then !(bs.any fun z => PyData.eqv z a) else bs.any fun z => PyData.eqv z a))) O) := by
  unfold uInN at h
  split at h
  · rename_i i z
    split at h
    · rename_i c e
      cases h
      refine .inl ⟨c, ?_, q⟩
      obtain ⟨⟨l⟩⟩ := i
      dsimp only at e
      rw [e]
    · cases h
  · split at h
    · rename_i a bs e1 e2
      split at h
      · rename_i c
        rw [Bool.and_eq_true, okB_iff, okB_iff] at c
        cases h
        exact .inr ⟨a, bs, rsW_rs e1, rsW_rs e2, c.1, c.2, q⟩
      · cases h
    · cases h
theorem p_in (hu : X.A.units + 65 < cLine) : OpV X (compareOp .In) uIn := opd_imp (opd_or o_inS (o_inD hu)) fun x y O Q ⟨w, O', e, q⟩ => uInN_inv e q
theorem p_nin (hu : X.A.units + 65 < cLine) : OpV X (compareOp .NotIn) uNin := opd_imp (opd_or o_notInS (o_notInD hu)) fun x y O Q ⟨w, O', e, q⟩ => uInN_inv e q
/-- is: None, truth values -/
def uIsN (neg : Bool) : U2 := fun x y O => match y with
  | .d .none => some (.d (.bool (if neg then !isNone x else isNone x)), O)
  | .d (.bool b) => match x with
    | .d (.bool a) => some (.d (.bool (if neg then !decide (a = b) else decide (a = b))), O)
    | _ => none
  | _ => none
abbrev uIs : U2 := uIsN false
abbrev uNis : U2 := uIsN true
theorem p_is : OpV X (compareOp .Is) uIs := opd_imp (opd_or o_isN o_isB) fun x y O Q ⟨w, O', e, q⟩ => by
  unfold uIs uIsN at e
  split at e
  · cases e; exact .inl q
  · split at e
    · cases e; exact .inr q
    · cases e
  · cases e
theorem p_nis : OpV X (compareOp .IsNot) uNis := opd_imp (opd_or o_notN o_notB) fun x y O Q ⟨w, O', e, q⟩ => by
  unfold uNis uIsN at e
  split at e
  · cases e; exact .inl q
  · split at e
    · cases e; exact .inr q
    · cases e
  · cases e

/-! ### indices, slices -/
def uIx : U2 := fun x y O => match y with
  | .d (.int i) => match x with
    | .d (.str z) => if z.length ≤ sizeLine then (atI z.cps.toList i).map fun c => (.d (.str ⟨#[c]⟩), O) else none
    | x => match tv x with
      | some xs => (atI xs i).map fun w => (w, O)
      | none => match lv O x with
        | some xs => (atI xs i).map fun w => (w, O)
        | none => none
  | _ => none
theorem p_ix : IxV X uIx := ixd_imp (ixd_or i_s (ixd_or i_t i_l)) fun x y O Q ⟨w, O', e, q⟩ => by
  unfold uIx at e
  split at e
  · split at e
    · split at e
      · rename_i hl
        obtain ⟨c, ea, ec⟩ := Option.map_eq_some_iff.mp e
        cases ec; exact .inl ⟨hl, c, ea, q⟩
      · cases e
    · split at e
      · rename_i xs ex
        obtain ⟨c, ea, ec⟩ := Option.map_eq_some_iff.mp e
        cases ec; exact .inr (.inl ⟨xs, _, _, ex, rfl, ea, q⟩)
      · split at e
        · rename_i xs ex
          obtain ⟨c, ea, ec⟩ := Option.map_eq_some_iff.mp e
          cases ec; exact .inr (.inr ⟨xs, _, _, ex, rfl, ea, q⟩)
        · cases e
  · cases e
def uSlM (mk : List W → List Ob → W × List Ob) : US := fun x lo hi O => match tv x with
  | some xs => some (mkT (cutW xs lo hi), O)
  | none => match lv O x with
    | some xs => some (mk (cutW xs lo hi) O)
    | none => none
abbrev uSl : US := uSlM mkL
abbrev uSlO : US := uSlM mkO
theorem p_slM {mk : List W → List Ob → W × List Ob} (hmk : ∀ ws O, (∃ xs, allD ws = some xs ∧ mk ws O = (.d (.list xs), O)) ∨ mk ws O = mkO ws O) : SlR X (rS X.K (oFS (uSlM mk))) := sls_imp (sls_or s_t (sls_or s_l s_o)) fun x lo hi O Q ⟨w, O', e, q⟩ => by
  unfold uSlM at e
  split at e
  · rename_i xs ex
    cases e; exact .inl ⟨xs, ex, q⟩
  · split at e
    · rename_i xs ex
      rcases hmk (cutW xs lo hi) O with ⟨zs, ez, em⟩ | em
      · rw [em] at e; cases e; exact .inr (.inl ⟨xs, zs, ex, ez, q⟩)
      · rw [em] at e; cases e; exact .inr (.inr ⟨xs, ex, q⟩)
    · cases e
theorem p_sl : SlR X (rS X.K (oFS uSl)) := p_slM fun _ _ => mkL_cases
theorem p_slO : SlR X (rS X.K (oFS uSlO)) := p_slM fun _ _ => .inr rfl

/-! ### built-in functions -/
/-- the items of a sequence -/
def sq (O : List Ob) (x : W) : Option (List W) := match tv x with
  | some xs => some xs
  | none => lv O x
theorem sq_or {O : List Ob} {x : W} {xs : List W} (h : sq O x = some xs) : tv x = some xs ∨ lv O x = some xs := by
  unfold sq at h
  split at h
  · rename_i e; cases h; exact .inl e
  · exact .inr h
def uLen : UC := fun ws O => match ws with
  | [x] => match x with
    | .d (.str z) => if z.length ≤ sizeLine then some (.d (.int z.length), O) else none
    | x => match sq O x with
      | some xs => some (.d (.int xs.length), O)
      | none => none
  | _ => none
theorem p_len : CallV X (.builtin "len") uLen := calld_imp c_len fun ws O Q ⟨w, O', e, q⟩ => by
  unfold uLen at e
  split at e
  · split at e
    · split at e
      · rename_i hl
        cases e; exact ⟨hl, q⟩
      · cases e
    · rename_i hx
      split at e
      · rename_i xs ex
        cases e
        unfold fLen
        split
        · rename_i z ez
          cases ez; exact (hx _ rfl).elim
        · rename_i ez
          cases ez
          exact ⟨xs, sq_or ex, q⟩
        · rename_i h2
          exact (h2 _ rfl).elim
      · cases e
  · cases e
def uIntF : UC := fun ws O => match ws with
  | [.d (.int i)] => some (.d (.int i), O)
  | [.d (.bool k)] => some (.d (.int (if k = true then 1 else 0)), O)
  | _ => none
theorem p_int : CallV X (.type "int") uIntF := calld_imp c_int fun ws O Q ⟨w, O', e, q⟩ => by
  unfold uIntF at e
  split at e <;> first | (cases e; exact q) | cases e
def uAbs : UC := fun ws O => match ws with
  | [.d (.int i)] => some (.d (.int (i.natAbs : Int)), O)
  | _ => none
theorem p_abs : CallV X (.builtin "abs") uAbs := calld_imp c_abs fun ws O Q ⟨w, O', e, q⟩ => by
  have nn : ∀ i : Int, (i.natAbs : Int) = if i < 0 then -i else i := fun i => by split <;> omega
  unfold uAbs at e
  split at e
  · rw [nn] at e
    cases e
    exact q
  · cases e
def uMax2 : UC := fun ws O => match ws with
  | [.d (.int i), .d (.int j)] => some (.d (.int (if j > i then j else i)), O)
  | _ => none
theorem p_max2 (hc : X.calm = true) : CallV X (.builtin "max") uMax2 := calld_imp (c_max hc) fun ws O Q ⟨w, O', e, q⟩ => by
  unfold uMax2 at e
  split at e <;> first | (cases e; exact q) | cases e
def uListM (mk : List W → List Ob → W × List Ob) : UC := fun ws O => match ws with
  | [x] => match sq O x with
    | some xs => some (mk xs O)
    | none => none
  | _ => none
abbrev uList : UC := uListM mkL
abbrev uListO : UC := uListM mkO
theorem p_listM {mk : List W → List Ob → W × List Ob} (hmk : ∀ ws O, (∃ xs, allD ws = some xs ∧ mk ws O = (.d (.list xs), O)) ∨ mk ws O = mkO ws O) : CallV X (.type "list") (uListM mk) := calld_imp (calld_or c_listL c_listO) fun ws O Q ⟨w, O', e, q⟩ => by
  unfold uListM at e
  split at e
  · split at e
    · rename_i x xs ex
      rcases hmk xs O with ⟨zs, ez, em⟩ | em
      · rw [em] at e; cases e; exact .inl ⟨_, xs, zs, rfl, sq_or ex, ez, q⟩
      · rw [em] at e; cases e; exact .inr ⟨_, xs, rfl, sq_or ex, q⟩
    · cases e
  · cases e
theorem p_list : CallV X (.type "list") uList := p_listM fun _ _ => mkL_cases
theorem p_listO : CallV X (.type "list") uListO := p_listM fun _ _ => .inr rfl
def uTuple : UC := fun ws O => match ws with
  | [x] => match sq O x with
    | some xs => some (mkT xs, O)
    | none => none
  | _ => none
theorem p_tuple : CallV X (.type "tuple") uTuple := calld_imp c_tuple fun ws O Q ⟨w, O', e, q⟩ => by
  unfold uTuple at e
  split at e
  · split at e
    · rename_i x xs ex
      cases e; exact ⟨_, xs, rfl, sq_or ex, q⟩
    · cases e
  · cases e
def uIsi : UC := fun ws O => match ws with
  | [x, .v (.ty b)] => match tyW O x with
    | some a => match kitB a b with
      | some r => some (.d (.bool r), O)
      | none => none
    | none => none
  | [x, .tp ts] => match tyW O x with
    | some a => match kitAnyB a ts with
      | some r => some (.d (.bool r), O)
      | none => none
    | none => none
  | _ => none
theorem p_isi : CallV X (.builtin "isinstance") uIsi := calld_imp c_isi fun ws O Q ⟨w, O', e, q⟩ => by
  unfold uIsi at e
  split at e
  · split at e
    · rename_i e1
      split at e
      · rename_i e2
        cases e
        simp only [fIsi, e1, e2]; exact q
      · cases e
    · cases e
  · split at e
    · rename_i e1
      split at e
      · rename_i e2
        cases e
        simp only [fIsi, e1, e2]; exact q
      · cases e
    · cases e
  · cases e
end
end UZ
/-! V, part C: statements, loops, comprehensions, calls. -/
namespace UZ
open PySem PySem.Spec PyProof.Rows L2

/-- what a statement comes to -/
inductive SR where
  | nx (Γ : Gm) (O : List Ob)
  | rt (w : W) (O : List Ob)
  | bk (Γ : Gm) (O : List Ob)
  | ct (Γ : Gm) (O : List Ob)
  | ex (x : Xc) (Γ : Gm) (O : List Ob)
  | bad
abbrev VS := Gm → List Ob → SR
namespace SR
def run (r : SR) (D : DEnds) : Prop := match r with
  | .nx Γ O => D.nx Γ O
  | .rt w O => D.rt w O
  | .bk Γ O => D.bk Γ O
  | .ct Γ O => D.ct Γ O
  | .ex x Γ O => D.ex x Γ O
  | .bad => False
def seq (r : SR) (v : VS) : SR := match r with
  | .nx Γ O => v Γ O
  | r => r
@[simp] theorem seq_nx {Γ : Gm} {O : List Ob} {v : VS} : (SR.nx Γ O).seq v = v Γ O := rfl
@[simp] theorem seq_rt {w : W} {O : List Ob} {v : VS} : (SR.rt w O).seq v = .rt w O := rfl
@[simp] theorem seq_bk {Γ : Gm} {O : List Ob} {v : VS} : (SR.bk Γ O).seq v = .bk Γ O := rfl
@[simp] theorem seq_ct {Γ : Gm} {O : List Ob} {v : VS} : (SR.ct Γ O).seq v = .ct Γ O := rfl
@[simp] theorem seq_ex {x : Xc} {Γ : Gm} {O : List Ob} {v : VS} : (SR.ex x Γ O).seq v = .ex x Γ O := rfl
@[simp] theorem seq_bad {v : VS} : SR.bad.seq v = .bad := rfl
/-- one turn of a loop, and what follows it -/
def turn (r : SR) (v : VS) : SR := match r with
  | .nx Γ O => v Γ O
  | .ct Γ O => v Γ O
  | .bk Γ O => .nx Γ O
  | r => r
@[simp] theorem turn_nx {Γ : Gm} {O : List Ob} {v : VS} : (SR.nx Γ O).turn v = v Γ O := rfl
@[simp] theorem turn_ct {Γ : Gm} {O : List Ob} {v : VS} : (SR.ct Γ O).turn v = v Γ O := rfl
@[simp] theorem turn_bk {Γ : Gm} {O : List Ob} {v : VS} : (SR.bk Γ O).turn v = .nx Γ O := rfl
@[simp] theorem turn_rt {w : W} {O : List Ob} {v : VS} : (SR.rt w O).turn v = .rt w O := rfl
@[simp] theorem turn_ex {x : Xc} {Γ : Gm} {O : List Ob} {v : VS} : (SR.ex x Γ O).turn v = .ex x Γ O := rfl
def wipe (r : SR) (ks : List Nat) : SR := match r with
  | .nx Γ O => .nx (wipeD Γ ks) O
  | .ct Γ O => .ct (wipeD Γ ks) O
  | r => r
@[simp] theorem wipe_nx {Γ : Gm} {O : List Ob} {ks : List Nat} : (SR.nx Γ O).wipe ks = .nx (wipeD Γ ks) O := rfl
@[simp] theorem wipe_ct {Γ : Gm} {O : List Ob} {ks : List Nat} : (SR.ct Γ O).wipe ks = .ct (wipeD Γ ks) O := rfl
@[simp] theorem wipe_bk {Γ : Gm} {O : List Ob} {ks : List Nat} : (SR.bk Γ O).wipe ks = .bk Γ O := rfl
@[simp] theorem wipe_rt {w : W} {O : List Ob} {ks : List Nat} : (SR.rt w O).wipe ks = .rt w O := rfl
@[simp] theorem wipe_ex {x : Xc} {Γ : Gm} {O : List Ob} {ks : List Nat} : (SR.ex x Γ O).wipe ks = .ex x Γ O := rfl
end SR
def R.toS {α : Type} (r : R α) (Γ : Gm) (f : α → List Ob → SR) : SR := match r with
  | .ok a O => f a O
  | .ex x O => .ex x Γ O
  | .bad => .bad
@[simp] theorem R.toS_ok {α : Type} {a : α} {O : List Ob} {Γ : Gm} {f : α → List Ob → SR} : (R.ok a O).toS Γ f = f a O := rfl
@[simp] theorem R.toS_ex {α : Type} {x : Xc} {O : List Ob} {Γ : Gm} {f : α → List Ob → SR} : (R.ex x O : R α).toS Γ f = .ex x Γ O := rfl
theorem toS_run {α : Type} {r : R α} {Γ : Gm} {f : α → List Ob → SR} {D : DEnds} (h : (r.toS Γ f).run D) : r.run (fun a O => (f a O).run D) fun x O => D.ex x Γ O := by
  cases r with
  | ok a O => exact h
  | ex x O => exact h
  | bad => exact h
theorem toS_bind {α β : Type} {r : R α} {g : α → List Ob → R β} {Γ : Gm} {f : β → List Ob → SR} : (r.bind g).toS Γ f = r.toS Γ fun a O => (g a O).toS Γ f := by cases r <;> rfl
def oS (t : VS) : DS := fun D Γ O => (t Γ O).run D
abbrev PVS (X : Cx) (Wx : WX) (s : Stmt) (t : VS) : Prop := PDS X Wx s (oS t)
abbrev PVSs (X : Cx) (Wx : WX) (s : List Stmt) (t : VS) : Prop := PDSs X Wx s (oS t)
section
variable {X : Cx} {Wx : WX} {s : Stmt} {r : List Stmt} {e : Expr} {pos : Pos}
theorem pds_imp {t t' : DS} (h : PDS X Wx s t) (i : ∀ D Γ O, t' D Γ O → t D Γ O) : PDS X Wx s t' := L2.PS.imp h fun D σ H ⟨Γ, O, S, ρ, D', st, h, ks⟩ => ⟨Γ, O, S, ρ, D', st, i _ _ _ h, ks⟩
theorem pdss_imp {t t' : DS} (h : PDSs X Wx r t) (i : ∀ D Γ O, t' D Γ O → t D Γ O) : PDSs X Wx r t' := L2.PSs.imp h fun D σ H ⟨Γ, O, S, ρ, D', st, h, ks⟩ => ⟨Γ, O, S, ρ, D', st, i _ _ _ h, ks⟩
theorem ps_or {t t' : TS} (h : PS X s t) (h' : PS X s t') : PS X s fun D σ H => t D σ H ∨ t' D σ H := ⟨fun pins s σ H D I q => q.elim (h.run pins s σ H D I) (h'.run pins s σ H D I)⟩
theorem pds_or {t t' : DS} (h : PDS X Wx s t) (h' : PDS X Wx s t') : PDS X Wx s fun D Γ O => t D Γ O ∨ t' D Γ O := L2.PS.imp (UZ.ps_or h h') fun D σ H ⟨Γ, O, S, ρ, D', st, h, r⟩ => h.elim (fun h => .inl ⟨Γ, O, S, ρ, D', st, h, r⟩) fun h => .inr ⟨Γ, O, S, ρ, D', st, h, r⟩

/-! ### what is forgotten -/
theorem RelS.forget {K : PySem.W.Frag} {S : Hp} {ρ : Nat → Addr} {n : Nat} {σ : L2.St} {Γ : Gm} (h : RelS K S ρ n σ Γ) : ∀ ks : List Nat, RelS K S ρ n σ (wipeD Γ ks)
  | [] => h
  | i :: ks => by
    have q := RelS.forget h ks
    refine ⟨by show σ.length = ((wipeD Γ ks).set i none).length; rw [List.length_set]; exact q.1, fun j w e => ?_⟩
    change ((wipeD Γ ks).set i none)[j]? = some (some w) at e
    by_cases hj : j = i
    · subst hj
      by_cases hl : j < (wipeD Γ ks).length
      · rw [List.getElem?_set_self hl] at e; cases e
      · rw [List.getElem?_eq_none (by rw [List.length_set]; omega)] at e; cases e
    · rw [List.getElem?_set_ne (Ne.symm hj)] at e
      exact q.2 j w e
def wpD (D : DEnds) (ks : List Nat) : DEnds := { D with nx := fun Γ O => D.nx (wipeD Γ ks) O, ct := fun Γ O => D.ct (wipeD Γ ks) O }
theorem KS.forget {K : PySem.W.Frag} {S : Hp} {ρ : Nat → Addr} {n : Nat} {H : Hp} {D' : DEnds} {D : Ends} {Wx : WX} (k : KS K S ρ n H D' D Wx) (ks : List Nat) : KS K S ρ n H (wpD D' ks) D Wx :=
  ⟨fun Γ' O' S' ρ' σ' H' x st q => k.nx _ O' S' ρ' σ' H' x ⟨st.wd, st.rs.forget ks⟩ q, k.rt, k.bk, fun Γ' O' S' ρ' σ' H' x st q => k.ct _ O' S' ρ' σ' H' x ⟨st.wd, st.rs.forget ks⟩ q, k.ex⟩
def vWipe (ks : List Nat) (t : VS) : VS := fun Γ O => (t Γ O).wipe ks
theorem wipe_run {r : SR} {ks : List Nat} {D : DEnds} (h : (r.wipe ks).run D) : r.run (wpD D ks) := by cases r <;> exact h
theorem v_wipe {t : VS} (ks : List Nat) (h : PVS X Wx s t) : PVS X Wx s (vWipe ks t) := L2.PS.imp h fun D σ H ⟨Γ, O, S, ρ, D', st, h, k⟩ => ⟨Γ, O, S, ρ, wpD D' ks, st, wipe_run h, k.forget ks⟩
theorem v_wipes {t : VS} (ks : List Nat) (h : PVSs X Wx r t) : PVSs X Wx r (vWipe ks t) := L2.PSs.imp h fun D σ H ⟨Γ, O, S, ρ, D', st, h, k⟩ => ⟨Γ, O, S, ρ, wpD D' ks, st, wipe_run h, k.forget ks⟩

/-! ### plain statements -/
def vNext : VS := .nx
def vSeq (u v : VS) : VS := fun Γ O => (u Γ O).seq v
theorem w_nil : PVSs X Wx [] vNext := pdss_imp s_nil fun _ _ _ h => h
theorem w_one {u : VS} (h : PVS X Wx s u) : PVSs X Wx [s] u := s_one h
theorem w_cons {u v : VS} (h : PVS X Wx s u) (hr : PVSs X Wx r v) : PVSs X Wx (s :: r) (vSeq u v) := pdss_imp (s_cons h hr) fun D Γ O h => by
  unfold oS vSeq at h
  unfold dSeq oS
  cases e : u Γ O <;> (rw [e] at h; exact h)
theorem w_pass : PVS X Wx (.Pass pos) vNext := pds_imp s_pass fun _ _ _ h => h
def vBreak : VS := .bk
def vCont : VS := .ct
theorem w_break : PVS X Wx (.Break pos) vBreak := pds_imp s_break fun _ _ _ h => h
theorem w_continue : PVS X Wx (.Continue pos) vCont := pds_imp s_continue fun _ _ _ h => h
def vNever : VS := fun _ _ => .bad
theorem w_never : PVS X Wx s vNever := pds_imp s_never fun _ _ _ h => h
def vRet (t : VE) : VS := fun Γ O => (t Γ O).toS Γ .rt
theorem w_ret {t : VE} (h : PVE X Wx e t) : PVS X Wx (.Return (some e) pos) (vRet t) := pds_imp (s_ret h) fun D Γ O h => toS_run h
def vDrop (t : VE) : VS := fun Γ O => (t Γ O).toS Γ fun _ O1 => .nx Γ O1
theorem w_expr {t : VE} (h : PVE X Wx e t) (hs : swapsWith e none pos.line X.env = pure false := by rfl) : PVS X Wx (.Expr e pos) (vDrop t) := pds_imp (s_expr h hs) fun D Γ O h => toS_run h
def vIf (c : VT) (u v : VS) : VS := fun Γ O => (c Γ O).toS Γ fun b O1 => if b = true then u Γ O1 else v Γ O1
theorem w_if {ce : Expr} {a b : List Stmt} {c : VT} {u v : VS} (hc : PVT X Wx ce c) (ha : PVSs X Wx a u) (hb : PVSs X Wx b v) : PVS X Wx (.If ce a b pos) (vIf c u v) := pds_imp (s_if hc ha hb) fun D Γ O h => by
  refine R.run_imp (toS_run h) (fun k O1 h => ?_) fun _ _ h => h
  cases k <;> exact h

/-! ### targets -/
abbrev VG := W → Gm → List Ob → Option (Gm × List Ob)
abbrev VGs := List W → Gm → List Ob → Option (Gm × List Ob)
def oG (g : VG) : DG := fun w Γ O Q => ∃ Γ' O', g w Γ O = some (Γ', O') ∧ Q Γ' O'
def oGs (g : VGs) : List W → Gm → List Ob → (Gm → List Ob → Prop) → Prop := fun ws Γ O Q => ∃ Γ' O', g ws Γ O = some (Γ', O') ∧ Q Γ' O'
abbrev PVG (X : Cx) (tg : Expr) (g : VG) : Prop := PDG X tg (oG g)
abbrev PVGs (X : Cx) (tgs : List Expr) (g : VGs) : Prop := PGs X tgs (iGs X.K (oGs g))
theorem pdg_imp {tg : Expr} {g g' : DG} (h : PDG X tg g) (i : ∀ w Γ O Q, g' w Γ O Q → g w Γ O Q) : PDG X tg g' := L2.PG.imp h fun v σ H Q ⟨w, Γ, O, S, ρ, Q', st, r, h, k⟩ => ⟨w, Γ, O, S, ρ, Q', st, r, i _ _ _ _ h, k⟩
theorem pdgs_imp {tgs : List Expr} {g g' : List W → Gm → List Ob → (Gm → List Ob → Prop) → Prop} (h : PGs X tgs (iGs X.K g)) (i : ∀ w Γ O Q, g' w Γ O Q → g w Γ O Q) : PGs X tgs (iGs X.K g') := L2.PGs.imp h fun v σ H Q ⟨w, Γ, O, S, ρ, Q', st, r, h, k⟩ => ⟨w, Γ, O, S, ρ, Q', st, r, i _ _ _ _ h, k⟩
theorem pg_or {tg : Expr} {t t' : TG} (h : PG X tg t) (h' : PG X tg t') : PG X tg fun v σ H Q => t v σ H Q ∨ t' v σ H Q := ⟨fun pins s σ H v u Q I r q => q.elim (h.run pins s σ H v u Q I r) (h'.run pins s σ H v u Q I r)⟩
theorem pdg_or {tg : Expr} {g g' : DG} (h : PDG X tg g) (h' : PDG X tg g') : PDG X tg fun w Γ O Q => g w Γ O Q ∨ g' w Γ O Q := L2.PG.imp (UZ.pg_or h h') fun v σ H Q ⟨w, Γ, O, S, ρ, Q', st, r, h, k⟩ => h.elim (fun h => .inl ⟨w, Γ, O, S, ρ, Q', st, r, h, k⟩) fun h => .inr ⟨w, Γ, O, S, ρ, Q', st, r, h, k⟩
def hNm (i : Nat) : VG := fun w Γ O => some (Γ.set i (some w), O)
theorem h_nm {i : Nat} {x : Str} (hN : X.N.Nodup) (hi : X.N[i]? = some x := by rfl) (hx : Loc X.env.scope x := by first | exact Or.inl rfl | exact Or.inr rfl) (hf : X.fn x = true ∨ X.env.scope.names.lookup x = some .local := by first | exact .inl rfl | exact .inr rfl | assumption) : PVG X (.Name x pos) (hNm i) :=
  pdg_imp (g_nm hN hi hx hf) fun w Γ O Q ⟨Γ', O', e, q⟩ => by cases e; exact q
def hEnd : VGs := fun ws Γ O => match ws with
  | [] => some (Γ, O)
  | _ => none
def hCs (g : VG) (gs : VGs) : VGs := fun ws Γ O => match ws with
  | w :: r => (g w Γ O).bind fun p => gs r p.1 p.2
  | [] => none
def hTp (gs : VGs) : VG := fun w Γ O => match tv w with
  | some ws => gs ws Γ O
  | none => none
theorem h_end : PVGs X [] hEnd := pdgs_imp g_end fun ws Γ O Q ⟨Γ', O', e, q⟩ => by
  unfold hEnd at e
  split at e
  · cases e; exact ⟨rfl, q⟩
  · cases e
theorem h_cs {tg : Expr} {tgs : List Expr} {g : VG} {gs : VGs} (h1 : PVG X tg g) (h2 : PVGs X tgs gs)
    (hs : (assignEach (tg :: tgs) X.env).map (·.2) = assign tg X.env :: (assignEach tgs X.env).map (·.2) := by rfl) : PVGs X (tg :: tgs) (hCs g gs) := pdgs_imp (g_cs h1 h2 hs) fun ws Γ O Q ⟨Γ', O', e, q⟩ => by
  unfold hCs at e
  split at e
  · obtain ⟨p, e1, e2⟩ := Option.bind_eq_some_iff.mp e
    exact ⟨p.1, p.2, e1, Γ', O', e2, q⟩
  · cases e
/-- the parts of a tuple: so many names -/
def hTpN (n : Nat) (gs : VGs) : VG := fun w Γ O => match tv w with
  | some ws => if ws.length = n then gs ws Γ O else none
  | none => none
theorem h_tp {es : List Expr} {k n : Nat} {gs : VGs} (hc : X.calm = true) (h : PVGs X es gs) (hn : (assignEach es X.env).length = n := by rfl) (hst : (assignEach es X.env).findIdx? (·.1) = none := by rfl) : PVG X (.Tuple es k pos) (hTpN n gs) :=
  pdg_imp (g_tp hc h hn hst) fun w Γ O Q ⟨Γ', O', e, q⟩ => by
    unfold hTpN at e
    split at e
    · rename_i ws ew
      split at e
      · rename_i hl
        exact ⟨ws, ew, hl, Γ', O', e, q⟩
      · cases e
    · cases e
/-- o[i] = v of a list -/
def kSet (o i v : W) (O : List Ob) : Option (List Ob) := match o, i with
  | .o k, .d (.int j) => match O[k]? with
    | some (.lst ws) => (ixN ws.length j).map fun m => O.set k (.lst (ws.set m v))
    | _ => none
  | _, _ => none
def hSub (f : W → W → W → List Ob → Option (List Ob)) (to ti : VE) : VG := fun w Γ O => match to Γ O with
  | .ok o O1 => match ti Γ O1 with
    | .ok i O2 => (f o i w O2).map fun O3 => (Γ, O3)
    | _ => none
  | _ => none
theorem set_imp {o i v : W} {O O' : List Ob} {Q : List Ob → Prop} (h : kSet o i v O = some O') (q : Q O') : fSetL o i v O Q := by
  unfold kSet at h
  split at h
  · rename_i k j
    split at h
    · rename_i ws e
      obtain ⟨m, em, rfl⟩ := Option.map_eq_some_iff.mp h
      exact ⟨ws, m, e, em, q⟩
    · cases h
  · cases h
theorem hsub_imp {to ti : VE} {f : W → W → W → List Ob → Option (List Ob)} {F : F3} (hF : ∀ o i v O O' (Q : List Ob → Prop), f o i v O = some O' → Q O' → F o i v O Q) {w : W} {Γ : Gm} {O : List Ob} {Q : Gm → List Ob → Prop} (h : oG (hSub f to ti) w Γ O Q) : gSubD (oE to) (oE ti) F w Γ O Q := by
  obtain ⟨Γ', O', e, q⟩ := h
  unfold hSub at e
  unfold gSubD oE
  split at e
  · rename_i o O1 e1
    rw [e1]
    split at e
    · rename_i i O2 e2
      obtain ⟨O3, e3, ee⟩ := Option.map_eq_some_iff.mp e
      cases ee
      show R.run (ti Γ O1) _ _
      rw [e2]
      exact hF _ _ _ _ _ _ e3 q
    · cases e
  · cases e
theorem h_sub {o i : Expr} {to ti : VE} (ho : PVE X Wx o to) (hi : PVE X Wx i ti)
    (ha : ∀ v, assign (.Subscript o i pos) X.env v = (do
      let ov ← holding [v] (eval o X.env)
      let iv ← holding [v, ov] (eval i X.env)
      standAt pos
      holding [v, ov, iv] (setItem ov iv v)
      release [v, ov, iv] []) := by intro _; rfl) : PVG X (.Subscript o i pos) (hSub kSet to ti) :=
  pdg_imp (g_sub (Wx := Wx) set_l ho hi ha) fun w Γ O Q h => hsub_imp (fun _ _ _ _ _ _ => set_imp) h
def R.asg (r : R W) (Γ : Gm) (g : VG) : SR := r.toS Γ fun w O1 => match g w Γ O1 with
  | some (Γ', O') => .nx Γ' O'
  | none => .bad
@[simp] theorem R.asg_ok {w : W} {O : List Ob} {Γ : Gm} {g : VG} : (R.ok w O).asg Γ g = match g w Γ O with | some (Γ', O') => SR.nx Γ' O' | none => .bad := rfl
@[simp] theorem R.asg_ex {x : Xc} {O : List Ob} {Γ : Gm} {g : VG} : (R.ex x O).asg Γ g = .ex x Γ O := rfl
def vAsg (t : VE) (g : VG) : VS := fun Γ O => (t Γ O).asg Γ g
theorem asg_imp {t : VE} {g : VG} {D : DEnds} {Γ : Gm} {O : List Ob} (h : oS (vAsg t g) D Γ O) : dAsg (oE t) (oG g) D Γ O := by
  refine R.run_imp (toS_run h) (fun w O1 h => ?_) fun _ _ h => h
  split at h
  · rename_i Γ' O' e; exact ⟨Γ', O', e, h⟩
  · exact h.elim
theorem w_asg {tg : Expr} {t : VE} {g : VG} (he : PVE X Wx e t) (hg : PVG X tg g) (hs : swapsWithSole [tg] e pos.line X.env = pure false := by rfl) (hw : swappedStores [tg] e X.env = pure none := by rfl)
    (h1 : (assignEach [tg] X.env).map (·.2) = [assign tg X.env] := by rfl) : PVS X Wx (.Assign [tg] e pos) (vAsg t g) := pds_imp (s_asg he hg hs hw h1) fun D Γ O h => asg_imp h
def vSet (i : Nat) (t : VE) : VS := fun Γ O => (t Γ O).toS Γ fun w O1 => .nx (Γ.set i (some w)) O1
theorem w_set {i : Nat} {x : Str} {pos' : Pos} {t : VE} (c : Bx X Wx) (he : PVE X Wx e t) (hi : X.N[i]? = some x := by rfl) (hx : Loc X.env.scope x := by first | exact Or.inl rfl | exact Or.inr rfl) (hs : swapsWith e (some (.Name x pos')) pos.line X.env = pure false := by rfl) (hf : X.fn x = true ∨ X.env.scope.names.lookup x = some .local := by first | exact .inl rfl | exact .inr rfl | assumption) :
    PVS X Wx (.Assign [.Name x pos'] e pos) (vSet i t) := pds_imp (s_set c he hi hx hs hf) fun D Γ O h => toS_run h
def vPar (i j : Nat) (u : VA) : VS := fun Γ O => (u Γ O).toS Γ fun ws O1 => match ws with
  | [v, w] => .nx ((Γ.set i (some v)).set j (some w)) O1
  | _ => .bad
theorem w_par {i j : Nat} {x y : Str} {a b : Expr} {ta : VA} {px py pt : Pos} {kt k2 pt2} (c : Bx X Wx) (ha : PVA X Wx [a, b] ta) (hi : X.N[i]? = some x := by rfl) (hj : X.N[j]? = some y := by rfl) (hij : i ≠ j := by decide)
    (hx : X.env.scope.names.lookup x = some .local := by rfl) (hy : X.env.scope.names.lookup y = some .local := by rfl)
    (hw : swappedStores [.Tuple [.Name x px, .Name y py] kt pt] (.Tuple [a, b] k2 pt2) X.env = pure (some [x, y]) := by rfl)
    (hs : swapsWithSole [.Tuple [.Name x px, .Name y py] kt pt] (.Tuple [a, b] k2 pt2) pos.line X.env = pure false := by rfl) :
    PVS X Wx (.Assign [.Tuple [.Name x px, .Name y py] kt pt] (.Tuple [a, b] k2 pt2) pos) (vPar i j ta) := pds_imp (s_par c ha hi hj hij hx hy hw hs) fun D Γ O h => by
  refine R.run_imp (toS_run h) (fun ws O1 h => ?_) fun _ _ h => h
  split at h
  · exact h
  · exact h.elim
def vAug (i : Nat) (t : VE) (f : U2) : VS := fun Γ O => match Γ[i]? with
  | some (some x) => (t Γ O).toS Γ fun y O1 => match f x y O1 with
    | some (z, O2) => .nx (Γ.set i (some z)) O2
    | none => .bad
  | _ => .bad
theorem w_aug {i : Nat} {x : Str} {op : Operator} {f : U2} {pos' : Pos} {t : VE} (c : Bx X Wx) (ho : OpV X (inplaceOp op) f) (he : PVE X Wx e t) (hi : X.N[i]? = some x := by rfl) (hx : Loc X.env.scope x := by first | exact Or.inl rfl | exact Or.inr rfl) (hf : X.fn x = true ∨ X.env.scope.names.lookup x = some .local := by first | exact .inl rfl | exact .inr rfl | assumption) :
    PVS X Wx (.AugAssign (.Name x pos') op e pos) (vAug i t f) := pds_imp (s_aug c ho he hi hx hf) fun D Γ O h => by
  unfold oS vAug at h
  unfold dAug
  split at h
  · rename_i w ew
    try rw [ew]
    refine R.run_imp (toS_run h) (fun y O1 h => ?_) fun _ _ h => h
    split at h
    · rename_i z O2 ez
      exact ⟨z, O2, ez, h⟩
    · exact h.elim
  · exact h.elim

/-! ### while -/
def whN (c : VT) (b : VS) : Nat → VS
  | 0 => fun _ _ => .bad
  | n + 1 => fun Γ O => (c Γ O).toS Γ fun k O1 => if k = true then (b Γ O1).turn (whN c b n) else .nx Γ O1
theorem whN_le {c : VT} {b : VS} : ∀ {n m : Nat} {Γ : Gm} {O : List Ob}, n ≤ m → whN c b n Γ O ≠ .bad → whN c b m Γ O = whN c b n Γ O
  | 0, _, _, _, _, h => absurd rfl h
  | n + 1, 0, _, _, hl, _ => absurd hl (Nat.not_succ_le_zero n)
  | n + 1, m + 1, Γ, O, hl, h => by
    unfold whN at h ⊢
    cases e : c Γ O with
    | bad => rw [e] at h; exact absurd rfl h
    | ex x O1 => rfl
    | ok k O1 =>
      rw [e] at h
      dsimp only [R.toS] at h ⊢
      cases k with
      | false => rfl
      | true =>
        rw [if_pos rfl] at h ⊢
        rw [if_pos rfl]
        cases eb : b Γ O1 with
        | nx Γ2 O2 => rw [eb] at h; exact whN_le (Nat.le_of_succ_le_succ hl) h
        | ct Γ2 O2 => rw [eb] at h; exact whN_le (Nat.le_of_succ_le_succ hl) h
        | _ => rfl
open Classical in
noncomputable def vWhile (c : VT) (b : VS) : VS := fun Γ O => if h : ∃ n, whN c b n Γ O ≠ .bad then whN c b h.choose Γ O else .bad
theorem vWhile_of {c : VT} {b : VS} {n : Nat} {Γ : Gm} {O : List Ob} {r : SR} (h : whN c b n Γ O = r) (hr : r ≠ .bad) : vWhile c b Γ O = r := by
  have ex : ∃ n, whN c b n Γ O ≠ .bad := ⟨n, by rw [h]; exact hr⟩
  unfold vWhile
  rw [dif_pos ex]
  have h1 := ex.choose_spec
  rw [← h]
  rcases Nat.le_total ex.choose n with hl | hl
  · exact (whN_le hl h1).symm
  · exact whN_le hl (by rw [h]; exact hr)
theorem vWhile_eq {c : VT} {b : VS} {Γ : Gm} {O : List Ob} : vWhile c b Γ O = (c Γ O).toS Γ fun k O1 => if k = true then (b Γ O1).turn (vWhile c b) else .nx Γ O1 := by
  by_cases ex : ∃ n, whN c b n Γ O ≠ .bad
  · obtain ⟨n, hn⟩ := ex
    rw [vWhile_of rfl hn]
    cases n with
    | zero => exact absurd rfl hn
    | succ n =>
      unfold whN at hn ⊢
      cases e : c Γ O with
      | bad => rfl
      | ex x O1 => rfl
      | ok k O1 =>
        rw [e] at hn
        dsimp only [R.toS] at hn ⊢
        cases k with
        | false => rfl
        | true =>
          rw [if_pos rfl] at hn ⊢
          rw [if_pos rfl]
          cases eb : b Γ O1 with
          | nx Γ2 O2 => rw [eb] at hn; exact (vWhile_of rfl hn).symm
          | ct Γ2 O2 => rw [eb] at hn; exact (vWhile_of rfl hn).symm
          | _ => rfl
  · have e0 : vWhile c b Γ O = .bad := by unfold vWhile; rw [dif_neg ex]
    rw [e0]
    cases e : c Γ O with
    | bad => rfl
    | ex x O1 => exact absurd ⟨1, by unfold whN; rw [e]; intro z; cases z⟩ ex
    | ok k O1 =>
      dsimp only [R.toS]
      cases k with
      | false => exact absurd ⟨1, by unfold whN; rw [e]; intro z; cases z⟩ ex
      | true =>
        rw [if_pos rfl]
        have st : ∀ n, whN c b (n + 1) Γ O = (b Γ O1).turn (whN c b n) := fun n => by
          show (c Γ O).toS Γ _ = _
          rw [e]; rfl
        cases eb : b Γ O1 with
        | nx Γ2 O2 =>
          show _ = vWhile c b Γ2 O2
          by_cases ex2 : ∃ n, whN c b n Γ2 O2 ≠ .bad
          · obtain ⟨n, hn⟩ := ex2
            exact absurd ⟨n + 1, by rw [st, eb]; exact hn⟩ ex
          · unfold vWhile; rw [dif_neg ex2]
        | ct Γ2 O2 =>
          show _ = vWhile c b Γ2 O2
          by_cases ex2 : ∃ n, whN c b n Γ2 O2 ≠ .bad
          · obtain ⟨n, hn⟩ := ex2
            exact absurd ⟨n + 1, by rw [st, eb]; exact hn⟩ ex
          · unfold vWhile; rw [dif_neg ex2]
        | rt w O2 => exact absurd ⟨1, by rw [st, eb]; intro z; cases z⟩ ex
        | bk Γ2 O2 => exact absurd ⟨1, by rw [st, eb]; intro z; cases z⟩ ex
        | ex x Γ2 O2 => exact absurd ⟨1, by rw [st, eb]; intro z; cases z⟩ ex
        | bad => rfl
theorem whN_imp {c : VT} {b : VS} {D : DEnds} : ∀ {n : Nat} {Γ : Gm} {O : List Ob}, (whN c b n Γ O).run D → dWh (oT c) (oS b) n D Γ O
  | 0, _, _, h => h.elim
  | n + 1, Γ, O, h => by
    refine ⟨fun Γ' O' => (whN c b n Γ' O').run D, fun Γ' O' q => whN_imp q, ?_⟩
    refine R.run_imp (toS_run h) (fun k O1 h => ?_) fun _ _ h => h
    cases k with
    | false => exact h
    | true =>
      rw [if_pos rfl] at h ⊢
      unfold oS
      cases eb : b Γ O1 <;> (rw [eb] at h; exact h)
theorem w_while {ce : Expr} {body : List Stmt} {c : VT} {b : VS} (bx : Bx X Wx) (hc : PVT X Wx ce c) (hb : PVSs X Wx body b) : PVS X Wx (.While ce body [] pos) (vWhile c b) := pds_imp (s_while bx hc hb) fun D Γ O h => by
  unfold oS vWhile at h
  split at h
  · exact ⟨_, whN_imp h⟩
  · exact h.elim

/-! ### for -/
abbrev Chk := List (Nat × List W)
def chkOf (l : Chk) (O : List Ob) : Prop := ∀ p ∈ l, O[p.1]? = some (.lst p.2)
@[simp] theorem chkOf_nil {O : List Ob} : chkOf [] O ↔ True := ⟨fun _ => trivial, fun _ p h => nomatch h⟩
theorem chkOf_one {k : Nat} {ws : List W} {O : List Ob} : chkOf [(k, ws)] O ↔ O[k]? = some (.lst ws) := ⟨fun h => h _ (List.mem_cons_self ..), fun h p hp => by
  rcases List.mem_cons.mp hp with rfl | hp
  · exact h
  · cases hp⟩
abbrev VI := Gm → List Ob → R (List W × Chk)
def oI (t : VI) : DI := fun Γ O Q E => (t Γ O).run (fun p O1 => Q p.1 (chkOf p.2) O1) E
abbrev PVI (X : Cx) (Wx : WX) (tg e : Expr) (t : VI) : Prop := PDI X Wx tg e (oI t)
theorem ItR.weak {K : PySem.W.Frag} {S : Hp} {ρ : Nat → Addr} {n : Nat} {H : Hp} {J : It} {items : List W} {chk chk' : List Ob → Prop} (h : ItR K S ρ n H J items chk) (i : ∀ O, chk' O → chk O) : ItR K S ρ n H J items chk' :=
  ⟨fun a O' S' ρ' H' x wd c => h.go a O' S' ρ' H' x wd (i _ c), fun a w O' S' ρ' H' z H'' x wd c => h.yld a w O' S' ρ' H' z H'' x wd (i _ c), fun O' S' ρ' H' x wd c => h.stop O' S' ρ' H' x wd (i _ c)⟩
theorem pdi_imp {tg : Expr} {t t' : DI} (h : PDI X Wx tg e t) (i : ∀ Γ O (Q : List W → (List Ob → Prop) → List Ob → Prop) E, t' Γ O Q E → t Γ O (fun items chk O1 => ∃ chk', (∀ O, chk' O → chk O) ∧ Q items chk' O1) E) : PDI X Wx tg e t' := L2.PI.imp h fun σ H R ⟨Γ, O, S, ρ, Q', E', st, h, k, kx⟩ =>
  ⟨Γ, O, S, ρ, _, E', st, i _ _ _ _ h, fun items chk O' S' ρ' J H' x wd ir ⟨chk', ic, q⟩ => k items chk' O' S' ρ' J H' x wd (ir.weak ic) q, kx⟩
theorem pi_or {tg : Expr} {t t' : TI} (h : PI X tg e t) (h' : PI X tg e t') : PI X tg e fun σ H R => t σ H R ∨ t' σ H R := ⟨fun pins s σ H R I q => q.elim (h.run pins s σ H R I) (h'.run pins s σ H R I)⟩
theorem pdi_or {tg : Expr} {t t' : DI} (h : PDI X Wx tg e t) (h' : PDI X Wx tg e t') : PDI X Wx tg e fun Γ O Q E => t Γ O Q E ∨ t' Γ O Q E := L2.PI.imp (UZ.pi_or h h') fun σ H R ⟨Γ, O, S, ρ, Q', E', st, h, r⟩ => h.elim (fun h => .inl ⟨Γ, O, S, ρ, Q', E', st, h, r⟩) fun h => .inr ⟨Γ, O, S, ρ, Q', E', st, h, r⟩
/-- the items of what is walked, and what must stand meanwhile -/
def wk (O : List Ob) (w : W) : Option (List W × Chk) := match w with
  | .d (.list xs) => some (xs.map .d, [])
  | .rl xs => some (xs.map .d, [])
  | .o k => match O[k]? with
    | some (.lst ws) => some (ws, [(k, ws)])
    | _ => none
  | w => match tv w with
    | some ws => some (ws, [])
    | none => none
def iSq (t : VE) : VI := fun Γ O => (t Γ O).bind fun w O1 => match wk O1 w with
  | some p => .ok p O1
  | none => .bad
theorem i_sq {tg : Expr} {t : VE} (h : PVE X Wx e t) : PVI X Wx tg e (iSq t) := pdi_imp (pdi_or (it_l h) (it_t h)) fun Γ O Q E h => by
  unfold oI iSq at h
  rw [R.run_bind] at h
  unfold dItL dItT oE
  cases e : t Γ O with
  | bad => rw [e] at h; exact h.elim
  | ex x O1 => rw [e] at h; exact .inl h
  | ok w O1 =>
    rw [e] at h
    dsimp only [R.run] at h ⊢
    cases w with
    | d x =>
      cases x with
      | list xs => exact .inl ⟨_, fun _ _ => trivial, h⟩
      | tuple xs => exact .inr ⟨_, rfl, _, fun _ _ => trivial, h⟩
      | _ => exact h.elim
    | rl xs => exact .inl ⟨_, fun _ _ => trivial, h⟩
    | o k =>
      dsimp only [wk] at h ⊢
      cases ek : O1[k]? with
      | none => rw [ek] at h; exact h.elim
      | some ob =>
        rw [ek] at h
        cases ob with
        | lst ws => exact .inl ⟨ws, rfl, _, fun O hc => chkOf_one.mp hc, h⟩
        | _ => exact h.elim
    | tp ws => exact .inr ⟨_, rfl, _, fun _ _ => trivial, h⟩
    | _ => exact h.elim
open Classical in
noncomputable def forV (g : VG) (b : VS) (chk : Chk) : List W → VS
  | [] => fun Γ O => if chkOf chk O then .nx Γ O else .bad
  | w :: ws => fun Γ O => if chkOf chk O then match g w Γ O with
    | some (Γ1, O1) => (b Γ1 O1).turn (forV g b chk ws)
    | none => .bad else .bad
noncomputable def vFor (it : VI) (g : VG) (b : VS) : VS := fun Γ O => (it Γ O).toS Γ fun p O1 => forV g b p.2 p.1 Γ O1
theorem forV_imp {g : VG} {b : VS} {chk : Chk} {D : DEnds} : ∀ {ws : List W} {Γ : Gm} {O : List Ob}, (forV g b chk ws Γ O).run D → dForL (oG g) (oS b) (chkOf chk) ws D Γ O
  | [], Γ, O, h => by
    unfold forV at h
    split at h
    · rename_i c; exact ⟨c, h⟩
    · exact h.elim
  | w :: ws, Γ, O, h => by
    unfold forV at h
    split at h
    · rename_i c
      refine ⟨c, fun Γ' O' => (forV g b chk ws Γ' O').run D, fun Γ' O' q => forV_imp q, ?_⟩
      split at h
      · rename_i Γ1 O1 eg
        refine ⟨Γ1, O1, eg, ?_⟩
        show (b Γ1 O1).run _
        cases eb : b Γ1 O1 <;> (rw [eb] at h; exact h)
      · exact h.elim
    · exact h.elim
theorem w_for {tg iter : Expr} {body : List Stmt} {it : VI} {g : VG} {b : VS} (bx : Bx X Wx) (hi : PVI X Wx tg iter it) (hg : PVG X tg g) (hb : PVSs X Wx body b)
    (hs : ∀ x, foldedSetIterable iter X.env x = pure x := by intro _; rfl) : PVS X Wx (.For tg iter body [] pos) (vFor it g b) := pds_imp (s_for bx hi hg hb hs) fun D Γ O h => by
  exact R.run_imp (toS_run h) (fun p O1 h => forV_imp h) fun _ _ h => h

/-! ### iterators -/
/-- an int that a range takes (not decided by a program: the kernel would count) -/
def smI (j : Int) : Prop := -(2 ^ 62) ≤ j ∧ j < 2 ^ 62
open Classical in
noncomputable def iR1 (t : VE) : VI := fun Γ O => (t Γ O).bind fun w O1 => match w with
  | .d (.int j) => if smI j then .ok (rng 0 j.toNat, []) O1 else .bad
  | _ => .bad
open Classical in
noncomputable def iR2 (t u : VE) : VI := fun Γ O => (t Γ O).bind fun v O1 => (u Γ O1).bind fun w O2 => match v, w with
  | .d (.int i), .d (.int j) => if smI i ∧ smI j then .ok (rng i (j - i).toNat, []) O2 else .bad
  | _, _ => .bad
theorem i_r1 {tg a : Expr} {t : VE} {p pos : Pos} (hm : X.mg "range" = none) (ha : PVE X Wx a t) (hg : Gl X "range" := by rfl) (hs : starEach [a] X.env = [(false, eval a X.env)] := by rfl) : PVI X Wx tg (.Call (.Name "range" p) [a] [] pos) (iR1 t) :=
  pdi_imp (it_r1 hm (v_cons ha v_nil hs) hg hs) fun Γ O Q E h => by
    unfold oI iR1 at h
    rw [R.run_bind] at h
    show ((t Γ O).bind fun w O1 => (R.ok [] O1).bind fun ws O2 => .ok (w :: ws) O2).run _ _
    rw [R.run_bind]
    refine R.run_imp h (fun w O1 h => ?_) fun _ _ h => h
    split at h
    · split at h
      · rename_i c; exact ⟨c.1, c.2, _, fun _ _ => trivial, h⟩
      · exact h.elim
    · exact h.elim
theorem i_r2 {tg a b : Expr} {t u : VE} {p pos : Pos} (hm : X.mg "range" = none) (ha : PVE X Wx a t) (hb : PVE X Wx b u) (hg : Gl X "range" := by rfl) (hs : starEach [a, b] X.env = [(false, eval a X.env), (false, eval b X.env)] := by rfl) (hs2 : starEach [b] X.env = [(false, eval b X.env)] := by rfl) : PVI X Wx tg (.Call (.Name "range" p) [a, b] [] pos) (iR2 t u) :=
  pdi_imp (it_r2 hm (v_cons ha (v_cons hb v_nil hs2) (hs.trans (by rw [hs2]))) hg hs hs2) fun Γ O Q E h => by
    unfold oI iR2 at h
    rw [R.run_bind] at h
    show ((t Γ O).bind fun w O1 => ((u Γ O1).bind fun w O1 => (R.ok [] O1).bind fun ws O2 => .ok (w :: ws) O2).bind fun ws O2 => .ok (w :: ws) O2).run _ _
    rw [R.run_bind]
    refine R.run_imp h (fun w O1 h => ?_) fun _ _ h => h
    rw [R.run_bind, R.run_bind]
    rw [R.run_bind] at h
    refine R.run_imp h (fun w2 O2 h => ?_) fun _ _ h => h
    split at h
    · split at h
      · rename_i c; exact ⟨⟨c.1.1, c.1.2, c.2.1, c.2.2⟩, _, fun _ _ => trivial, h⟩
      · exact h.elim
    · exact h.elim
def iRv (t : VE) : VI := fun Γ O => (t Γ O).bind fun w O1 => match tv w with
  | some ws => .ok (ws.reverse, []) O1
  | none => .bad
theorem i_rv {tg : Expr} {t : VE} {p pos : Pos} (hm : X.mg "reversed" = none) (h : PVE X Wx e t) (hg : Gl X "reversed" := by rfl) (hs : starEach [e] X.env = (false, eval e X.env) :: starEach [] X.env := by rfl) : PVI X Wx tg (.Call (.Name "reversed" p) [e] [] pos) (iRv t) := pdi_imp (it_rv hm h hg hs) fun Γ O Q E h => by
  unfold oI iRv at h
  rw [R.run_bind] at h
  refine R.run_imp h (fun w O1 h => ?_) fun _ _ h => h
  split at h
  · rename_i ws ew; exact ⟨ws, ew, _, fun _ _ => trivial, h⟩
  · exact h.elim
def iEn (t : VE) : VI := fun Γ O => (t Γ O).bind fun w O1 => match wk O1 w with
  | some p => .ok (enumW 0 p.1, p.2) O1
  | none => .bad
theorem wk_wlk {w : W} {O : List Ob} {p : List W × Chk} {Q : List W → (List Ob → Prop) → Prop} (h : wk O w = some p) (q : ∀ chk : List Ob → Prop, (∀ O, chkOf p.2 O → chk O) → Q p.1 chk) : wlk w O Q := by
  cases w with
  | d x =>
    cases x with
    | list xs => cases h; exact q _ fun _ _ => trivial
    | tuple xs => cases h; exact ⟨_, rfl, q _ fun _ _ => trivial⟩
    | _ => cases h
  | rl xs => cases h; exact q _ fun _ _ => trivial
  | o k =>
    unfold wk at h
    dsimp only at h
    split at h
    · rename_i ws ek
      cases h; exact ⟨ws, ek, q _ fun O hc => chkOf_one.mp hc⟩
    · cases h
  | tp ws => cases h; exact ⟨_, rfl, q _ fun _ _ => trivial⟩
  | _ => cases h
theorem i_en {t : VE} {p pos tpos : Pos} {elts : List Expr} {kk : Nat} (hm : X.mg "enumerate" = none) (ha : PVE X Wx e t) (hg : Gl X "enumerate" := by rfl) (hs : starEach [e] X.env = [(false, eval e X.env)] := by rfl) :
    PVI X Wx (.Tuple elts kk tpos) (.Call (.Name "enumerate" p) [e] [] pos) (iEn t) := pdi_imp (it_en hm (v_cons ha v_nil hs) hg hs) fun Γ O Q E h => by
  unfold oI iEn at h
  rw [R.run_bind] at h
  show ((t Γ O).bind fun w O1 => (R.ok [] O1).bind fun ws O2 => .ok (w :: ws) O2).run _ _
  rw [R.run_bind]
  refine R.run_imp h (fun w O1 h => ?_) fun _ _ h => h
  split at h
  · rename_i p ep
    show wlk w O1 fun items chk => ∃ chk', (∀ O, chk' O → chk O) ∧ Q (enumW 0 items) chk' O1
    exact wk_wlk ep fun chk hc => ⟨_, hc, h⟩
  · exact h.elim
/-- lists alone -/
def wkL (O : List Ob) (w : W) : Option (List W × Chk) := match w with
  | .d (.list xs) => some (xs.map .d, [])
  | .rl xs => some (xs.map .d, [])
  | .o k => match O[k]? with
    | some (.lst ws) => some (ws, [(k, ws)])
    | _ => none
  | _ => none
theorem wkL_wlk {w : W} {O : List Ob} {p : List W × Chk} {Q : List W → (List Ob → Prop) → Prop} (h : wkL O w = some p) (q : ∀ chk : List Ob → Prop, (∀ O, chkOf p.2 O → chk O) → Q p.1 chk) : wlkL w O Q := by
  cases w with
  | d x =>
    cases x with
    | list xs => cases h; exact q _ fun _ _ => trivial
    | _ => cases h
  | rl xs => cases h; exact q _ fun _ _ => trivial
  | o k =>
    unfold wkL at h
    dsimp only at h
    split at h
    · rename_i ws ek
      cases h; exact ⟨ws, ek, q _ fun O hc => chkOf_one.mp hc⟩
    · cases h
  | _ => cases h
def iZp (t u : VE) : VI := fun Γ O => (t Γ O).bind fun v O1 => (u Γ O1).bind fun w O2 => match wkL O2 v, wkL O2 w with
  | some p, some q => .ok (zipW p.1 q.1, p.2 ++ q.2) O2
  | _, _ => .bad
theorem i_zp {e2 : Expr} {t u : VE} {p pos tpos : Pos} {elts : List Expr} {kk : Nat} (hm : X.mg "zip" = none) (ha : PVE X Wx e t) (hb : PVE X Wx e2 u) (hg : Gl X "zip" := by rfl)
    (hs : starEach [e, e2] X.env = (false, eval e X.env) :: starEach [e2] X.env := by rfl) (hs2 : starEach [e2] X.env = (false, eval e2 X.env) :: starEach [] X.env := by rfl) (hpl : (backTo pos (starEach [e2] X.env)).any (·.1) = false := by rfl) :
    PVI X Wx (.Tuple elts kk tpos) (.Call (.Name "zip" p) [e, e2] [] pos) (iZp t u) := pdi_imp (it_z hm (v_cons ha (v_cons hb v_nil hs2) hs) hg hs hpl) fun Γ O Q E h => by
  unfold oI iZp at h
  rw [R.run_bind] at h
  show ((t Γ O).bind fun w O1 => ((u Γ O1).bind fun w O1 => (R.ok [] O1).bind fun ws O2 => .ok (w :: ws) O2).bind fun ws O2 => .ok (w :: ws) O2).run _ _
  rw [R.run_bind]
  refine R.run_imp h (fun w O1 h => ?_) fun _ _ h => h
  rw [R.run_bind, R.run_bind]
  rw [R.run_bind] at h
  refine R.run_imp h (fun w2 O2 h => ?_) fun _ _ h => h
  split at h
  · rename_i p q ep eq
    show wlkL w O2 fun items chk => wlkL w2 O2 fun items' chk' => ∃ chk2, (∀ O, chk2 O → (chk O ∧ chk' O)) ∧ Q (zipW items items') chk2 O2
    exact wkL_wlk ep fun chk hc => wkL_wlk eq fun chk' hc' => ⟨_, fun O hh => ⟨hc O fun a ha => hh a (List.mem_append_left _ ha), hc' O fun a ha => hh a (List.mem_append_right _ ha)⟩, h⟩
  · exact h.elim

/-! ### comprehensions -/
def tgV (g : Tg) (w : W) (Γ : Gm) : Option Gm := match g with
  | .one i => some (Γ.set i (some w))
  | .many is => match tv w with
    | some ws => if ws.length = is.length then some (setAll is ws Γ) else none
    | none => none
theorem tgV_imp {g : Tg} {w : W} {Γ Γ' : Gm} {Q : Gm → Prop} (h : tgV g w Γ = some Γ') (q : Q Γ') : tgD g w Γ Q := by
  unfold tgV at h
  split at h
  · cases h; exact q
  · split at h
    · rename_i ws ew
      split at h
      · rename_i hl
        cases h; exact ⟨ws, ew, hl, q⟩
      · cases h
    · cases h
def R.calm {α : Type} (r : R α) : R α := match r with
  | .ok a O => .ok a O
  | _ => .bad
@[simp] theorem R.calm_ok {α : Type} {a : α} {O : List Ob} : (R.ok a O).calm = .ok a O := rfl
theorem calm_run {α : Type} {r : R α} {Q : α → List Ob → Prop} {E : DX} (h : r.calm.run Q E) : r.run Q noX := by cases r <;> first | exact h | exact h.elim
/-- one turn of a comprehension -/
def lcF (g : Tg) (tt : VT) (te : VE) (Γ : Gm) : W → List Ob → R (Option W) := fun w O => match tgV g w Γ with
  | some Γ1 => (tt Γ1 O).calm.bind fun b O1 => if b = true then (te Γ1 O1).calm.bind fun y O2 => .ok (some y) O2 else .ok none O1
  | none => .bad
open Classical in
noncomputable def lcV (chk : Chk) (f : W → List Ob → R (Option W)) : List W → List Ob → R (List W)
  | [], O => if chkOf chk O then .ok [] O else .bad
  | w :: ws, O => if chkOf chk O then (f w O).bind fun o O1 => (lcV chk f ws O1).bind fun r O2 => .ok (match o with | some y => y :: r | none => r) O2 else .bad
theorem lcV_imp {g : Tg} {tt : VT} {te : VE} {chk : Chk} {Γ : Gm} {R' : List W → List Ob → Prop} : ∀ {ws acc : List W} {O : List Ob},
    (lcV chk (lcF g tt te Γ) ws O).run (fun r O' => acc.length + r.length ≤ sizeLine ∧ R' (acc ++ r) O') noX → dLcL g (oT tt) (oE te) (chkOf chk) Γ ws acc O R'
  | [], acc, O, h => by
    unfold lcV at h
    split at h
    · rename_i c
      have h2 := h.2
      rw [List.append_nil] at h2
      exact ⟨c, h2⟩
    · exact h.elim
  | w :: ws, acc, O, h => by
    unfold lcV at h
    split at h
    · rename_i c
      refine ⟨c, fun acc' O' => (lcV chk (lcF g tt te Γ) ws O').run (fun r O' => acc'.length + r.length ≤ sizeLine ∧ R' (acc' ++ r) O') noX, fun acc' O' q => lcV_imp q, ?_⟩
      rw [R.run_bind] at h
      unfold lcF at h
      split at h
      · rename_i Γ1 eg
        refine tgV_imp eg ?_
        rw [R.run_bind] at h
        refine R.run_imp (calm_run h) (fun b O1 h => ?_) fun _ _ h => h
        cases b with
        | false =>
          rw [if_neg (by decide)] at h ⊢
          change ((lcV chk (lcF g tt te Γ) ws O1).bind _).run _ _ at h
          rw [R.run_bind] at h
          exact R.run_imp h (fun r O2 h => h) fun _ _ h => h
        | true =>
          rw [if_pos rfl] at h ⊢
          rw [R.run_bind] at h
          refine R.run_imp (calm_run h) (fun y O2 h => ?_) fun _ _ h => h
          change ((lcV chk (lcF g tt te Γ) ws O2).bind _).run _ _ at h
          rw [R.run_bind] at h
          have hl : acc.length < sizeLine := by
            cases e : lcV chk (lcF g tt te Γ) ws O2 with
            | bad => rw [e] at h; exact h.elim
            | ok r O3 =>
              rw [e] at h
              have := h.1
              simp only [List.length_cons] at this
              omega
            | ex x O3 => rw [e] at h; exact h.elim
          refine ⟨hl, R.run_imp h (fun r O3 h => ?_) fun _ _ h => h⟩
          refine ⟨by have := h.1; simp only [List.length_cons] at this; rw [List.length_append, List.length_singleton]; omega, ?_⟩
          have h2 := h.2
          rw [List.append_assoc]
          exact h2
      · exact h.elim
    · exact h.elim

noncomputable def vLcM (mk : List W → List Ob → W × List Ob) (it : VI) (g : Tg) (tt : VT) (te : VE) (us : List Nat) : VE := fun Γ O => (it Γ O).bind fun p O1 => (lcV p.2 (lcF g tt te (wipeD Γ us)) p.1 O1).calm.bind fun ws O2 =>
  if ws.length ≤ sizeLine then .ok (mk ws O2).1 (mk ws O2).2 else .bad
noncomputable abbrev vLc := vLcM mkL
noncomputable abbrev vLcO := vLcM mkO
def vYes : VT := fun _ O => .ok true O
theorem tv_nil : PTs X [] (iT X.K Wx (oT vYes)) := L2.PTs.imp ts_nil fun σ H Q ⟨Γ, O, S, ρ, Q', E', st, h, r⟩ => ⟨Γ, O, S, ρ, Q', E', st, h, r⟩
theorem tv_one {c : Expr} {t : VT} (h : PVT X Wx c t) : PTs X [c] (iT X.K Wx (oT t)) := ts_one h
theorem lcO_imp {it : VI} {g : Tg} {tt : VT} {te : VE} {us : List Nat} {Γ : Gm} {O : List Ob} {Q : DQ} {E : DX} (h : oE (vLcO it g tt te us) Γ O Q E) : dLcO (oI it) g (oT tt) (oE te) us Γ O Q E := by
  unfold oE vLcO vLcM at h
  rw [R.run_bind] at h
  refine R.run_imp h (fun p O1 h => ?_) fun _ _ h => h
  rw [R.run_bind] at h
  refine lcV_imp (R.run_imp (calm_run h) (fun ws O2 h => ?_) fun _ _ h => h)
  split at h
  · rename_i hl
    exact ⟨by rw [List.length_nil, Nat.zero_add]; exact hl, h⟩
  · exact h.elim
theorem lc_imp {it : VI} {g : Tg} {tt : VT} {te : VE} {us : List Nat} {Γ : Gm} {O : List Ob} {Q : DQ} {E : DX} (h : oE (vLc it g tt te us) Γ O Q E) : dLc (oI it) g (oT tt) (oE te) us Γ O Q E ∨ dLcO (oI it) g (oT tt) (oE te) us Γ O Q E := by
  unfold oE vLc vLcM at h
  unfold dLc dLcO oI
  cases e : it Γ O with
  | bad => rw [e] at h; exact h.elim
  | ex x O1 => rw [e] at h; exact .inl h
  | ok p O1 =>
    rw [e] at h
    dsimp only [R.run, R.bind] at h ⊢
    cases e2 : (lcV p.2 (lcF g tt te (wipeD Γ us)) p.1 O1).calm with
    | bad => rw [e2] at h; exact h.elim
    | ex x O2 => cases e3 : lcV p.2 (lcF g tt te (wipeD Γ us)) p.1 O1 <;> (rw [e3] at e2; cases e2)
    | ok ws O2 =>
      rw [e2] at h
      dsimp only at h
      have e3 : lcV p.2 (lcF g tt te (wipeD Γ us)) p.1 O1 = .ok ws O2 := by
        cases e3 : lcV p.2 (lcF g tt te (wipeD Γ us)) p.1 O1 <;> (rw [e3] at e2; cases e2)
        rfl
      by_cases hl : ws.length ≤ sizeLine
      · rw [if_pos hl] at h
        rcases mkL_cases (ws := ws) (O := O2) with ⟨xs, ex, em⟩ | em
        · rw [em] at h
          refine .inl (lcV_imp ?_)
          rw [e3]
          refine ⟨by rw [List.length_nil, Nat.zero_add]; exact hl, ?_⟩
          rw [List.nil_append, ex]; exact h
        · rw [em] at h
          refine .inr (lcV_imp ?_)
          rw [e3]
          exact ⟨by rw [List.length_nil, Nat.zero_add]; exact hl, h⟩
      · rw [if_neg hl] at h; exact h.elim
section
variable {elt tg iter : Expr} {ifs : List Expr} {scope : Scope} {it : VI} {tt : VT} {te : VE}
theorem v_lc (bx : Bx X Wx) (own : List (Str × Nat)) (g : Tg) (hi : PVI X Wx tg iter it) (ok : BlkOk X.N X.env.scope scope own) (hu : ∀ i ∈ g.ix, i ∈ own.map (·.2))
    (hg : ∀ (s : Shared) (H : Hp) (C : Addr) (cl : List (Str × Addr)) (fp : List Addr), PG (X.blk s H scope (compEnvC scope cl C X.env) fp) tg (tgH X.K g)) (ht : ∀ (s : Shared) (H : Hp) (C : Addr) (cl : List (Str × Addr)) (fp : List Addr), PTs (X.blk s H scope (compEnvC scope cl C X.env) fp) ifs (iT X.K Wx0 (oT tt)))
    (he : ∀ (s : Shared) (H : Hp) (C : Addr) (cl : List (Str × Addr)) (fp : List Addr), PE (X.blk s H scope (compEnvC scope cl C X.env) fp) elt (iE X.K Wx0 (oE te))) (hs : ∀ x, foldedSetIterable iter X.env x = pure x := by intro _; rfl) :
    PVE X Wx (.ListComp elt [⟨tg, iter, ifs, 0⟩] scope pos) (vLc it g tt te (own.map (·.2))) := pde_imp (pde_or (d_lc bx own g hi ok hu hg ht he hs) (d_lcO bx own g hi ok hu hg ht he hs)) fun _ _ _ _ h => lc_imp h
theorem v_lcO (bx : Bx X Wx) (own : List (Str × Nat)) (g : Tg) (hi : PVI X Wx tg iter it) (ok : BlkOk X.N X.env.scope scope own) (hu : ∀ i ∈ g.ix, i ∈ own.map (·.2))
    (hg : ∀ (s : Shared) (H : Hp) (C : Addr) (cl : List (Str × Addr)) (fp : List Addr), PG (X.blk s H scope (compEnvC scope cl C X.env) fp) tg (tgH X.K g)) (ht : ∀ (s : Shared) (H : Hp) (C : Addr) (cl : List (Str × Addr)) (fp : List Addr), PTs (X.blk s H scope (compEnvC scope cl C X.env) fp) ifs (iT X.K Wx0 (oT tt)))
    (he : ∀ (s : Shared) (H : Hp) (C : Addr) (cl : List (Str × Addr)) (fp : List Addr), PE (X.blk s H scope (compEnvC scope cl C X.env) fp) elt (iE X.K Wx0 (oE te))) (hs : ∀ x, foldedSetIterable iter X.env x = pure x := by intro _; rfl) :
    PVE X Wx (.ListComp elt [⟨tg, iter, ifs, 0⟩] scope pos) (vLcO it g tt te (own.map (·.2))) := pde_imp (d_lcO bx own g hi ok hu hg ht he hs) fun _ _ _ _ h => lcO_imp h
theorem w_setLc {i : Nat} {y : Str} {py spos : Pos} (bx : Bx X Wx) (own : List (Str × Nat)) (g : Tg) (hi : PVI X Wx tg iter it) (ok : BlkOk X.N X.env.scope scope own) (hu : ∀ i ∈ g.ix, i ∈ own.map (·.2))
    (hg : ∀ (s : Shared) (H : Hp) (C : Addr) (cl : List (Str × Addr)) (fp : List Addr), PG (X.blk s H scope (compEnvC scope cl C X.env) fp) tg (tgH X.K g)) (ht : ∀ (s : Shared) (H : Hp) (C : Addr) (cl : List (Str × Addr)) (fp : List Addr), PTs (X.blk s H scope (compEnvC scope cl C X.env) fp) ifs (iT X.K Wx0 (oT tt)))
    (he : ∀ (s : Shared) (H : Hp) (C : Addr) (cl : List (Str × Addr)) (fp : List Addr), PE (X.blk s H scope (compEnvC scope cl C X.env) fp) elt (iE X.K Wx0 (oE te))) (hy : X.N[i]? = some y := by rfl) (hyl : X.env.scope.names.lookup y = some .local := by rfl)
    (hsw : swapsWith (.ListComp elt [⟨tg, iter, ifs, 0⟩] scope pos) (some (.Name y py)) spos.line X.env = pure true := by exact sw_true rfl rfl rfl (by decide +kernel)) (hs : ∀ x, foldedSetIterable iter X.env x = pure x := by intro _; rfl) :
    PVS X Wx (.Assign [.Name y py] (.ListComp elt [⟨tg, iter, ifs, 0⟩] scope pos) spos) (vSet i (vLc it g tt te (own.map (·.2)))) := pds_imp (pds_or (s_setLc bx own g hi ok hu hg ht he hy hyl hsw hs) (s_setLcO bx own g hi ok hu hg ht he hy hyl hsw hs)) fun D Γ O h => lc_imp (toS_run h)
theorem w_setLcO {i : Nat} {y : Str} {py spos : Pos} (bx : Bx X Wx) (own : List (Str × Nat)) (g : Tg) (hi : PVI X Wx tg iter it) (ok : BlkOk X.N X.env.scope scope own) (hu : ∀ i ∈ g.ix, i ∈ own.map (·.2))
    (hg : ∀ (s : Shared) (H : Hp) (C : Addr) (cl : List (Str × Addr)) (fp : List Addr), PG (X.blk s H scope (compEnvC scope cl C X.env) fp) tg (tgH X.K g)) (ht : ∀ (s : Shared) (H : Hp) (C : Addr) (cl : List (Str × Addr)) (fp : List Addr), PTs (X.blk s H scope (compEnvC scope cl C X.env) fp) ifs (iT X.K Wx0 (oT tt)))
    (he : ∀ (s : Shared) (H : Hp) (C : Addr) (cl : List (Str × Addr)) (fp : List Addr), PE (X.blk s H scope (compEnvC scope cl C X.env) fp) elt (iE X.K Wx0 (oE te))) (hy : X.N[i]? = some y := by rfl) (hyl : X.env.scope.names.lookup y = some .local := by rfl)
    (hsw : swapsWith (.ListComp elt [⟨tg, iter, ifs, 0⟩] scope pos) (some (.Name y py)) spos.line X.env = pure true := by exact sw_true rfl rfl rfl (by decide +kernel)) (hs : ∀ x, foldedSetIterable iter X.env x = pure x := by intro _; rfl) :
    PVS X Wx (.Assign [.Name y py] (.ListComp elt [⟨tg, iter, ifs, 0⟩] scope pos) spos) (vSet i (vLcO it g tt te (own.map (·.2)))) := pds_imp (s_setLcO bx own g hi ok hu hg ht he hy hyl hsw hs) fun D Γ O h => lcO_imp (toS_run h)
end
end

/-! ### own defs -/
abbrev FV := List W → List Ob → R W
def spV (n : Nat) (f : FV) : DSp := fun ws O Q E => ws.length = n ∧ (f ws O).run Q E
abbrev FnV (P : Program) (w : World) (K : PySem.W.Frag) (mg : Str → Option Value) (base : Heap) (x : Str) (k : Nat) (ps : List Str) (f : FV) : Prop := FnD P w K mg base x k ps (spV ps.length f)
def vCall (n : Nat) (f : FV) (u : VA) : VE := fun Γ O => (u Γ O).bind fun ws O1 => if ws.length = n then f ws O1 else .bad
section
variable {X : Cx} {Wx : WX} {e : Expr} {es : List Expr} {x : Str} {p pos : Pos} {k : Nat} {ps : List Str} {f : FV}
theorem v_call {n : Nat} {u : VA} (bx : Bx X Wx) (F : FnV X.prog X.w X.K X.mg X.base x k ps f) (hr : Room k X.A) (ha : PVA X Wx (e :: es) u) (hn : ps.length = n := by rfl) (hg : Gl X x := by rfl) (hdb : (x == ("__debug__" : Str)) = false := by decide)
    (he : starEach (e :: es) X.env = (false, eval e X.env) :: starEach es X.env := by rfl) (hpl : (backTo pos (starEach es X.env)).any (·.1) = false := by rfl) : PVE X Wx (.Call (.Name x p) (e :: es) [] pos) (vCall n f u) := pde_imp (d_call bx F hr ha hg hdb he hpl) fun Γ O Q E h => by
  unfold oE vCall at h
  rw [R.run_bind] at h
  refine R.run_imp h (fun ws O1 h => ?_) fun _ _ h => h
  split at h
  · rename_i hl; exact ⟨hl.trans hn.symm, h⟩
  · exact h.elim
/-- without arguments: raises nothing -/
def vCall0 (f : FV) : VE := fun _ O => (f [] O).calm
theorem v_call0 (F : FnV X.prog X.w X.K X.mg X.base x k [] f) (hr : Room k X.A) (hg : Gl X x := by rfl) (hdb : (x == ("__debug__" : Str)) = false := by decide) : PVE X Wx (.Call (.Name x p) [] [] pos) (vCall0 f) := pde_imp (d_call0 F hr hg hdb) fun Γ O Q E h => ⟨rfl, calm_run h⟩
end
open Classical in
/-- the end of a def's body: what it gives, its own objects read -/
noncomputable def finW (O : List Ob) (w : W) (O1 : List Ob) : R W := match rsW O.length O1 8 w with
  | some x => if OkTake O O1 then .ok (.d x) (O1.take O.length) else .ok w O1
  | none => .ok w O1
open Classical in
noncomputable def finX (O : List Ob) (x : Xc) (O1 : List Ob) : R W := if OkTake O O1 then .ex x (O1.take O.length) else .ex x O1
noncomputable def SR.fin (r : SR) (O : List Ob) : R W := match r with
  | .nx _ O1 => finW O (.d .none) O1
  | .rt w O1 => finW O w O1
  | .ex x _ O1 => finX O x O1
  | _ => .bad
/-- its own objects kept: to be changed by who called -/
noncomputable def SR.finK (r : SR) (O : List Ob) : R W := match r with
  | .nx _ O1 => finW O (.d .none) O1
  | .rt w O1 => .ok w O1
  | .ex x _ O1 => finX O x O1
  | _ => .bad
noncomputable def fnV (N : List Str) (t : VS) : FV := fun ws O => (t (startD N ws) O).fin O
noncomputable def fnK (N : List Str) (t : VS) : FV := fun ws O => (t (startD N ws) O).finK O
theorem finW_imp {O O1 : List Ob} {w : W} {Q : DQ} {E : DX} (h : (finW O w O1).run Q E) : Fin O Q w O1 := by
  unfold finW at h
  split at h
  · rename_i x ex
    split at h
    · rename_i ok; exact .inr ⟨x, rsW_N _ _ _ ex, ok, h⟩
    · exact .inl h
  · exact .inl h
theorem finX_imp {O O1 : List Ob} {x : Xc} {Q : DQ} {E : DX} (h : (finX O x O1).run Q E) : E x O1 ∨ (OkTake O O1 ∧ E x (O1.take O.length)) := by
  unfold finX at h
  split at h
  · rename_i ok; exact .inr ⟨ok, h⟩
  · exact .inl h
theorem fin_imp {r : SR} {O : List Ob} {Q : DQ} {E : DX} (h : (r.fin O).run Q E) : r.run (endsD O Q E) := by
  cases r with
  | nx Γ O1 => exact finW_imp h
  | rt w O1 => exact finW_imp h
  | ex x Γ O1 => exact finX_imp h
  | _ => exact h.elim
theorem finK_imp {r : SR} {O : List Ob} {Q : DQ} {E : DX} (h : (r.finK O).run Q E) : r.run (endsD O Q E) := by
  cases r with
  | nx Γ O1 => exact finW_imp h
  | rt w O1 => exact .inl h
  | ex x Γ O1 => exact finX_imp h
  | _ => exact h.elim
section
variable {P : Program} {w : World} {K : PySem.W.Frag} {mg : Str → Option Value} {base : Heap}
variable {x qual : Str} {st : Stmt} {f : Addr} {fd : FuncData} {N ps : List Str} {k : Nat}
theorem fn_V (t : VS) (F : Fun K x qual st f fd) (gm : mg x = some (.ref f)) (b : Binds K fd ps []) (S : FnScope N ps (defScope st))
    (body : ∀ (cdv : Value) (A : Around) (outer : List Env) (s : Shared) (H : Hp) (E : XK), Room k (A.deeper (envOfC qual (defScope st) s.heap.objs.size f cdv)) → Bx (cxOf (L2.CX P w) P w K mg base N qual (defScope st) f cdv A outer s H E) (wE E) →
      PVSs (cxOf (L2.CX P w) P w K mg base N qual (defScope st) f cdv A outer s H E) (wE E) (defBody st) t) : FnV P w K mg base x (k + 1) ps (fnV N t) :=
  fn_D (oS t) F gm b S (fun ws O Q E h => h.1) body fun ws O Q E h => fin_imp h.2
theorem fn_K (t : VS) (F : Fun K x qual st f fd) (gm : mg x = some (.ref f)) (b : Binds K fd ps []) (S : FnScope N ps (defScope st))
    (body : ∀ (cdv : Value) (A : Around) (outer : List Env) (s : Shared) (H : Hp) (E : XK), Room k (A.deeper (envOfC qual (defScope st) s.heap.objs.size f cdv)) → Bx (cxOf (L2.CX P w) P w K mg base N qual (defScope st) f cdv A outer s H E) (wE E) →
      PVSs (cxOf (L2.CX P w) P w K mg base N qual (defScope st) f cdv A outer s H E) (wE E) (defBody st) t) : FnV P w K mg base x (k + 1) ps (fnK N t) :=
  fn_D (oS t) F gm b S (fun ws O Q E h => h.1) body fun ws O Q E h => finK_imp h.2
/-- the law's def -/
theorem fn_L (t : VS) (F : Fun K x qual st f fd) (S : FnScope N ps (defScope st))
    (body : ∀ (cdv : Value) (A : Around) (outer : List Env) (s : Shared) (H : Hp) (E : XK), Room k (A.deeper (envOfC qual (defScope st) s.heap.objs.size f cdv)) → Bx (cxOf (L2.CX P w) P w K mg base N qual (defScope st) f cdv A outer s H E) (wE E) →
      PVSs (cxOf (L2.CX P w) P w K mg base N qual (defScope st) f cdv A outer s H E) (wE E) (defBody st) t) : FnOk P w K mg base (L2.CX P w) (k + 1) f fd ps (spH K (spV ps.length (fnV N t))) :=
  fn_O (oS t) F S (fun ws O Q E h => h.1) body fun ws O Q E h => fin_imp h.2
theorem fn_0 {k : Nat} (F : Fun K x qual st f fd) (gm : mg x = some (.ref f)) (b : Binds K fd ps []) : FnV P w K mg base x k ps fun _ _ => .bad :=
  ⟨_, _, ⟨fun vs H Q E ⟨ws, O, S, ρ, Q', E', _, _, q, _⟩ => q.2.elim, fun A outer s H args us vs Q E _ _ _ _ ⟨ws, O, S, ρ, Q', E', _, _, q, _⟩ => q.2.elim⟩, gm, F.kp, b⟩
end

/-! ### exceptions -/
section
variable {X : Cx} {Wx : WX} {x : Str} {k : Nat} {fs : List Str} {e : Expr} {es : List Expr} {p pos pos' : Pos}
open Classical in
noncomputable def vRaise (x : Str) (fs : List Str) (u : VA) : VS := fun Γ O => (u Γ O).toS Γ fun ws O1 => match allD ws with
  | some xs => if xs.length = fs.length ∧ fs.length ≤ 1000 ∧ (∀ y ∈ xs, okP y) then .ex (.fld x (fs.zip xs).reverse) Γ O1 else .bad
  | none => .bad
theorem w_raise {u : VA} (bx : Bx X Wx) (F : ExD X.prog X.w X.K X.mg X.base x k fs) (hr : Room (k + 1) X.A) (ha : PVA X Wx (e :: es) u) (hg : Gl X x := by rfl) (hdb : (x == ("__debug__" : Str)) = false := by decide)
    (he : starEach (e :: es) X.env = (false, eval e X.env) :: starEach es X.env := by rfl) (hpl : (backTo pos (starEach es X.env)).any (·.1) = false := by rfl) : PVS X Wx (.Raise (some (.Call (.Name x p) (e :: es) [] pos)) none pos') (vRaise x fs u) := pds_imp (s_raise bx F hr ha hg hdb he hpl) fun D Γ O h => by
  refine R.run_imp (toS_run h) (fun ws O1 h => ?_) fun _ _ h => h
  split at h
  · rename_i xs ex
    split at h
    · rename_i c; exact ⟨xs, ex, c.1, c.2.1, c.2.2, h⟩
    · exact h.elim
  · exact h.elim
def vRaise0 (x : Str) : VS := fun Γ O => .ex (.plain x) Γ O
theorem w_raise0 (bx : Bx X Wx) (F : ExP X.K X.mg x) (hg : Gl X x := by rfl) (hdb : (x == ("__debug__" : Str)) = false := by decide) : PVS X Wx (.Raise (some (.Call (.Name x p) [] [] pos)) none pos') (vRaise0 x) := pds_imp (s_raise0 bx F hg hdb) fun _ _ _ h => h
def SR.calm (r : SR) : SR := match r with
  | .ex _ _ _ => .bad
  | r => r
@[simp] theorem SR.calm_rt {w : W} {O : List Ob} : (SR.rt w O).calm = .rt w O := rfl
@[simp] theorem SR.calm_nx {Γ : Gm} {O : List Ob} : (SR.nx Γ O).calm = .nx Γ O := rfl
def vTry (sub : List (Str × Bool)) (tb th : VS) : VS := fun Γ O => match tb Γ O with
  | .ex x Γ1 O1 => match sub.lookup (xName x) with
    | some true => (th Γ1 O1).calm
    | some false => .ex x Γ1 O1
    | none => .bad
  | r => r
variable {n : Str} {c : Value} {i : Nat} {sub : List (Str × Bool)} {body suite : List Stmt} {b₀ : Stmt} {np : Pos} {tb th : VS}
theorem w_try (bx : Bx X Wx) (hs : X.stack = X.env :: X.outer) (hf : X.env.frame = some X.env.locals) (hc : Names X x c) (so : SubOk X.K c sub)
    (hb : ∀ (W : WX) (pn : List (Addr × Obj)) (xe : Value → Shared → Prop), Bx (X.tr pn xe) W → PVSs (X.tr pn xe) W body tb)
    (hsu : ∀ (a : Addr) (oe : Obj) (pn : List (Addr × Obj)), PVSs (X.suite a ((a, oe) :: pn)) Wx0 (b₀ :: suite) th) :
    PVS X Wx (.Try body [.ExceptHandler (some (.Name x np)) none (b₀ :: suite) pos'] [] [] pos) (vTry sub tb th) := pds_imp (s_try bx hs hf hc so hb hsu) fun D Γ O h => by
  unfold oS vTry at h
  unfold dTry oS
  cases e : tb Γ O with
  | ex x Γ1 O1 =>
    rw [e] at h
    dsimp only [SR.run] at h ⊢
    cases hl : sub.lookup (xName x) with
    | none => rw [hl] at h; exact h.elim
    | some b =>
      rw [hl] at h
      cases b with
      | false => exact h
      | true =>
        dsimp only at h ⊢
        cases eh : th Γ1 O1 <;> (rw [eh] at h; exact h)
  | _ => rw [e] at h; exact h
def SR.unset (r : SR) (i : Nat) : SR := match r with
  | .nx Γ O => .nx (Γ.set i none) O
  | .bk Γ O => .bk (Γ.set i none) O
  | .ct Γ O => .ct (Γ.set i none) O
  | .rt w O => .rt w O
  | _ => .bad
open Classical in
noncomputable def vTryAs (sub : List (Str × Bool)) (i : Nat) (tb : VS) (th : Addr → Addr → VS) : VS := fun Γ O => match tb Γ O with
  | .ex x Γ1 O1 => match sub.lookup (xName x) with
    | some true => match x with
      | .fld _ fs => if ∀ a d, (th a d (Γ1.set i (some (.exc a d fs))) O1).unset i = (th 0 0 (Γ1.set i (some (.exc 0 0 fs))) O1).unset i then (th 0 0 (Γ1.set i (some (.exc 0 0 fs))) O1).unset i else .bad
      | .plain _ => .bad
    | some false => .ex x Γ1 O1
    | none => .bad
  | r => r
theorem w_try_as {th : Addr → Addr → VS} (bx : Bx X Wx) (hs : X.stack = X.env :: X.outer) (hf : X.env.frame = some X.env.locals) (hi : X.N[i]? = some n) (hln : X.env.kindOf n = some .local) (hc : Names X x c) (so : SubOk X.K c sub)
    (hb : ∀ (W : WX) (pn : List (Addr × Obj)) (xe : Value → Shared → Prop), Bx (X.tr pn xe) W → PVSs (X.tr pn xe) W body tb)
    (hsu : ∀ (a d C : Addr) (nm : Str) (oe : Obj) (pn : List (Addr × Obj)), sub.lookup nm = some true → ClsN X.K nm C → Zc (.ref C) (some d) oe → (∃ vs, oe.data = .fields vs) → PVSs (X.suite a ((a, oe) :: pn)) Wx0 (b₀ :: suite) (th a d)) :
    PVS X Wx (.Try body [.ExceptHandler (some (.Name x np)) (some n) (b₀ :: suite) pos'] [] [] pos) (vTryAs sub i tb th) := pds_imp (s_try_as (th := fun a d => oS (th a d)) bx hs hf hi hln hc so hb hsu) fun D Γ O h => by
  unfold oS vTryAs at h
  unfold dTryAs oS
  cases e : tb Γ O with
  | ex x Γ1 O1 =>
    rw [e] at h
    dsimp only [SR.run] at h ⊢
    cases hl : sub.lookup (xName x) with
    | none => rw [hl] at h; exact h.elim
    | some b =>
      rw [hl] at h
      cases b with
      | false => exact h
      | true =>
        dsimp only at h ⊢
        cases x with
        | plain z => exact h.elim
        | fld z fs =>
          dsimp only at h ⊢
          by_cases hall : ∀ a d, (th a d (Γ1.set i (some (.exc a d fs))) O1).unset i = (th 0 0 (Γ1.set i (some (.exc 0 0 fs))) O1).unset i
          · rw [if_pos hall] at h
            intro a d
            rw [← hall a d] at h
            cases eh : th a d (Γ1.set i (some (.exc a d fs))) O1 <;> (rw [eh] at h; exact h)
          · rw [if_neg hall] at h; exact h.elim
  | _ => rw [e] at h; exact h
/-- e.f, e the exception caught -/
def vXf (a d : Addr) (f : Str) (te : VE) : VE := fun Γ O => (te Γ O).bind fun w O1 => match w with
  | .exc a' d' fs => if a' = a ∧ d' = d then match fs.lookup f with
    | some y => .ok (.d y) O1
    | none => .bad else .bad
  | _ => .bad
theorem v_xf {P : Program} {w : World} {mg : Str → Option Value} {base : Heap} {a d C : Addr} {nm f : Str} {oe : Obj} {pn : List (Addr × Obj)} {te : VE} (F : ExD P w X.K mg base nm k fs) (hC : ClsN X.K nm C) (hm : f ∈ fs) (hz : Zc (.ref C) (some d) oe) (hf : ∃ vs, oe.data = .fields vs)
    (he : PVE (X.suite a ((a, oe) :: pn)) Wx e te) (hb : attributeBase e f X.env (eval e X.env) = eval e X.env := by rfl) : PVE (X.suite a ((a, oe) :: pn)) Wx (.Attribute e f pos) (vXf a d f te) := pde_imp (d_xf F hC hm hz hf he hb) fun Γ O Q E h => by
  unfold oE vXf at h
  rw [R.run_bind] at h
  refine R.run_imp h (fun w O1 h => ?_) fun _ _ h => h
  split at h
  · split at h
    · rename_i c
      split at h
      · rename_i y ey
        exact ⟨c.1, c.2, y, ey, h⟩
      · exact h.elim
    · exact h.elim
  · exact h.elim
end

/-! ### methods of lists -/
section
variable {X : Cx} {Wx : WX} {o e : Expr} {es : List Expr} {apos cpos : Pos}
abbrev UM := List W → List W → Option (W × List W)
/-- a method of a list that may be changed: what it gives, the list behind -/
def oM (f : List Ob → UM) : FM := fun k ws args O Q => ∃ y ws', f O ws args = some (y, ws') ∧ Q y (O.set k (.lst ws'))
def lstO (O : List Ob) : W → Option (Nat × List W)
  | .o k => match O[k]? with
    | some (.lst ws) => some (k, ws)
    | _ => none
  | _ => none
def vMt0 (f : List Ob → UM) (to : VE) : VE := fun Γ O => (to Γ O).bind fun w O1 => match lstO O1 w with
  | some (k, ws) => match f O1 ws [] with
    | some (y, ws') => .ok y (O1.set k (.lst ws'))
    | none => .bad
  | none => .bad
def vMt (f : List Ob → UM) (to : VE) (u : VA) : VE := fun Γ O => (to Γ O).bind fun w O1 => match lstO O1 w with
  | some _ => (u Γ O1).bind fun args O2 => match lstO O2 w with
    | some (k, ws) => match f O2 ws args with
      | some (y, ws') => .ok y (O2.set k (.lst ws'))
      | none => .bad
    | none => .bad
  | none => .bad
theorem lstO_inv {O : List Ob} {w : W} {k : Nat} {ws : List W} (h : lstO O w = some (k, ws)) : w = .o k ∧ O[k]? = some (.lst ws) := by
  unfold lstO at h
  split at h
  · split at h
    · rename_i e; cases h; exact ⟨rfl, e⟩
    · cases h
  · cases h
theorem mt0_imp {f : List Ob → UM} {to : VE} {Γ : Gm} {O : List Ob} {Q : DQ} {E : DX} (h : oE (vMt0 f to) Γ O Q E) : dMt0 (oM f) (oE to) Γ O Q E := by
  unfold oE vMt0 at h
  rw [R.run_bind] at h
  refine R.run_imp h (fun w O1 h => ?_) fun _ _ h => h
  split at h
  · rename_i k ws el
    obtain ⟨rfl, ek⟩ := lstO_inv el
    dsimp only
    rw [ek]
    split at h
    · rename_i y ws' ef
      exact ⟨y, ws', ef, h⟩
    · exact h.elim
  · exact h.elim
theorem mt_imp {f : List Ob → UM} {to : VE} {u : VA} {Γ : Gm} {O : List Ob} {Q : DQ} {E : DX} (h : oE (vMt f to u) Γ O Q E) : dMt (oM f) (oE to) (oA u) Γ O Q E := by
  unfold oE vMt at h
  rw [R.run_bind] at h
  refine R.run_imp h (fun w O1 h => ?_) fun _ _ h => h
  split at h
  · rename_i p el
    obtain ⟨rfl, ek⟩ := lstO_inv (k := p.1) (ws := p.2) el
    refine ⟨by unfold isLst; rw [ek]; trivial, ?_⟩
    rw [R.run_bind] at h
    refine R.run_imp h (fun args O2 h => ?_) fun _ _ h => h
    split at h
    · rename_i k ws el2
      obtain ⟨hk, ek2⟩ := lstO_inv el2
      cases hk
      rw [ek2]
      split at h
      · rename_i y ws' ef
        exact ⟨y, ws', ef, h⟩
      · exact h.elim
    · exact h.elim
  · exact h.elim
theorem dmt_imp {f f' : FM} {to : DE} {u : DA} {Γ : Gm} {O : List Ob} {Q : DQ} {E : DX} (h : dMt f' to u Γ O Q E) (i : ∀ k ws args O Q, f' k ws args O Q → f k ws args O Q) (hm : ∀ {Q1 Q2 : DQ}, (∀ w O, Q1 w O → Q2 w O) → to Γ O Q1 E → to Γ O Q2 E) (hu : ∀ {Γ : Gm} {O : List Ob} {Q1 Q2 : List W → List Ob → Prop}, (∀ w O, Q1 w O → Q2 w O) → u Γ O Q1 E → u Γ O Q2 E) : dMt f to u Γ O Q E := by
  refine hm (fun w O1 h => ?_) h
  split at h
  · refine ⟨h.1, hu (fun args O2 h => ?_) h.2⟩
    split at h
    · exact i _ _ _ _ _ h
    · exact h
  · exact h
theorem oE_mono {t : VE} {Γ : Gm} {O : List Ob} {E : DX} {Q1 Q2 : DQ} (i : ∀ w O, Q1 w O → Q2 w O) (h : oE t Γ O Q1 E) : oE t Γ O Q2 E := R.run_imp h i fun _ _ h => h
theorem oA_mono {t : VA} {Γ : Gm} {O : List Ob} {E : DX} {Q1 Q2 : List W → List Ob → Prop} (i : ∀ w O, Q1 w O → Q2 w O) (h : oA t Γ O Q1 E) : oA t Γ O Q2 E := R.run_imp h i fun _ _ h => h
def uAppend : List Ob → UM := fun _ ws args => match args with
  | [y] => if ws.length < sizeLine then some (.d .none, ws ++ [y]) else none
  | _ => none
def uPop : List Ob → UM := fun _ ws args => match args with
  | [] => match ws[ws.length - 1]? with
    | some y => some (y, ws.dropLast)
    | none => none
  | _ => none
def uExtend : List Ob → UM := fun O ws args => match args with
  | [y] => match lvS O y with
    | some zs => if ws.length + zs.length ≤ sizeLine then some (.d .none, ws ++ zs) else none
    | none => none
  | _ => none
theorem v_append {to : VE} {u : VE} (ho : PVE X Wx o to) (ha : PVE X Wx e u) (hbase : attributeBase o "append" X.env (eval o X.env) = eval o X.env := by rfl)
    (hfew : ((backTo cpos (starEach [e] X.env)).all (fun x => !x.1) && (backToKw cpos (keywordEach [] X.env)).all (fun x => x.1.isSome)
      && decide ([e].length + ([] : List Keyword).length + (if ([] : List Keyword).isEmpty then 0 else 1) < 30)) = true := by rfl)
    (hline : (apos.endLine == cpos.line) = true := by rfl) (hs : starEach [e] X.env = (false, eval e X.env) :: starEach [] X.env := by rfl) (hplain : (backTo cpos (starEach [] X.env)).any (·.1) = false := by rfl) : PVE X Wx (.Call (.Attribute o "append" apos) [e] [] cpos) (vMt uAppend to (vCons u vNil)) :=
  pde_imp (d_append ho (v_cons ha v_nil hs) hbase hfew hline hs hplain) fun Γ O Q E h => dmt_imp (mt_imp h) (fun k ws args O Q ⟨y, ws', e, q⟩ => by
    unfold uAppend at e
    split at e
    · split at e
      · rename_i hl
        cases e; exact ⟨hl, q⟩
      · cases e
    · cases e) (fun i h => oE_mono i h) fun i h => oA_mono i h
theorem v_extend {to : VE} {u : VE} (ho : PVE X Wx o to) (ha : PVE X Wx e u) (hbase : attributeBase o "extend" X.env (eval o X.env) = eval o X.env := by rfl)
    (hfew : ((backTo cpos (starEach [e] X.env)).all (fun x => !x.1) && (backToKw cpos (keywordEach [] X.env)).all (fun x => x.1.isSome)
      && decide ([e].length + ([] : List Keyword).length + (if ([] : List Keyword).isEmpty then 0 else 1) < 30)) = true := by rfl)
    (hline : (apos.endLine == cpos.line) = true := by rfl) (hs : starEach [e] X.env = (false, eval e X.env) :: starEach [] X.env := by rfl) (hplain : (backTo cpos (starEach [] X.env)).any (·.1) = false := by rfl) : PVE X Wx (.Call (.Attribute o "extend" apos) [e] [] cpos) (vMt uExtend to (vCons u vNil)) :=
  pde_imp (d_extend ho (v_cons ha v_nil hs) hbase hfew hline hs hplain) fun Γ O Q E h => dmt_imp (mt_imp h) (fun k ws args O Q ⟨y, ws', e, q⟩ => by
    unfold uExtend at e
    split at e
    · split at e
      · rename_i zs ez
        split at e
        · rename_i hl
          cases e; exact ⟨zs, ez, hl, q⟩
        · cases e
      · cases e
    · cases e) (fun i h => oE_mono i h) fun i h => oA_mono i h
theorem v_pop {to : VE} (ho : PVE X Wx o to) (hbase : attributeBase o "pop" X.env (eval o X.env) = eval o X.env := by rfl) (hline : (apos.endLine == cpos.line) = true := by rfl) : PVE X Wx (.Call (.Attribute o "pop" apos) [] [] cpos) (vMt0 uPop to) :=
  pde_imp (d_pop ho hbase hline) fun Γ O Q E h => by
    refine oE_mono (fun w O1 h => ?_) (mt0_imp h)
    split at h
    · split at h
      · obtain ⟨y, ws', e, q⟩ := h
        unfold uPop at e
        dsimp only at e
        split at e
        · rename_i z ez
          cases e; exact ⟨_, ez, q⟩
        · cases e
      · exact h
    · exact h
end
end UZ
/-! zip of n lists, by hand: zip(*rows), one name as the target. -/
namespace UZN
open PySem
open Sem (wp)
theorem ne_of {a b : Nat} (h : a < b ∨ b < a) : a ≠ b := by omega
/-- references to n things that lie one behind the other -/
def refsFrom : Nat → Nat → List Value
  | _, 0 => []
  | a, n + 1 => .ref a :: refsFrom (a + 1) n
theorem refsFrom_length : ∀ (n : Nat) (a : Nat), (refsFrom a n).length = n
  | 0, _ => rfl
  | n + 1, a => by rw [refsFrom, List.length_cons, refsFrom_length n]
abbrev IsZ (h : Heap) (z TI TO : Nat) (f0 : Value) (f1 : Bool) : Prop :=
  h.get? z = some { cls := .type "zip", dict := none, data := .fields #[f0, .bool f1, .bool false, .ref TI, .ref TO], slots := #[] }
abbrev IsT (h : Heap) (T : Nat) (vs : List Value) : Prop := h.get? T = some { cls := .type "tuple", data := .seq vs.toArray }
section
variable {prog : Program} {w : World} {A : Around} {E : Value → Shared → Prop} {s : Shared}
/-- the iterators from a on, over the lists L, stand at k -/
def Its (h : Heap) (a : Nat) (L : List (Nat × List Value)) (k : Nat) : Prop := ∀ m p, L[m]? = some p → h.IsListIter (a + m) p.1 k
def Lsts (h : Heap) (L : List (Nat × List Value)) : Prop := ∀ p ∈ L, h.IsList p.1 p.2.toArray
theorem Its.tail {h : Heap} {a : Nat} {p : Nat × List Value} {L : List (Nat × List Value)} {k : Nat} (i : Its h a (p :: L) k) : Its h (a + 1) L k := fun m q e => by
  have := i (m + 1) q (by simpa using e)
  rwa [show a + (m + 1) = a + 1 + m by omega] at this
theorem Its.head {h : Heap} {a : Nat} {p : Nat × List Value} {L : List (Nat × List Value)} {k : Nat} (i : Its h a (p :: L) k) : h.IsListIter a p.1 k := i 0 p rfl
theorem Its.at {h h' : Heap} {a : Nat} {L : List (Nat × List Value)} {k : Nat} (i : Its h a L k) (e : ∀ (c : Nat) o, a ≤ c → c < a + L.length → h.get? c = some o → h'.get? c = some o) : Its h' a L k := fun m p hm => by
  have hl := (List.getElem?_eq_some_iff.mp hm).1
  exact (i m p hm).at fun o q => e _ o (by omega) (by omega) q
theorem IsList.at {h h' : Heap} {a : Nat} {xs : Array Value} (l : h.IsList a xs) (e : ∀ o, h.get? a = some o → h'.get? a = some o) : h'.IsList a xs := by
  obtain ⟨o, h1, h2⟩ := l
  exact ⟨o, e o h1, h2⟩
/-- each iterator gives its k-th: collected as values -/
theorem loopH {M : Model} {σ : Type} {f : Value → σ → Sem (ForInStep σ)} {st : List Value → σ} {k : Nat}
    (step : ∀ (i l : Nat) (xs : List Value) (x : Value) (acc : List Value) (s : Shared) (Q : ForInStep σ → Shared → Prop), s.heap.IsListIter i l k → s.heap.IsList l xs.toArray → xs[k]? = some x →
      (∀ h', h'.IsListIter i l (k + 1) → Heap.SameBut i s.heap h' → Q (.yield (st (acc ++ [x]))) { s with heap := h' }) → wpAny M A (f (.ref i) (st acc)) Q E s) :
    ∀ (L : List (Nat × List Value)) (us : List Value) (a : Nat) (acc : List Value) (s : Shared) (Q : σ → Shared → Prop), Its s.heap a L k → Lsts s.heap L → (∀ p ∈ L, p.1 < a) → L.map (fun p => p.2[k]?) = us.map some →
      (∀ h', Its h' a L (k + 1) → (∀ (c : Nat) o, (c < a ∨ a + L.length ≤ c) → s.heap.get? c = some o → h'.get? c = some o) → h'.objs.size = s.heap.objs.size → Q (st (acc ++ us)) { s with heap := h' }) →
      wpAny M A (forIn (refsFrom a L.length) (st acc) f) Q E s
  | [], us, a, acc, s, Q, _, _, _, hu, q => by
    cases us with
    | cons u us => cases hu
    | nil =>
      show wpAny M A (forIn ([] : List Value) (st acc) f) Q E s
      rw [List.forIn_nil]
      have := q s.heap (fun m p e => by cases e) (fun _ _ _ e => e) rfl
      rw [List.append_nil] at this
      exact wpAny_pure this
  | p :: L, us, a, acc, s, Q, hi, hl, lt, hu, q => by
    cases us with
    | nil => cases hu
    | cons u us =>
      rw [List.map_cons, List.map_cons, List.cons.injEq] at hu
      show wpAny M A (forIn (Value.ref a :: refsFrom (a + 1) L.length) (st acc) f) Q E s
      rw [List.forIn_cons]
      refine wpAny_bind (step a p.1 p.2 u acc s _ hi.head (hl p (List.mem_cons_self ..)) hu.1 fun h' hi' hs' => ?_)
      have ltp := lt p (List.mem_cons_self ..)
      refine loopH step L us (a + 1) (acc ++ [u]) { s with heap := h' } Q (hi.tail.at fun c o h1 h2 e => (hs'.2 c (ne_of (by omega))).trans e) (fun q hq => ?_) (fun q hq => ?_) hu.2 fun h2 hi2 k2 sz2 => ?_
      · have := lt q (List.mem_cons_of_mem _ hq)
        exact IsList.at (hl q (List.mem_cons_of_mem _ hq)) fun o e => (hs'.2 _ (ne_of (by omega))).trans e
      · have := lt q (List.mem_cons_of_mem _ hq)
        omega
      · rw [List.append_assoc]
        refine q h2 (fun m r e => ?_) (fun c o hc e => ?_) (sz2.trans hs'.1)
        · cases m with
          | zero =>
            cases e
            exact hi'.at fun o e => k2 _ o (.inl (by omega)) e
          | succ m =>
            have := hi2 m r (by simpa using e)
            rwa [show a + (m + 1) = a + 1 + m by omega]
        · have hc' : c ≠ a := by (rw [List.length_cons] at hc; rcases hc with h | h <;> exact ne_of (by omega))
          refine k2 c o ?_ ((hs'.2 c hc').trans e)
          rcases hc with h | h
          · exact .inl (by omega)
          · exact .inr (by rw [List.length_cons] at h; omega)
/-- the same, laid one by one into the tuple at TO -/
theorem loopO {M : Model} {σ : Type} {f : Value × Nat → σ → Sem (ForInStep σ)} {st : σ} {k : Nat} {TO : Nat}
    (step : ∀ (i l : Nat) (xs : List Value) (x old : Value) (done rest : List Value) (s : Shared) (Q : ForInStep σ → Shared → Prop), i ≠ TO → l ≠ TO → l ≠ i → s.heap.IsListIter i l k → s.heap.IsList l xs.toArray → xs[k]? = some x → (done ++ old :: rest).length ≤ 1000 → IsT s.heap TO (done ++ old :: rest) →
      (∀ h', h'.IsListIter i l (k + 1) → IsT h' TO (done ++ x :: rest) → (∀ c : Nat, c ≠ i → c ≠ TO → h'.get? c = s.heap.get? c) → h'.objs.size = s.heap.objs.size → Q (.yield st) { s with heap := h' }) → wpAny M A (f (.ref i, done.length) st) Q E s) :
    ∀ (L : List (Nat × List Value)) (us : List Value) (a : Nat) (done olds : List Value) (s : Shared) (Q : σ → Shared → Prop), Its s.heap a L k → Lsts s.heap L → (∀ p ∈ L, p.1 < a) → a + L.length ≤ TO → L.map (fun p => p.2[k]?) = us.map some → olds.length = L.length → (done ++ olds).length ≤ 1000 → IsT s.heap TO (done ++ olds) →
      (∀ h', Its h' a L (k + 1) → IsT h' TO (done ++ us) → (∀ (c : Nat) o, (c < a ∨ a + L.length ≤ c) → c ≠ TO → s.heap.get? c = some o → h'.get? c = some o) → h'.objs.size = s.heap.objs.size → Q st { s with heap := h' }) →
      wpAny M A (forIn ((refsFrom a L.length).zipIdx done.length) st f) Q E s
  | [], us, a, done, olds, s, Q, _, _, _, _, hu, hol, hb, hT, q => by
    cases us with
    | cons u us => cases hu
    | nil =>
      cases olds with
      | cons u us => cases hol
      | nil =>
        show wpAny M A (forIn (([] : List Value).zipIdx done.length) st f) Q E s
        rw [List.zipIdx_nil, List.forIn_nil]
        exact wpAny_pure (q s.heap (fun m p e => by cases e) hT (fun _ _ _ _ e => e) rfl)
  | p :: L, us, a, done, olds, s, Q, hi, hl, lt, hTO, hu, hol, hb, hT, q => by
    cases us with
    | nil => cases hu
    | cons u us =>
      cases olds with
      | nil => cases hol
      | cons old olds =>
        rw [List.map_cons, List.map_cons, List.cons.injEq] at hu
        rw [List.length_cons] at hTO
        show wpAny M A (forIn ((Value.ref a :: refsFrom (a + 1) L.length).zipIdx done.length) st f) Q E s
        rw [List.zipIdx_cons, List.forIn_cons]
        have ltp := lt p (List.mem_cons_self ..)
        refine wpAny_bind (step a p.1 p.2 u old done olds s _ (by omega) (by omega) (by omega) hi.head (hl p (List.mem_cons_self ..)) hu.1 hb hT fun h' hi' hT' hs' sz' => ?_)
        have ih := loopO step L us (a + 1) (done ++ [u]) olds { s with heap := h' } Q (hi.tail.at fun c o h1 h2 e => (hs' c (by omega) (by omega)).trans e) (fun q hq => ?_) (fun q hq => ?_) (by omega) hu.2 (by simpa using hol) (by rw [List.append_assoc]; simp only [List.length_append, List.length_cons, List.length_nil] at hb ⊢; omega) (by rw [List.append_assoc]; exact hT') fun h2 hi2 hT2 k2 sz2 => ?_
        · rw [List.length_append, List.length_singleton] at ih
          exact ih
        · have := lt q (List.mem_cons_of_mem _ hq)
          exact IsList.at (hl q (List.mem_cons_of_mem _ hq)) fun o e => (hs' _ (by omega) (by omega)).trans e
        · have := lt q (List.mem_cons_of_mem _ hq)
          omega
        · refine q h2 (fun m r e => ?_) (by rw [List.append_assoc] at hT2; exact hT2) (fun c o hc hcT e => ?_) (sz2.trans sz')
          · cases m with
            | zero =>
              cases e
              exact hi'.at fun o e => k2 _ o (.inl (by omega)) (by omega) e
            | succ m =>
              have := hi2 m r (by simpa using e)
              rwa [show a + (m + 1) = a + 1 + m by omega]
          · have hc' : c ≠ a := by (rw [List.length_cons] at hc; rcases hc with h | h <;> exact ne_of (by omega))
            refine k2 c o ?_ hcT ((hs' c hc' hcT).trans e)
            rcases hc with h | h
            · exact .inl (by omega)
            · exact .inr (by rw [List.length_cons] at h; omega)

theorem alive_none {a : Addr} {Q : Option Obj → Shared → Prop} (ho : s.heap.get? a = none) (h : Q none s) : wpAny (model prog w) A (loadIfAlive a) Q E s := by
  have h' : Q (s.heap.get? a) s := by rw [ho]; exact h
  exact fun _ _ _ => h'
/-- may the tuple be used again: told either way -/
theorem isFree {z TI TO : Nat} {f0 : Value} {f1 : Bool} {Q : Bool → Shared → Prop} (hz : IsZ s.heap z TI TO f0 f1) (hf : f0 = .none ∨ ∃ T : Nat, f0 = rawInt T) (h1 : Q true s)
    (h2 : ∀ h', IsZ h' z TI TO f0 true → Heap.SameBut z s.heap h' → Q false { s with heap := h' }) : wpAny (model prog w) A (Builtin.SmallTypes.ownedTupleIsFree (.ref z)) Q E s := by
  rcases hf with rfl | ⟨T, rfl⟩
  · unfold Builtin.SmallTypes.ownedTupleIsFree
    exact wpAny_bind (wpAny_field hz rfl (x := .none) rfl (wpAny_pure h1))
  · cases hT : s.heap.get? T with
    | some oT => exact wpAny_tupleHeld_zip (f := f1) hz hT h2
    | none =>
      unfold Builtin.SmallTypes.ownedTupleIsFree
      refine wpAny_bind (wpAny_field hz rfl (x := rawInt T) rfl ?_)
      show wpAny _ _ (loadIfAlive ((T : Int).toNat) >>= _) _ _ _
      rw [Int.toNat_natCast]
      refine wpAny_bind (alive_none hT ?_)
      simp only [Option.isNone_none, if_true]
      exact wpAny_pure h1
theorem updT {T : Nat} {done rest : List Value} {old x : Value} {Q : Unit → Shared → Prop} (hT : IsT s.heap T (done ++ old :: rest)) (hb : (done ++ old :: rest).length ≤ 1000)
    (h : ∀ h', IsT h' T (done ++ x :: rest) → Heap.SameBut T s.heap h' → Q () { s with heap := h' }) : wpAny (model prog w) A (updateSeq T (·.setIfInBounds done.length x)) Q E s := by
  have l1 : (done ++ old :: rest).toArray.size ≤ sizeLine := by rw [List.size_toArray]; exact Nat.le_trans hb (by decide)
  refine wpAny_updateSeq hT rfl (h _ ?_ (Heap.SameBut.update ..)) l1 (by rw [Array.size_setIfInBounds]; exact Nat.le_succ_of_le l1)
  show (s.heap.update T _).get? T = _
  rw [Heap.get?_update_self _ hT rfl]
  simp [Obj.mapSeq]
/-- a zip over n lists, its iterators from b on, at turn k -/
structure ZN (h : Heap) (b : Nat) (L : List (Nat × List Value)) (k : Nat) : Prop where
  z : ∃ f0 f1, (f0 = .none ∨ ∃ T : Nat, f0 = rawInt T) ∧ IsZ h (b + L.length + 2) (b + L.length) (b + L.length + 1) f0 f1
  ti : IsT h (b + L.length) (refsFrom b L.length)
  to : ∃ os : List Value, os.length = L.length ∧ IsT h (b + L.length + 1) os
  its : Its h b L k
theorem zipN_next {b k : Nat} {L : List (Nat × List Value)} {us : List Value} {Q : Value → Shared → Prop} (hL : L ≠ []) (st : ZN s.heap b L k) (hl : Lsts s.heap L) (lt : ∀ p ∈ L, p.1 < b) (hu : L.map (fun p => p.2[k]?) = us.map some) (hsz : L.length ≤ 1000)
    (hQ : ∀ h', ZN h' b L (k + 1) → IsT h' s.heap.objs.size us → h'.objs.size = s.heap.objs.size + 1 → (∀ c o, (c < b ∨ b + L.length + 3 ≤ c) → s.heap.get? c = some o → h'.get? c = some o) → Q (.ref s.heap.objs.size) { s with heap := h' }) :
    wpAny (model prog w) A (Builtin.«zip.__next__» ⟨[.ref (b + L.length + 2)], []⟩) (fun fin s' => ∃ v, fin = .done (.ret v) ∧ Q v s') E s := by
  obtain ⟨⟨f0, f1, hf, hz⟩, hTI, ⟨os, hos, hTO⟩, hi⟩ := st
  obtain ⟨p0, L0, rfl⟩ : ∃ p0 L0, L = p0 :: L0 := by
    cases L with
    | nil => exact (hL rfl).elim
    | cons p0 L0 => exact ⟨p0, L0, rfl⟩
  generalize hn : (p0 :: L0).length = n at *
  show wpAny _ _ (field (.ref (b + n + 2)) 2 >>= _) _ _ _
  refine wpAny_bind (wpAny_field hz rfl (x := .bool false) rfl ?_)
  show wpAny _ _ (field (.ref (b + n + 2)) 3 >>= _) _ _ _
  refine wpAny_bind (wpAny_field hz rfl (x := .ref (b + n)) rfl ?_)
  refine wpAny_bind (wpAny_seqItems hTI rfl ?_)
  have ne : (refsFrom b n).toArray.isEmpty = false := by
    rw [← hn]; rfl
  simp only [ne, Bool.false_eq_true, if_false]
  refine wpAny_bind (isFree hz hf ?_ fun h₁ hz₁ hs₁ => ?_)
  · simp only [if_true]
    refine wpAny_bind (wpAny_rule ?_)
    refine wpAny_bind (wpAny_field hz rfl (x := .ref (b + n + 1)) rfl ?_)
    refine wpAny_bind (wpAny_setField_rec hz (by simp) fun h₁ hz₁ hs₁ => ?_)
    replace hz₁ : IsZ h₁ (b + n + 2) (b + n) (b + n + 1) .ellipsis f1 := hz₁
    refine wpAny_bind ?_
    have k1 : ∀ c o, c ≠ b + n + 2 → s.heap.get? c = some o → h₁.get? c = some o := fun c o h e => (hs₁.2 c h).trans e
    have hlen : us.length = n := by
      have := congrArg List.length hu
      rw [List.length_map, List.length_map] at this
      rw [← hn, this]
    have lp := loopO (M := model prog w) (A := A) (E := E) (k := k) (TO := b + n + 1) (st := ((none, ()) : Option Fin × Unit)) (f := ?f1) ?step1 (p0 :: L0) us b [] os { s with heap := h₁ } ?Q1 (hi.at fun c o h1 h2 e => k1 c o (ne_of (by omega)) e) (fun p hp => IsList.at (hl p hp) fun o e => k1 _ o (by have := lt p hp; exact ne_of (by omega)) e) lt (by omega) hu (by rw [hn]; exact hos) (by rw [List.nil_append, hos]; exact hsz) (k1 _ _ (ne_of (by omega)) hTO) ?q1
    · rw [hn] at lp
      exact lp
    · intro i l xs x old done rest s Q n1 n2 n3 hi hl hx hb hT q
      refine wpAny_bind (wpAny_onRaise ?_)
      show wpAny _ _ (Builtin.SmallTypes.nextOf (.ref i) >>= _) _ _ _
      refine wpAny_bind (wpAny_nextOf_list_item hi hl (by simpa using hx) fun h₂ h1₂ hs₂ => wpAny_pure ?_)
      have hT₂ : IsT h₂ (b + n + 1) (done ++ old :: rest) := (hs₂.2 _ (Ne.symm n1)).trans hT
      refine wpAny_bind (wpAny_seqItems hT₂ rfl ?_)
      refine wpAny_bind (updT (s := { s with heap := h₂ }) hT₂ hb fun h₃ hT₃ hs₃ => ?_)
      refine wpAny_bind (wpAny_letGo (wpAny_pure ?_))
      exact q h₃ (h1₂.at fun o e => (hs₃.2 _ n1).trans e) hT₃ (fun c c1 c2 => (hs₃.2 c c2).trans (hs₂.2 c c1)) (hs₃.1.trans hs₂.1)
    · intro h₂ hi₂ hT₂ k₂ sz₂
      rw [List.nil_append] at hT₂
      have hul : us.length ≤ sizeLine := by rw [hlen]; exact Nat.le_trans hsz (by decide)
      refine wpAny_bind (wpAny_seqItems hT₂ rfl ?_)
      refine wpAny_bind (wpAny_newTuple ?_ hul)
      have es : h₂.objs.size = s.heap.objs.size := sz₂.trans hs₁.1
      have k3 : ∀ c o, (c < b ∨ b + n ≤ c) → c ≠ b + n + 1 → c ≠ b + n + 2 → s.heap.get? c = some o → h₂.get? c = some o := fun c o h1 h2 h3 e => k₂ c o (by rw [hn]; exact h1) h2 (k1 c o h3 e)
      have hz₂ : IsZ h₂ (b + n + 2) (b + n) (b + n + 1) .ellipsis f1 := k₂ _ _ (.inr (by rw [hn]; omega)) (ne_of (by omega)) hz₁
      have hzlt : b + n + 2 < h₂.objs.size := Heap.lt_size hz₂
      show wpAny _ _ (Builtin.SmallTypes.ownedTupleHandOut (.ref (b + n + 2)) (.ref h₂.objs.size) >>= _) _ _ _
      refine wpAny_bind ?_
      unfold Builtin.SmallTypes.ownedTupleHandOut
      have hz₆ : IsZ (h₂.push { cls := .type "tuple", data := .seq us.toArray }) (b + n + 2) (b + n) (b + n + 1) .ellipsis f1 := Heap.get?_push_of_some _ hz₂
      refine wpAny_bind (wpAny_setField_rec hz₆ (by simp) fun h₇ hz₇ hs₇ => ?_)
      replace hz₇ : IsZ h₇ (b + n + 2) (b + n) (b + n + 1) (rawInt h₂.objs.size) f1 := hz₇
      refine wpAny_setField_rec hz₇ (by simp) fun h₈ hz₈ hs₈ => ?_
      replace hz₈ : IsZ h₈ (b + n + 2) (b + n) (b + n + 1) (rawInt h₂.objs.size) false := hz₈
      have up : ∀ c o, c ≠ b + n + 2 → h₂.get? c = some o → h₈.get? c = some o := fun c o c1 e => (hs₈.2 c c1).trans ((hs₇.2 c c1).trans (Heap.get?_push_of_some _ e))
      have hT₈ : IsT h₈ h₂.objs.size us := (hs₈.2 _ (Nat.ne_of_gt hzlt)).trans ((hs₇.2 _ (Nat.ne_of_gt hzlt)).trans (Heap.get?_push_size _ rfl))
      have hz8 : h₈.objs.size = h₂.objs.size + 1 := by rw [hs₈.1, hs₇.1, Heap.size_push]
      refine wpAny_pure ⟨_, rfl, ?_⟩
      show Q (.ref h₂.objs.size) _
      rw [es] at hT₈ hz8 ⊢
      refine hQ h₈ ⟨⟨rawInt h₂.objs.size, false, .inr ⟨_, rfl⟩, ?_⟩, ?_, ⟨us, by rw [hn, hlen], ?_⟩, hi₂.at fun c o h1 h2 e => up c o (by rw [hn] at h2; exact ne_of (by omega)) e⟩ hT₈ hz8 fun c o hc e => up c o (ne_of (by omega)) (k3 c o (by omega) (ne_of (by omega)) (ne_of (by omega)) e)
      · rw [hn]; exact hz₈
      · rw [hn]; exact up _ _ (ne_of (by omega)) (k3 _ _ (.inr (by omega)) (ne_of (by omega)) (ne_of (by omega)) hTI)
      · rw [hn]; exact up _ _ (ne_of (by omega)) hT₂
  · simp only [Bool.false_eq_true, if_false]
    refine wpAny_bind ?_
    rw [← Array.forIn_toList]
    have k1 : ∀ c o, c ≠ b + n + 2 → s.heap.get? c = some o → h₁.get? c = some o := fun c o h e => (hs₁.2 c h).trans e
    have hlen : us.length = n := by
      have := congrArg List.length hu
      rw [List.length_map, List.length_map] at this
      rw [← hn, this]
    have lp := loopH (M := model prog w) (A := A) (E := E) (k := k) (st := fun acc : List Value => ((none, acc.toArray) : Option Fin × Array Value)) (f := ?f) ?step (p0 :: L0) us b [] { s with heap := h₁ } ?Q (hi.at fun c o h1 h2 e => k1 c o (ne_of (by omega)) e) (fun p hp => IsList.at (hl p hp) fun o e => k1 _ o (by have := lt p hp; exact ne_of (by omega)) e) lt hu ?q
    · rw [hn] at lp
      exact lp
    · intro i l xs x acc s Q hi hl hx q
      refine wpAny_bind (wpAny_holding ?_)
      show wpAny _ _ (Builtin.SmallTypes.nextOf (.ref i) >>= _) _ _ _
      refine wpAny_bind (wpAny_nextOf_list_item hi hl (by simpa using hx) fun h₂ h1₂ hs₂ => wpAny_pure ?_)
      refine wpAny_pure ?_
      have := q h₂ h1₂ hs₂
      rw [List.push_toArray]
      exact this
    · intro h₂ hi₂ k₂ sz₂
      rw [List.nil_append]
      have hul : us.length ≤ sizeLine := by rw [hlen]; exact Nat.le_trans hsz (by decide)
      show wpAny _ _ (newTuple us >>= fun r => ret r) _ _ _
      refine wpAny_bind (wpAny_newTuple ?_ hul)
      refine wpAny_pure ⟨_, rfl, ?_⟩
      have es : h₂.objs.size = s.heap.objs.size := sz₂.trans hs₁.1
      have k3 : ∀ c o, (c < b ∨ b + n ≤ c) → c ≠ b + n + 2 → s.heap.get? c = some o → h₂.get? c = some o := fun c o h1 h2 e => k₂ c o (by rw [hn]; exact h1) (k1 c o h2 e)
      have up : ∀ c o, h₂.get? c = some o → (h₂.push { cls := .type "tuple", data := .seq us.toArray }).get? c = some o := fun c o e => Heap.get?_push_of_some _ e
      show Q (.ref h₂.objs.size) _
      rw [es]
      refine hQ (h₂.push { cls := .type "tuple", data := .seq us.toArray }) ⟨⟨f0, true, hf, ?_⟩, ?_, ⟨os, by rw [hn]; exact hos, ?_⟩, hi₂.at fun c o _ _ e => up c o e⟩ ?_ ?_ fun c o hc e => up c o (k3 c o (by omega) (ne_of (by omega)) e)
      · rw [hn]; exact up _ _ (k₂ _ _ (.inr (by rw [hn]; omega)) hz₁)
      · rw [hn]; exact up _ _ (k3 _ _ (.inr (by omega)) (ne_of (by omega)) hTI)
      · rw [hn]; exact up _ _ (k3 _ _ (.inr (by omega)) (ne_of (by omega)) hTO)
      · have : IsT (h₂.push { cls := .type "tuple", data := .seq us.toArray }) h₂.objs.size us := Heap.get?_push_size _ rfl
        rwa [es] at this
      · rw [Heap.size_push, es]

theorem zipN_end {b k : Nat} {L : List (Nat × List Value)} {p0 : Nat × List Value} {L0 : List (Nat × List Value)} {Q : PySem.Fin → Shared → Prop} (hh : A.handled = none) (hL : L = p0 :: L0) (st : ZN s.heap b L k) (hl : Lsts s.heap L) (lt : ∀ p ∈ L, p.1 < b) (hend : p0.2[k]? = none)
    (hE : ∀ h' e, (∀ c o, (c < b ∨ b + L.length + 3 ≤ c) → s.heap.get? c = some o → h'.get? c = some o) → (∃ o, h'.get? e = some o ∧ o.cls = .type "StopIteration") → E (.ref e) { s with heap := h' }) :
    wpAny (model prog w) A (Builtin.«zip.__next__» ⟨[.ref (b + L.length + 2)], []⟩) Q E s := by
  obtain ⟨⟨f0, f1, hf, hz⟩, hTI, ⟨os, hos, hTO⟩, hi⟩ := st
  subst hL
  have hn : (p0 :: L0).length = L0.length + 1 := rfl
  rw [hn] at hz hTI hTO hE ⊢
  have ltp := lt p0 (List.mem_cons_self ..)
  show wpAny _ _ (field (.ref (b + (L0.length + 1) + 2)) 2 >>= _) _ _ _
  refine wpAny_bind (wpAny_field hz rfl (x := .bool false) rfl ?_)
  show wpAny _ _ (field (.ref (b + (L0.length + 1) + 2)) 3 >>= _) _ _ _
  refine wpAny_bind (wpAny_field hz rfl (x := .ref (b + (L0.length + 1))) rfl ?_)
  refine wpAny_bind (wpAny_seqItems hTI rfl ?_)
  have ne : (refsFrom b (L0.length + 1)).toArray.isEmpty = false := rfl
  simp only [ne, Bool.false_eq_true, if_false]
  have hx : p0.2.toArray[k]? = none := by simpa using hend
  refine wpAny_bind (isFree hz hf ?_ fun h₁ hz₁ hs₁ => ?_)
  · simp only [if_true]
    refine wpAny_bind (wpAny_rule ?_)
    refine wpAny_bind (wpAny_field hz rfl (x := .ref (b + (L0.length + 1) + 1)) rfl ?_)
    refine wpAny_bind (wpAny_setField_rec hz (by simp) fun h₁ hz₁ hs₁ => ?_)
    replace hz₁ : IsZ h₁ (b + (L0.length + 1) + 2) (b + (L0.length + 1)) (b + (L0.length + 1) + 1) .ellipsis f1 := hz₁
    refine wpAny_bind ?_
    show wpAny _ _ (forIn ((Value.ref b :: refsFrom (b + 1) L0.length).zipIdx) _ _) _ _ _
    rw [List.zipIdx_cons, List.forIn_cons]
    refine wpAny_bind (wpAny_bind (wpAny_onRaise ?_))
    show wpAny _ _ (Builtin.SmallTypes.nextOf (.ref b) >>= _) _ _ _
    refine wpAny_bind (wpAny_nextOf_list_end hh (hi.head.at fun o e => (hs₁.2 _ (ne_of (by omega))).trans e) (IsList.at (hl p0 (List.mem_cons_self ..)) fun o e => (hs₁.2 _ (ne_of (by omega))).trans e) hx fun h₂ e hs₂ he => ?_)
    obtain ⟨oe, hoe, hce⟩ := he
    have hz₂ : IsZ h₂ (b + (L0.length + 1) + 2) (b + (L0.length + 1)) (b + (L0.length + 1) + 1) .ellipsis f1 := hs₂ _ _ (ne_of (by omega)) hz₁
    have hez : e ≠ b + (L0.length + 1) + 2 := fun x => by subst x; rw [hz₂] at hoe; cases hoe; simp at hce
    exact wpAny_setField_rec hz₂ (by simp) fun h₃ _ hs₃ => hE h₃ e (fun c o hc x => (hs₃.2 c (ne_of (by omega))).trans (hs₂ _ _ (ne_of (by omega)) ((hs₁.2 c (ne_of (by omega))).trans x))) ⟨oe, (hs₃.2 _ hez).trans hoe, hce⟩
  · simp only [Bool.false_eq_true, if_false]
    refine wpAny_bind ?_
    rw [← Array.forIn_toList]
    show wpAny _ _ (forIn (Value.ref b :: refsFrom (b + 1) L0.length) _ _) _ _ _
    rw [List.forIn_cons]
    refine wpAny_bind (wpAny_bind (wpAny_holding ?_))
    show wpAny _ _ (Builtin.SmallTypes.nextOf (.ref b) >>= _) _ _ _
    refine wpAny_bind (wpAny_nextOf_list_end (s := { s with heap := h₁ }) hh (hi.head.at fun o e => (hs₁.2 _ (ne_of (by omega))).trans e) (IsList.at (hl p0 (List.mem_cons_self ..)) fun o e => (hs₁.2 _ (ne_of (by omega))).trans e) hx fun h₂ e hs₂ he => ?_)
    exact hE h₂ e (fun c o hc x => hs₂ _ _ (ne_of (by omega)) ((hs₁.2 c (ne_of (by omega))).trans x)) he
theorem pyNext_zipN {b k : Nat} {L : List (Nat × List Value)} {us : List Value} {Q : Option Value → Shared → Prop} (hL : L ≠ []) (st : ZN s.heap b L k) (hl : Lsts s.heap L) (lt : ∀ p ∈ L, p.1 < b) (hu : L.map (fun p => p.2[k]?) = us.map some) (hsz : L.length ≤ 1000)
    (hQ : ∀ h', ZN h' b L (k + 1) → IsT h' s.heap.objs.size us → h'.objs.size = s.heap.objs.size + 1 → (∀ c o, (c < b ∨ b + L.length + 3 ≤ c) → s.heap.get? c = some o → h'.get? c = some o) → Q (some (.ref s.heap.objs.size)) { s with heap := h' }) :
    wpAny (model prog w) A (pyNext (.ref (b + L.length + 2))) Q E s := by
  obtain ⟨f0, f1, _, hz⟩ := st.z
  have hTy : s.TypeIs (.ref (b + L.length + 2)) "zip" := ⟨_, hz, rfl⟩
  unfold pyNext
  exact wpAny_bind (wpAny_attempt (wpAny_callSpecial?_slot (name := Str.ofString "__next__") hTy F.slot_zip_next
    (wpAny_call_entry F.slot_zip_next hTy F.entry_zip_next
      (zipN_next hL st hl lt hu hsz fun h' a1 a2 a3 a4 => wpAny_pure (hQ h' a1 a2 a3 a4)) (F.args_zip_next_1 _))))
theorem pyNext_zipN_end {b k : Nat} {L : List (Nat × List Value)} {p0 : Nat × List Value} {L0 : List (Nat × List Value)} {Q : Option Value → Shared → Prop} (hh : A.handled = none) (hL : L = p0 :: L0) (st : ZN s.heap b L k) (hl : Lsts s.heap L) (lt : ∀ p ∈ L, p.1 < b) (hend : p0.2[k]? = none)
    (hQ : ∀ h', (∀ c o, (c < b ∨ b + L.length + 3 ≤ c) → s.heap.get? c = some o → h'.get? c = some o) → Q none { s with heap := h' }) : wpAny (model prog w) A (pyNext (.ref (b + L.length + 2))) Q E s := by
  obtain ⟨f0, f1, _, hz⟩ := st.z
  have hTy : s.TypeIs (.ref (b + L.length + 2)) "zip" := ⟨_, hz, rfl⟩
  unfold pyNext
  refine wpAny_bind (wpAny_attempt (wpAny_callSpecial?_slot (name := Str.ofString "__next__") hTy F.slot_zip_next
    (wpAny_call_entry F.slot_zip_next hTy F.entry_zip_next (zipN_end hh hL st hl lt hend fun h' e hk he => ?_) (F.args_zip_next_1 _))))
  obtain ⟨o, ho, hc⟩ := he
  refine wpAny_bind (wpAny_isInstance (T := "StopIteration") (b := true) ⟨o, ho, hc⟩ isSubtype_stop ?_)
  exact wpAny_pure (hQ _ hk)
end
/-! ### the zip is made -/
theorem typeCall_zip_n (us : List Value) : checkTypeCall "zip" ⟨us, []⟩ = pure () := by kernel_rfl
theorem newCall_zip_n : ∀ us : List Value, checkBuiltinCall "zip.__new__" ⟨.type "zip" :: us, []⟩ = pure ()
  | [] => by kernel_rfl
  | [u] => by kernel_rfl
  | u :: v :: us => by kernel_rfl
theorem args_object_init_n (a : Value) (us : List Value) : argsOk "object.__init__" ⟨a :: us, []⟩ := by
  unfold argsOk; rw [signature?_of (id := "object.__init__") (n := ['_', '_', 't', 'i', 'n', 'i', '_', '_']) (o := ['t', 'c', 'e', 'j', 'b', 'o']) (by kernel_rfl) F.owner_object]; kernel_rfl
/-- iterators over the lists at ls are laid -/
def itH : Heap → List Nat → Heap
  | h, [] => h
  | h, l :: ls => itH (h.push { cls := .type "list_iterator", data := .fields #[.ref l, .int 0 0] }) ls
theorem itH_size : ∀ (ls : List Nat) (h : Heap), (itH h ls).objs.size = h.objs.size + ls.length
  | [], h => rfl
  | l :: ls, h => by
    rw [itH, itH_size ls, Heap.size_push, List.length_cons]; omega
theorem itH_keep : ∀ (ls : List Nat) (h : Heap) (c : Addr) (o : Obj), h.get? c = some o → (itH h ls).get? c = some o
  | [], h, c, o, e => e
  | l :: ls, h, c, o, e => itH_keep ls _ c o (Heap.get?_push_of_some _ e)
theorem itH_its : ∀ (L : List (Nat × List Value)) (h : Heap), Its (itH h (L.map (·.1))) h.objs.size L 0
  | [], h => fun m p e => by cases e
  | q :: L, h => fun m p e => by
    cases m with
    | zero =>
      cases e
      have : (h.push { cls := .type "list_iterator", data := .fields #[.ref q.1, .int 0 0] }).get? h.objs.size = some { cls := .type "list_iterator", data := .fields #[.ref q.1, .int 0 0] } := Heap.get?_push_size _ rfl
      have k := itH_keep (L.map (·.1)) (h.push { cls := .type "list_iterator", data := .fields #[.ref q.1, .int 0 0] }) h.objs.size _ this
      exact ⟨{ cls := .type "list_iterator", data := .fields #[.ref q.1, .int 0 0] }, k, rfl, rfl⟩
    | succ m =>
      have := itH_its L (h.push { cls := .type "list_iterator", data := .fields #[.ref q.1, .int 0 0] }) m p (by simpa using e)
      rw [Heap.size_push] at this
      rwa [show h.objs.size + (m + 1) = h.objs.size + 1 + m by omega]
section
variable {prog : Program} {w : World} {A : Around} {E : Value → Shared → Prop} {s : Shared}
theorem iterAll_n : ∀ (L : List (Nat × List Value)) (s : Shared) (acc : List Value) (Q : Array Value → Shared → Prop), Lsts s.heap L → Q (acc ++ refsFrom s.heap.objs.size L.length).toArray { s with heap := itH s.heap (L.map (·.1)) } →
    wpAny (model prog w) A (forIn (L.map fun p => Value.ref p.1) acc.toArray fun x its => do
      let r ← holding its.toList (pyIter x)
      pure (ForInStep.yield (its.push r))) Q E s
  | [], s, acc, Q, hl, q => by
    rw [List.map_nil, List.forIn_nil]
    have q : Q (acc ++ []).toArray s := q
    rw [List.append_nil] at q
    exact wpAny_pure q
  | p :: L, s, acc, Q, hl, q => by
    rw [List.map_cons, List.forIn_cons]
    refine wpAny_bind (wpAny_bind (wpAny_holding ?_))
    refine wpAny_pyIter_list (hl p (List.mem_cons_self ..)) ?_
    refine wpAny_pure ?_
    rw [List.push_toArray]
    refine iterAll_n L { s with heap := s.heap.push { cls := .type "list_iterator", data := .fields #[.ref p.1, .int 0 0] } } (acc ++ [.ref s.heap.objs.size]) Q (fun q hq => IsList.at (hl q (List.mem_cons_of_mem _ hq)) fun o e => Heap.get?_push_of_some _ e) ?_
    show Q ((acc ++ [Value.ref s.heap.objs.size]) ++ refsFrom (s.heap.push { cls := .type "list_iterator", data := .fields #[.ref p.1, .int 0 0] }).objs.size L.length).toArray _
    rw [Heap.size_push, List.append_assoc]
    exact q
theorem iterAll_L {L : List (Nat × List Value)} {Q : List Value → Shared → Prop} (hl : Lsts s.heap L) (q : Q (refsFrom s.heap.objs.size L.length) { s with heap := itH s.heap (L.map (·.1)) }) :
    wpAny (model prog w) A (Builtin.SmallTypes.iterAll (L.map fun p => Value.ref p.1)) Q E s := by
  unfold Builtin.SmallTypes.iterAll
  refine wpAny_bind (iterAll_n L s [] _ hl ?_)
  exact wpAny_pure q
abbrev zH3 (h : Heap) (L : List (Nat × List Value)) : Heap := (itH h (L.map (·.1))).push { cls := .type "tuple", data := .seq (refsFrom h.objs.size L.length).toArray }
abbrev zH4 (h : Heap) (L : List (Nat × List Value)) : Heap := (zH3 h L).push { cls := .type "tuple", data := .seq ((refsFrom h.objs.size L.length).map fun _ => Value.none).toArray }
abbrev zH5 (h : Heap) (L : List (Nat × List Value)) : Heap := (zH4 h L).push { cls := .type "zip", data := .fields #[.none, .bool false, .bool false, .ref (itH h (L.map (·.1))).objs.size, .ref (zH3 h L).objs.size] }
theorem meets_zipN (L : List (Nat × List Value)) (hsz : L.length ≤ 1000) :
    Meets (Builtin.«zip.__new__» ⟨.type "zip" :: L.map (fun p => Value.ref p.1), []⟩) (fun _ R s => Lsts s.heap L ∧ R (.ok (.ret (.ref (zH4 s.heap L).objs.size))) { s with heap := zH5 s.heap L }) :=
  .of_wp fun prog w A R s h => by
    obtain ⟨hp, g, d, tk, os⟩ := s; obtain ⟨hl, h⟩ := h
    have hsub := sub_zip
    have hL : Lsts (Shared.heap ⟨hp, g, d, tk, os⟩) L := hl
    have l1 : (refsFrom hp.objs.size L.length).length ≤ sizeLine := by rw [refsFrom_length]; exact Nat.le_trans hsz (by decide)
    have l2 : ((refsFrom hp.objs.size L.length).map fun _ => Value.none).length ≤ sizeLine := by rw [List.length_map]; exact l1
    wp_walk using iterAll_L hL
    exact ⟨_, rfl, h⟩
/-- zip(*rows): the zip object -/
theorem call_zipN {L : List (Nat × List Value)} {Q : Value → Shared → Prop} (hl : Lsts s.heap L) (lt : ∀ p ∈ L, p.1 < s.heap.objs.size) (hsz : L.length ≤ 1000)
    (h : ∀ h', ZN h' s.heap.objs.size L 0 → h'.objs.size = s.heap.objs.size + L.length + 3 → (∀ c o, s.heap.get? c = some o → h'.get? c = some o) → Q (.ref (s.heap.objs.size + L.length + 2)) { s with heap := h' }) :
    wpAny (model prog w) A (call (.type "zip") (L.map fun p => Value.ref p.1)) Q E s := by
  refine callType_new F.called_zip (by decide) (typeCall_zip_n _) (newCall_zip_n _) (fun obj => args_object_init_n obj _) F.entry_zip_new (meets_zipN L hsz) ⟨hl, ?_⟩
  have z0 : (itH s.heap (L.map (·.1))).objs.size = s.heap.objs.size + L.length := by rw [itH_size, List.length_map]
  have z3 : (zH3 s.heap L).objs.size = s.heap.objs.size + L.length + 1 := by rw [Heap.size_push, z0]
  have z4 : (zH4 s.heap L).objs.size = s.heap.objs.size + L.length + 2 := by rw [Heap.size_push, z3]
  have z5 : (zH5 s.heap L).objs.size = s.heap.objs.size + L.length + 3 := by rw [Heap.size_push, z4]
  have k5 : ∀ c o, (itH s.heap (L.map (·.1))).get? c = some o → (zH5 s.heap L).get? c = some o := fun c o e => Heap.get?_push_of_some _ (Heap.get?_push_of_some _ (Heap.get?_push_of_some _ e))
  have g5 : (zH5 s.heap L).get? (zH4 s.heap L).objs.size = some _ := Heap.get?_push_size _ rfl
  have g4 : (zH5 s.heap L).get? (zH3 s.heap L).objs.size = some _ := Heap.get?_push_of_some _ (Heap.get?_push_size _ rfl)
  have g3 : (zH5 s.heap L).get? (itH s.heap (L.map (·.1))).objs.size = some _ := Heap.get?_push_of_some _ (Heap.get?_push_of_some _ (Heap.get?_push_size _ rfl))
  have hq := h (zH5 s.heap L) ⟨⟨.none, false, .inl rfl, ?_⟩, ?_, ⟨(refsFrom s.heap.objs.size L.length).map fun _ => Value.none, by rw [List.length_map, refsFrom_length], ?_⟩, (itH_its L s.heap).at fun c o _ _ e => k5 c o e⟩ z5 fun c o e => k5 c o (itH_keep _ _ c o e)
  · show _ ∧ _
    rw [z4] at g5 ⊢
    exact ⟨⟨_, g5, rfl⟩, hq⟩
  · rw [z4, z3, z0] at g5
    exact g5
  · rw [z0] at g3; exact g3
  · rw [z3] at g4; exact g4
theorem pyIter_zipN {b k : Nat} {L : List (Nat × List Value)} {Q : Value → Shared → Prop} (st : ZN s.heap b L k) (h : Q (.ref (b + L.length + 2)) s) : wpAny (model prog w) A (pyIter (.ref (b + L.length + 2))) Q E s := by
  obtain ⟨f0, f1, _, hz⟩ := st.z
  have hT : s.TypeIs (.ref (b + L.length + 2)) "zip" := ⟨_, hz, rfl⟩
  refine wpAny_pyIter_slot hT F.slot_zip_iter (wpAny_call_entry F.slot_zip_iter hT F.entry_zip_iter ?_ (F.args_zip_iter_1 _))
  show wpAny _ _ (ret _) _ _ s
  exact wpAny_pure ⟨_, rfl, "zip", _, hT, F.slot_zip_next.lookup, h⟩
end
end UZN
/-! zip(*rows) over data: the walk. -/
namespace UZN
open PySem PySem.Spec PyProof.Rows L2 UZ
theorem ZN.items {h : Heap} {b k : Nat} {L L' : List (Nat × List Value)} (st : ZN h b L k) (e : L'.map (·.1) = L.map (·.1)) : ZN h b L' k := by
  have hl : L'.length = L.length := by have := congrArg List.length e; simpa using this
  obtain ⟨z, ti, to, its⟩ := st
  rw [← hl] at z ti to
  refine ⟨z, ti, to, fun m p hm => ?_⟩
  have h1 : (L'.map (·.1))[m]? = some p.1 := by rw [List.getElem?_map, hm]; rfl
  rw [e, List.getElem?_map] at h1
  obtain ⟨q, hq, eq⟩ := Option.map_eq_some_iff.mp h1
  rw [← eq]
  exact its m q hq
abbrev Rows := List (Nat × List V)
def at_ (A : Rows) (i : Nat) (xs : List V) : Prop := A.map (fun p => p.2[i]?) = xs.map some
/-- the lists at A as they stand, item by item in new tuples -/
def ItzN (A : Rows) : It :=
  ⟨fun i H => (∀ p ∈ A, H p.1 = some (.lst p.2)) ∧ ∃ xs, at_ A i xs,
    fun i H v H' => ∃ T xs, v = .ref T ∧ H T = none ∧ H' = upd H T (.tup xs) ∧ at_ A i xs,
    fun i H => (∀ p ∈ A, H p.1 = some (.lst p.2)) ∧ ∃ p0 A0, A = p0 :: A0 ∧ p0.2[i]? = none⟩
def cells (b n : Nat) : List Addr := (List.range n).map (b + ·)
theorem mem_cells {b n c : Nat} : c ∈ cells b n ↔ b ≤ c ∧ c < b + n := by
  unfold cells
  rw [List.mem_map]
  constructor
  · rintro ⟨m, hm, rfl⟩
    rw [List.mem_range] at hm
    show b ≤ b + m ∧ b + m < b + n
    omega
  · rintro ⟨h1, h2⟩
    exact ⟨c - b, List.mem_range.mpr (by omega), by show b + (c - b) = c; omega⟩
section
variable {X : Cx} {pins : List (Addr × Obj)} {σ : L2.St} {H : Hp} {s : Shared}
theorem lstsOf (I : Inv X pins σ H s) : ∀ A : Rows, (∀ p ∈ A, H p.1 = some (.lst p.2)) → ∃ B : List (Nat × List Value), B.map (·.1) = A.map (·.1) ∧ Lsts s.heap B ∧
    (∀ i xs, at_ A i xs → ∃ us, B.map (fun p => p.2[i]?) = us.map some ∧ Vals xs us) ∧ (∀ (p0 : Nat × List V) (A0 : Rows), A = p0 :: A0 → ∃ (q0 : Nat × List Value) (B0 : List (Nat × List Value)), B = q0 :: B0 ∧ ∀ i : Nat, p0.2[i]? = none → q0.2[i]? = none)
  | [], _ => ⟨[], rfl, fun p hp => (by cases hp), fun i xs h => (by
      cases xs with
      | nil => exact ⟨[], rfl, .nil⟩
      | cons _ _ => cases h), fun _ _ h => (by cases h)⟩
  | p :: A, h => by
    obtain ⟨B, h1, h2, h3, h4⟩ := lstsOf I A fun q hq => h q (List.mem_cons_of_mem _ hq)
    obtain ⟨its, rv, pl, hz⟩ := I.list (.inl (.inl (h p (List.mem_cons_self ..))))
    refine ⟨(p.1, its) :: B, by rw [List.map_cons, List.map_cons, h1], fun q hq => ?_, fun i xs hx => ?_, fun p0 A0 e => ?_⟩
    · rcases List.mem_cons.mp hq with rfl | hq
      · exact pl.isList
      · exact h2 q hq
    · cases xs with
      | nil => cases hx
      | cons x xs =>
        unfold at_ at hx
        rw [List.map_cons, List.map_cons, List.cons.injEq] at hx
        obtain ⟨us, e1, e2⟩ := h3 i xs hx.2
        obtain ⟨u, hu, ru⟩ := rv.get hx.1
        exact ⟨u :: us, by rw [List.map_cons, List.map_cons, e1]; show its[i]? :: _ = _; rw [hu], .cons ru e2⟩
    · cases e
      refine ⟨_, B, rfl, fun i hi => ?_⟩
      have hl := rv.length
      rw [List.getElem?_eq_none_iff] at hi ⊢
      show its.length ≤ i
      omega
end
theorem turn_zipN {P : Program} {w : World} {K : PySem.W.Frag} {x : Str} {tpos : Pos} {A : Rows} {b : Nat} (hA : A ≠ []) (hb : A.length ≤ 1000) (lt : ∀ p ∈ A, p.1 < b) :
    Turn P w K (.Name x tpos) (ItzN A) (cells b (A.length + 3)) (b + A.length + 2) (fun i h => ZN h b (A.map fun p => (p.1, [])) i) where
  mem := mem_cells.mpr (by omega)
  obj := fun i h st (c : Nat) hc => by
    obtain ⟨⟨f0, f1, _, hz⟩, hTI, ⟨os, _, hTO⟩, hi⟩ := st
    rw [List.length_map] at hz hTI hTO
    have hc := mem_cells.mp hc
    by_cases h1 : c = b + A.length + 2
    · rw [h1]; exact ⟨_, hz, fun v q => nomatch q⟩
    · by_cases h2 : c = b + A.length + 1
      · rw [h2]; exact ⟨_, hTO, fun v q => nomatch q⟩
      · by_cases h3 : c = b + A.length
        · rw [h3]; exact ⟨_, hTI, fun v q => nomatch q⟩
        · have hlt : c - b < A.length := by omega
          obtain ⟨o, e, _, d⟩ := hi (c - b) (A[c - b].1, []) (by rw [List.getElem?_map, List.getElem?_eq_getElem hlt]; rfl)
          rw [show b + (c - b) = c by omega] at e
          exact ⟨o, e, fun v q => by rw [d] at q; cases q⟩
  keep := fun i h h' st k => by
    obtain ⟨⟨f0, f1, hf, hz⟩, hTI, ⟨os, ho, hTO⟩, hi⟩ := st
    have hl : (A.map fun p => (p.1, ([] : List Value))).length = A.length := List.length_map ..
    refine ⟨⟨f0, f1, hf, k _ (mem_cells.mpr (by rw [hl]; omega)) _ hz⟩, k _ (mem_cells.mpr (by rw [hl]; omega)) _ hTI, ⟨os, ho, k _ (mem_cells.mpr (by rw [hl]; omega)) _ hTO⟩, hi.at fun (c : Nat) o h1 h2 e => k c (mem_cells.mpr (by rw [hl] at h2; exact ⟨h1, by omega⟩)) o e⟩
  item := by
    intro X hP hw hK hc i pins s σ H E I hf st hg
    subst hP hw hK
    obtain ⟨hA1, xs, hx⟩ := hg
    obtain ⟨B, e1, e2, e3, e4⟩ := lstsOf I A hA1
    obtain ⟨us, hu, rv⟩ := e3 i xs hx
    have hBl : B.length = A.length := by have := congrArg List.length e1; simpa using this
    have st' : ZN s.heap b B i := st.items (by rw [e1, List.map_map]; rfl)
    have ltB : ∀ p ∈ B, p.1 < b := fun p hp => by
      have : p.1 ∈ A.map (·.1) := by rw [← e1]; exact List.mem_map.mpr ⟨p, hp, rfl⟩
      obtain ⟨q, hq, eq⟩ := List.mem_map.mp this
      rw [← eq]; exact lt q hq
    have hBn : B ≠ [] := fun z => by rw [z] at hBl; exact hA (List.eq_nil_of_length_eq_zero hBl.symm)
    have xl : xs.length = A.length := by
      have := congrArg List.length hx
      rw [List.length_map, List.length_map] at this
      exact this.symm
    rw [← hBl]
    refine pyNext_zipN hBn st' e2 ltB hu (by omega) fun h' st2 hT hsz hk => ?_
    have new : ObjOk X.prog X.w (upd H s.heap.objs.size (.tup xs)) h' s.heap.objs.size (.tup xs) :=
      ⟨by rw [xl]; exact Nat.le_trans hb (by decide), us, rv, ⟨_, hT, rfl, _, rfl⟩⟩
    have I1 : Inv X pins σ (upd H s.heap.objs.size (.tup xs)) { s with heap := h' } :=
      I.turnedNew (t' := s.toks) (ch := cells b (A.length + 3)) (fun (c : Nat) o hb q => hk c o (by
        have hb' : ¬ (b ≤ c ∧ c < b + (A.length + 3)) := fun z => hb (mem_cells.mpr z)
        rw [hBl]
        by_cases h1 : c < b
        · exact .inl h1
        · exact .inr (by have : ¬ c < b + (A.length + 3) := fun z => hb' ⟨by omega, z⟩; omega)) q) hf (Nat.le_refl _) new
    refine ⟨_, rfl, wpAny_pure ⟨.ref s.heap.objs.size, _, I1, rfl, ⟨_, xs, rfl, I.hok.fresh (Nat.le_refl _), rfl, hx⟩, st2.items (by rw [e1, List.map_map]; rfl), fun (c : Nat) hcm => ?_⟩⟩
    obtain ⟨⟨f0, f1, _, hz⟩, _, _, _⟩ := st'
    have hzl : b + B.length + 2 < s.heap.objs.size := Heap.lt_size hz
    rw [hBl] at hcm
    have hcm' := mem_cells.mp hcm
    have hne : c ≠ s.heap.objs.size := ne_of (by omega)
    rw [upd_ne hne]
    exact (hf c hcm).1
  done := by
    intro X hP hw hK hc i pins s σ H E I hf st hg
    subst hP hw hK
    obtain ⟨hA1, p0, A0, hp, hx⟩ := hg
    obtain ⟨B, e1, e2, e3, e4⟩ := lstsOf I A hA1
    obtain ⟨q0, B0, hB, hq⟩ := e4 p0 A0 hp
    have hBl : B.length = A.length := by have := congrArg List.length e1; simpa using this
    have st' : ZN s.heap b B i := st.items (by rw [e1, List.map_map]; rfl)
    have ltB : ∀ p ∈ B, p.1 < b := fun p hp => by
      have : p.1 ∈ A.map (·.1) := by rw [← e1]; exact List.mem_map.mpr ⟨p, hp, rfl⟩
      obtain ⟨q, hq, eq⟩ := List.mem_map.mp this
      rw [← eq]; exact lt q hq
    rw [← hBl]
    exact pyNext_zipN_end (I.ok.hd hc) hB st' e2 ltB (hq i hx) fun h' hk => ⟨rfl, I.turnedL (t' := s.toks) (ch := cells b (A.length + 3)) (fun (c : Nat) o hb q => hk c o (by
        have hb' : ¬ (b ≤ c ∧ c < b + (A.length + 3)) := fun z => hb (mem_cells.mpr z)
        rw [hBl]
        by_cases h1 : c < b
        · exact .inl h1
        · exact .inr (by have : ¬ c < b + (A.length + 3) := fun z => hb' ⟨by omega, z⟩; omega)) q) hf⟩
  self := fun A' i s Q E st h => by
    have := pyIter_zipN (prog := P) (w := w) (A := A') (E := E) (Q := Q) st (by rw [List.length_map]; exact h)
    rwa [List.length_map] at this
theorem pi_zipN {X : Cx} {e : Expr} {te : TE} {x : Str} {p tpos pos sp_ : Pos} (hg : Gl X "zip") (hm : X.mg "zip" = none) (he : PE X e te) (hst : starEach [.Starred e sp_] X.env = [(true, eval e X.env)] := by rfl) :
    PI X (.Name x tpos) (.Call (.Name "zip" p) [.Starred e sp_] [] pos) fun σ H R => te σ H fun y H1 => ∃ (a : Addr) (A : Rows), y = .ref a ∧ SqL X.K H1 a (A.map fun p => .ref p.1) ∧ A ≠ [] ∧ A.length ≤ 1000 ∧ (∀ p ∈ A, H1 p.1 = some (.lst p.2)) ∧ R (ItzN A) H1 := by
  refine ⟨fun pins s σ H R I h => ?_⟩
  refine wpAny_Call_Name_kw (ld_blt I hg hm PyProof.Rows.boot_zip ?_ (by decide) (by decide))
  rw [hst]
  refine PySem.W.ks_call rfl (P := fun _ => True) (fun h _ => ⟨.machine, .inr (.inl rfl), PySem.W.Looks.of_pure rfl⟩) (PySem.W.ks_lone (thn (he.run pins s σ H _ I h) fun v s1 ⟨y, H1, I1, ry, a, A, ey, hxs, hA, hb, hl, q⟩ => ?_))
  subst ey
  obtain rfl : v = Value.ref a := ry
  refine StX.star_lst I1 hxs fun us s2 I2 rv => ⟨trivial, ?_⟩
  obtain ⟨B, e1, e2, e3, e4⟩ := lstsOf I2 A hl
  have hus : us = B.map fun p => Value.ref p.1 := by
    have gen : ∀ (A : Rows) (B : List (Nat × List Value)) (us : List Value), B.map (·.1) = A.map (·.1) → Vals (A.map fun p => V.ref p.1) us → us = B.map fun p => Value.ref p.1 := by
      intro A
      induction A with
      | nil =>
        intro B us e r
        cases B with
        | nil => cases r; rfl
        | cons _ _ => cases e
      | cons q A ih =>
        intro B us e r
        cases B with
        | nil => cases e
        | cons c B =>
          rw [List.map_cons, List.map_cons, List.cons.injEq] at e
          cases r with
          | cons r rr =>
            cases r
            rw [List.map_cons, ih B _ e.2 rr, e.1]
    exact gen A B us e1 rv
  subst hus
  have hBl : B.length = A.length := by have := congrArg List.length e1; simpa using this
  have ltB : ∀ p ∈ B, p.1 < s2.heap.objs.size := fun p hp => by
    obtain ⟨o, ho, _⟩ := e2 p hp
    exact Heap.lt_size ho
  refine call_zipN e2 ltB (by omega) fun h' st hsz hk => ?_
  refine pyIter_zipN st ?_
  have I3 : Inv X pins σ H1 { s2 with heap := h' } := I2.kept (t' := s2.toks) hk
  have ltA : ∀ p ∈ A, p.1 < s2.heap.objs.size := fun p hp => by
    have : p.1 ∈ B.map (·.1) := by rw [e1]; exact List.mem_map.mpr ⟨p, hp, rfl⟩
    obtain ⟨q, hq, eq⟩ := List.mem_map.mp this
    rw [← eq]; exact ltB q hq
  refine ⟨_, cells s2.heap.objs.size (A.length + 3), _, ItzN A, H1, rfl, I3, by rw [hBl]; exact turn_zipN hA hb ltA, st.items (L' := A.map fun p => (p.1, [])) (by rw [e1, List.map_map]; rfl), fun c hc => ?_, q⟩
  have hc' := (mem_cells.mp hc).1
  exact I2.fpOk hc' (I2.hok.fresh hc')
/-! ### over data -/
def colD (rows : List (List PyData)) (i : Nat) : List PyData := rows.filterMap fun r => r[i]?
theorem colD_cons {r : List PyData} {rows : List (List PyData)} {i : Nat} (h : i < r.length) : colD (r :: rows) i = r[i] :: colD rows i := by
  unfold colD
  rw [List.filterMap_cons, List.getElem?_eq_getElem h]
theorem repRows {K : PySem.W.Frag} {S : Hp} {m : Nat} : ∀ (rows : List (List PyData)) (vs : List V), RepL K S vs (rows.map .list) → (∀ r ∈ rows, r.length = m) → ∃ A : Rows, vs = A.map (fun p => .ref p.1) ∧ (∀ p ∈ A, S p.1 = some (.lst p.2)) ∧ A.length = rows.length ∧
    (∀ i, i < m → ∃ xs, at_ A i xs ∧ RepL K S xs (colD rows i)) ∧ ∀ p ∈ A, p.2.length = m
  | [], vs, h, _ => by
    cases h
    exact ⟨[], rfl, fun p hp => (by cases hp), rfl, fun i _ => ⟨[], rfl, .nil⟩, fun p hp => (by cases hp)⟩
  | r :: rows, vs, h, hm => by
    cases h with
    | cons h t =>
      cases h with
      | @lst a us ds hs hr =>
        obtain ⟨A, e1, e2, e3, e4, e5⟩ := repRows rows _ t fun q hq => hm q (List.mem_cons_of_mem _ hq)
        have hrm := hm r (List.mem_cons_self ..)
        have hl := hr.length
        refine ⟨(a, us) :: A, by rw [List.map_cons, e1], fun p hp => ?_, by rw [List.length_cons, List.length_cons, e3], fun i hi => ?_, fun p hp => ?_⟩
        · rcases List.mem_cons.mp hp with rfl | hp
          · exact hs
          · exact e2 p hp
        · obtain ⟨xs, f1, f2⟩ := e4 i hi
          have hir : i < r.length := by omega
          obtain ⟨v, h1, h2⟩ := hr.get (List.getElem?_eq_getElem hir)
          refine ⟨v :: xs, ?_, ?_⟩
          · unfold at_
            rw [List.map_cons, List.map_cons]
            show us[i]? :: _ = _
            rw [h1]
            exact congrArg (some v :: ·) f1
          · rw [colD_cons hir]
            exact .cons h2 f2
        · rcases List.mem_cons.mp hp with rfl | hp
          · show us.length = m
            omega
          · exact e5 p hp
def rowsOf : List PyData → Option (List (List PyData))
  | [] => some []
  | .list r :: rs => (rowsOf rs).map (r :: ·)
  | _ => none
theorem rowsOf_eq : ∀ {rs : List PyData} {rows : List (List PyData)}, rowsOf rs = some rows → rs = rows.map .list
  | [], rows, h => by cases h; rfl
  | .list r :: rs, rows, h => by
    obtain ⟨q, h1, rfl⟩ := Option.map_eq_some_iff.mp h
    rw [List.map_cons, ← rowsOf_eq h1]
  | .none :: _, _, h => by cases h
  | .bool _ :: _, _, h => by cases h
  | .int _ :: _, _, h => by cases h
  | .str _ :: _, _, h => by cases h
  | .tuple _ :: _, _, h => by cases h
  | .dict _ :: _, _, h => by cases h
theorem rowsOf_map : ∀ rows : List (List PyData), rowsOf (rows.map .list) = some rows
  | [] => rfl
  | r :: rows => by
    show (rowsOf (rows.map .list)).map (r :: ·) = _
    rw [rowsOf_map rows]; rfl
/-- zip(*rows) -/
def iZn (t : VE) : VI := fun Γ O => (t Γ O).bind fun w O1 => match w with
  | .d (.list rs) => match rowsOf rs with
    | some (r :: rows) => if rows.length ≤ 999 ∧ ∀ q ∈ rows, q.length = r.length then .ok ((List.range r.length).map fun i => .d (.tuple (colD (r :: rows) i)), []) O1 else .bad
    | _ => .bad
  | _ => .bad
theorem i_zn {X : Cx} {Wx : WX} {e : Expr} {t : VE} {x : Str} {p tpos pos sp_ : Pos} (hm : X.mg "zip" = none) (h : PVE X Wx e t) (hg : Gl X "zip" := by rfl) (hst : starEach [.Starred e sp_] X.env = [(true, eval e X.env)] := by rfl) :
    PVI X Wx (.Name x tpos) (.Call (.Name "zip" p) [.Starred e sp_] [] pos) (iZn t) := (pi_zipN hg hm h hst).imp fun σ H RR ⟨Γ, O, S, ρ, Q', E', st, h, kq, kx⟩ => by
  unfold oI iZn at h
  rw [UZ.R.run_bind] at h
  refine ⟨Γ, O, S, ρ, _, _, st, h, fun w1 O1 S1 ρ1 v1 H1 x1 wd1 r1 h1 => ?_, kx⟩
  dsimp only at h1
  split at h1
  · rename_i rs
    split at h1
    · rename_i r rows er
      split at h1
      · rename_i c
        have ers := rowsOf_eq er
        subst ers
        cases r1 with
        | d r1 =>
          cases r1 with
          | lst hs hr =>
            obtain ⟨A, e1, e2, e3, e4, e5⟩ := repRows (m := r.length) (r :: rows) _ hr (fun q hq => by
              rcases List.mem_cons.mp hq with rfl | hq
              · rfl
              · exact c.2 q hq)
            subst e1
            have hA : A ≠ [] := fun z => by rw [z] at e3; cases e3
            refine ⟨_, A, rfl, .of (wd1.sub _ _ hs), hA, by rw [e3]; simp only [List.length_cons]; omega, fun p hp => wd1.sub _ _ (e2 p hp), kq _ _ O1 S1 ρ1 _ H1 x1 wd1 ⟨fun i O' S' ρ' H' x wd _ hi => ?_, fun i w O' S' ρ' H' x H'' ex wd _ hi y => ?_, fun O' S' ρ' H' x wd _ => ?_⟩ h1⟩
            · rw [List.length_map, List.length_range] at hi
              obtain ⟨xs, f1, _⟩ := e4 i hi
              exact ⟨fun p hp => wd.sub _ _ (x.sub _ _ (e2 p hp)), xs, f1⟩
            · obtain ⟨T, xs, rfl, nT, rfl, hx⟩ := y
              have hl := (List.getElem?_eq_some_iff.mp hi).1
              rw [List.length_map, List.length_range] at hl
              rw [List.getElem?_map, List.getElem?_range hl] at hi
              cases hi
              obtain ⟨xs2, f1, f2⟩ := e4 i hl
              have exs : xs = xs2 := by
                have : xs.map some = xs2.map some := hx.symm.trans f1
                exact (List.map_inj_right fun _ _ h => Option.some.inj h).mp this
              subst exs
              have q := yl_tup (vs := xs) (ws := (colD (r :: rows) i).map .d) wd nT (f2.sub ex.sub).relWs
              rw [mkT_map] at q
              exact q
            · refine ⟨fun p hp => wd.sub _ _ (x.sub _ _ (e2 p hp)), ?_⟩
              cases A with
              | nil => exact (hA rfl).elim
              | cons p0 A0 =>
                refine ⟨p0, A0, rfl, ?_⟩
                rw [List.length_map, List.length_range]
                rw [List.getElem?_eq_none_iff, e5 p0 (List.mem_cons_self ..)]
                exact Nat.le_refl _
      · exact h1.elim
    · exact h1.elim
  · exact h1.elim
@[simp] theorem e_iZn {t : VE} {Γ : Gm} {O : List Ob} : iZn t Γ O = (t Γ O).bind fun w O1 => match w with
  | .d (.list rs) => match rowsOf rs with
    | some (r :: rows) => if rows.length ≤ 999 ∧ ∀ q ∈ rows, q.length = r.length then .ok ((List.range r.length).map fun i => .d (.tuple (colD (r :: rows) i)), []) O1 else .bad
    | _ => .bad
  | _ => .bad := rfl
end UZN
/-! V, part X: how the readings are computed (for simp). -/
namespace UZ
open PySem PySem.W L2
theorem smI_of {j : Int} (h1 : -1000000000 ≤ j) (h2 : j ≤ 1000000000) : smI j := ⟨Int.le_trans (by decide) h1, Int.lt_of_le_of_lt h2 (by decide)⟩
theorem smI_nat {n : Nat} (h : n ≤ 1000000000) : smI (n : Int) := smI_of (by omega) (by omega)
@[simp] theorem smI_0 : smI 0 := ⟨by decide, by decide⟩
@[simp] theorem smI_1 : smI 1 := ⟨by decide, by decide⟩
theorem smT_of {j : Int} (h1 : -1000000000 ≤ j) (h2 : j ≤ 1000000000) : smT j := ⟨Int.le_trans (by decide) h1, Int.lt_of_le_of_lt h2 (by decide)⟩
theorem smT_nat {n : Nat} (h : n ≤ 1000000000) : smT (n : Int) := smT_of (by omega) (by omega)
section
variable {Γ : Gm} {O : List Ob}
/-! ### what each reading is -/
@[simp] theorem e_V {i : Nat} : vV i Γ O = match Γ[i]? with | some (some w) => .ok w O | _ => .bad := rfl
@[simp] theorem e_C {x : PyData} : vC x Γ O = .ok (.d x) O := rfl
@[simp] theorem e_Cw {w : W} : vCw w Γ O = .ok w O := rfl
@[simp] theorem e_Op {f : U2} {a b : VE} : vOp f a b Γ O = (a Γ O).bind fun x O1 => (b Γ O1).bind fun y O2 => .ofO (f x y O2) := rfl
@[simp] theorem e_Un {f : U1} {a : VE} : vUn f a Γ O = (a Γ O).bind fun x O1 => .ofO (f x O1) := rfl
@[simp] theorem e_Tst {t : VE} : vTst t Γ O = bB (t Γ O) := rfl
@[simp] theorem e_NotT {t : VT} : vNotT t Γ O = (t Γ O).bind fun b O1 => .ok (!b) O1 := rfl
@[simp] theorem e_AndT {t u : VT} : vAndT t u Γ O = (t Γ O).bind fun b O1 => if b = true then u Γ O1 else .ok false O1 := rfl
@[simp] theorem e_OrT {t u : VT} : vOrT t u Γ O = (t Γ O).bind fun b O1 => if b = true then .ok true O1 else u Γ O1 := rfl
@[simp] theorem e_AndV {t u : VE} : vAndV t u Γ O = (bB (t Γ O)).bind fun b O1 => if b = true then u Γ O1 else .ok (.d (.bool false)) O1 := rfl
@[simp] theorem e_OrV {t u : VE} : vOrV t u Γ O = (bB (t Γ O)).bind fun b O1 => if b = true then .ok (.d (.bool true)) O1 else u Γ O1 := rfl
@[simp] theorem e_NotV {t : VE} : vNotV t Γ O = (bB (t Γ O)).bind fun b O1 => .ok (.d (.bool !b)) O1 := rfl
@[simp] theorem e_IfE {t : VT} {a b : VE} : vIfE t a b Γ O = (t Γ O).bind fun k O1 => if k = true then a Γ O1 else b Γ O1 := rfl
@[simp] theorem e_Chain {f g : U2} {a b c : VE} : vChain f g a b c Γ O = (a Γ O).bind fun x O1 => (b Γ O1).bind fun y O2 => (bB (.ofO (f x y O2))).bind fun k O3 => if k = true then (c Γ O3).bind fun u O4 => .ofO (g y u O4) else .ok (.d (.bool false)) O3 := rfl
@[simp] theorem e_Nil : vNil Γ O = .ok [] O := rfl
@[simp] theorem e_Cons {t : VE} {u : VA} : vCons t u Γ O = (t Γ O).bind fun w O1 => (u Γ O1).bind fun ws O2 => .ok (w :: ws) O2 := rfl
@[simp] theorem e_Tup {u : VA} : vTup u Γ O = (u Γ O).bind fun ws O1 => if ws.length ≤ sizeLine then .ok (mkT ws) O1 else .bad := rfl
@[simp] theorem e_Lst {u : VA} : vLst u Γ O = (u Γ O).bind fun ws O1 => if ws.length ≤ sizeLine then .ok (mkL ws O1).1 (mkL ws O1).2 else .bad := rfl
@[simp] theorem e_LstO {u : VA} : vLstO u Γ O = (u Γ O).bind fun ws O1 => if ws.length ≤ sizeLine then .ok (mkO ws O1).1 (mkO ws O1).2 else .bad := rfl
@[simp] theorem e_NoP : vNoP Γ O = .ok none O := rfl
@[simp] theorem e_Part {t : VE} : vPart t Γ O = (t Γ O).bind fun w O1 => match w with | .d (.int i) => .ok (some i) O1 | _ => .bad := rfl
@[simp] theorem e_Sl {f : US} {t : VE} {l h : VO} : vSl f t l h Γ O = (t Γ O).bind fun x O1 => (l Γ O1).bind fun lo O2 => (h Γ O2).bind fun hi O3 => .ofO (f x lo hi O3) := rfl
@[simp] theorem e_CB {f : UC} {u : VA} : vCB f u Γ O = (u Γ O).bind fun ws O1 => .ofO (f ws O1) := rfl
@[simp] theorem e_Call {n : Nat} {f : FV} {u : VA} : vCall n f u Γ O = (u Γ O).bind fun ws O1 => if ws.length = n then f ws O1 else .bad := rfl
@[simp] theorem e_Call0 {f : FV} : vCall0 f Γ O = (f [] O).calm := rfl
@[simp] theorem e_Wipe {ks : List Nat} {t : VS} : vWipe ks t Γ O = (t Γ O).wipe ks := rfl
@[simp] theorem e_Next : vNext Γ O = .nx Γ O := rfl
@[simp] theorem e_Seq {u v : VS} : vSeq u v Γ O = (u Γ O).seq v := rfl
@[simp] theorem e_Break : vBreak Γ O = .bk Γ O := rfl
@[simp] theorem e_Cont : vCont Γ O = .ct Γ O := rfl
@[simp] theorem e_Ret {t : VE} : vRet t Γ O = (t Γ O).toS Γ .rt := rfl
@[simp] theorem e_Drop {t : VE} : vDrop t Γ O = (t Γ O).toS Γ fun _ O1 => .nx Γ O1 := rfl
@[simp] theorem e_If {c : VT} {u v : VS} : vIf c u v Γ O = (c Γ O).toS Γ fun b O1 => if b = true then u Γ O1 else v Γ O1 := rfl
@[simp] theorem e_Asg {t : VE} {g : VG} : vAsg t g Γ O = (t Γ O).asg Γ g := rfl
@[simp] theorem e_Set {i : Nat} {t : VE} : vSet i t Γ O = (t Γ O).toS Γ fun w O1 => .nx (Γ.set i (some w)) O1 := rfl
@[simp] theorem e_Par {i j : Nat} {u : VA} : vPar i j u Γ O = (u Γ O).toS Γ fun ws O1 => match ws with | [v, w] => .nx ((Γ.set i (some v)).set j (some w)) O1 | _ => .bad := rfl
@[simp] theorem e_For {it : VI} {g : VG} {b : VS} : vFor it g b Γ O = (it Γ O).toS Γ fun p O1 => forV g b p.2 p.1 Γ O1 := rfl
@[simp] theorem e_iSq {t : VE} : iSq t Γ O = (t Γ O).bind fun w O1 => match wk O1 w with | some p => .ok p O1 | none => .bad := rfl
open Classical in
@[simp] theorem e_iR1 {t : VE} : iR1 t Γ O = (t Γ O).bind fun w O1 => match w with | .d (.int j) => if smI j then .ok (rng 0 j.toNat, []) O1 else .bad | _ => .bad := rfl
open Classical in
@[simp] theorem e_iR2 {t u : VE} : iR2 t u Γ O = (t Γ O).bind fun v O1 => (u Γ O1).bind fun w O2 => match v, w with | .d (.int i), .d (.int j) => if smI i ∧ smI j then .ok (rng i (j - i).toNat, []) O2 else .bad | _, _ => .bad := rfl
@[simp] theorem e_iRv {t : VE} : iRv t Γ O = (t Γ O).bind fun w O1 => match tv w with | some ws => .ok (ws.reverse, []) O1 | none => .bad := rfl
@[simp] theorem e_iEn {t : VE} : iEn t Γ O = (t Γ O).bind fun w O1 => match wk O1 w with | some p => .ok (enumW 0 p.1, p.2) O1 | none => .bad := rfl
@[simp] theorem e_iZp {t u : VE} : iZp t u Γ O = (t Γ O).bind fun v O1 => (u Γ O1).bind fun w O2 => match wkL O2 v, wkL O2 w with | some p, some q => .ok (zipW p.1 q.1, p.2 ++ q.2) O2 | _, _ => .bad := rfl
@[simp] theorem e_Yes : vYes Γ O = .ok true O := rfl
@[simp] theorem e_Raise0 {x : Str} : vRaise0 x Γ O = .ex (.plain x) Γ O := rfl
@[simp] theorem e_Mt0 {f : List Ob → UM} {t : VE} : vMt0 f t Γ O = (t Γ O).bind fun w O1 => match lstO O1 w with | some (k, ws) => (match f O1 ws [] with | some (y, ws') => .ok y (O1.set k (.lst ws')) | none => .bad) | none => .bad := rfl
@[simp] theorem e_Mt {f : List Ob → UM} {t : VE} {u : VA} : vMt f t u Γ O = (t Γ O).bind fun w O1 => match lstO O1 w with
  | some _ => (u Γ O1).bind fun args O2 => match lstO O2 w with
    | some (k, ws) => match f O2 ws args with
      | some (y, ws') => .ok y (O2.set k (.lst ws'))
      | none => .bad
    | none => .bad
  | none => .bad := rfl
theorem e_LcM {mk : List W → List Ob → W × List Ob} {it : VI} {g : Tg} {tt : VT} {te : VE} {us : List Nat} : vLcM mk it g tt te us Γ O = (it Γ O).bind fun p O1 => (lcV p.2 (lcF g tt te (wipeD Γ us)) p.1 O1).calm.bind fun ws O2 => if ws.length ≤ sizeLine then .ok (mk ws O2).1 (mk ws O2).2 else .bad := rfl
@[simp] theorem e_lcF {g : Tg} {tt : VT} {te : VE} {w : W} : lcF g tt te Γ w O = match tgV g w Γ with | some Γ1 => (tt Γ1 O).calm.bind fun b O1 => if b = true then (te Γ1 O1).calm.bind fun y O2 => .ok (some y) O2 else .ok none O1 | none => .bad := rfl
@[simp] theorem e_fnV {N : List Str} {t : VS} {ws : List W} : fnV N t ws O = (t (startD N ws) O).fin O := rfl
@[simp] theorem e_fnK {N : List Str} {t : VS} {ws : List W} : fnK N t ws O = (t (startD N ws) O).finK O := rfl
@[simp] theorem e_start {N : List Str} {ws : List W} : startD N ws = ws.map some ++ List.replicate (N.length - ws.length) none := rfl
@[simp] theorem e_fin_nx {O1 : List Ob} : (SR.nx Γ O1).fin O = finW O (.d .none) O1 := rfl
@[simp] theorem e_fin_rt {w : W} {O1 : List Ob} : (SR.rt w O1).fin O = finW O w O1 := rfl
@[simp] theorem e_fin_ex {x : Xc} {O1 : List Ob} : (SR.ex x Γ O1).fin O = finX O x O1 := rfl
@[simp] theorem e_finK_rt {w : W} {O1 : List Ob} : (SR.rt w O1).finK O = .ok w O1 := rfl
@[simp] theorem e_finK_nx {O1 : List Ob} : (SR.nx Γ O1).finK O = finW O (.d .none) O1 := rfl
@[simp] theorem e_finK_ex {x : Xc} {O1 : List Ob} : (SR.ex x Γ O1).finK O = finX O x O1 := rfl
@[simp] theorem e_wipe0 : wipeD Γ [] = Γ := rfl
@[simp] theorem e_wipe1 {i : Nat} {is : List Nat} : wipeD Γ (i :: is) = (wipeD Γ is).set i none := rfl
@[simp] theorem e_hNm {i : Nat} {w : W} : hNm i w Γ O = some (Γ.set i (some w), O) := rfl
@[simp] theorem e_hEnd : hEnd [] Γ O = some (Γ, O) := rfl
@[simp] theorem e_hCs {g : VG} {gs : VGs} {w : W} {ws : List W} : hCs g gs (w :: ws) Γ O = (g w Γ O).bind fun p => gs ws p.1 p.2 := rfl
@[simp] theorem e_hTpN {n : Nat} {gs : VGs} {w : W} : hTpN n gs w Γ O = match tv w with | some ws => if ws.length = n then gs ws Γ O else none | none => none := rfl
@[simp] theorem e_hSub {f : W → W → W → List Ob → Option (List Ob)} {to ti : VE} {w : W} : hSub f to ti w Γ O = match to Γ O with | .ok o O1 => (match ti Γ O1 with | .ok i O2 => (f o i w O2).map fun O3 => (Γ, O3) | _ => none) | _ => none := rfl
@[simp] theorem e_tgOne {i : Nat} {w : W} : tgV (.one i) w Γ = some (Γ.set i (some w)) := rfl
@[simp] theorem e_tgMany {is : List Nat} {w : W} : tgV (.many is) w Γ = match tv w with | some ws => if ws.length = is.length then some (setAll is ws Γ) else none | none => none := rfl
@[simp] theorem e_setAll {i : Nat} {is : List Nat} {w : W} {ws : List W} : setAll (i :: is) (w :: ws) Γ = setAll is ws (Γ.set i (some w)) := rfl
@[simp] theorem e_setAll0 {ws : List W} : setAll [] ws Γ = Γ := rfl
end
@[simp] theorem sizeLine_val : sizeLine = 16777216 := by decide
/-! ### values -/
section
variable {O : List Ob}
@[simp] theorem tv_t {xs : List PyData} : tv (.d (.tuple xs)) = some (xs.map .d) := rfl
@[simp] theorem tv_tp {xs : List W} : tv (.tp xs) = some xs := rfl
@[simp] theorem tv_l {xs : List PyData} : tv (.d (.list xs)) = none := rfl
@[simp] theorem tv_o {k : Nat} : tv (.o k) = none := rfl
@[simp] theorem tv_rl {xs : List PyData} : tv (.rl xs) = none := rfl
@[simp] theorem tv_i {i : Int} : tv (.d (.int i)) = none := rfl
@[simp] theorem tv_s {i : Str} : tv (.d (.str i)) = none := rfl
@[simp] theorem tv_n : tv (.d .none) = none := rfl
@[simp] theorem tv_b {b : Bool} : tv (.d (.bool b)) = none := rfl
@[simp] theorem lv_l {xs : List PyData} : lv O (.d (.list xs)) = some (xs.map .d) := rfl
@[simp] theorem lv_rl {xs : List PyData} : lv O (.rl xs) = some (xs.map .d) := rfl
@[simp] theorem lvS_l {xs : List PyData} : lvS O (.d (.list xs)) = some (xs.map .d) := rfl
@[simp] theorem mkT_nil : mkT [] = .d (.tuple []) := rfl
@[simp] theorem mkT_1 {a : PyData} : mkT [.d a] = .d (.tuple [a]) := rfl
@[simp] theorem mkT_2 {a b : PyData} : mkT [.d a, .d b] = .d (.tuple [a, b]) := rfl
@[simp] theorem mkT_3 {a b c : PyData} : mkT [.d a, .d b, .d c] = .d (.tuple [a, b, c]) := rfl
@[simp] theorem mkT_4 {a b c d : PyData} : mkT [.d a, .d b, .d c, .d d] = .d (.tuple [a, b, c, d]) := rfl
@[simp] theorem mkT_m {xs : List PyData} : mkT (xs.map .d) = .d (.tuple xs) := mkT_map xs
@[simp] theorem allD_nil : allD [] = some [] := rfl
@[simp] theorem allD_cons {x : PyData} {ws : List W} : allD (.d x :: ws) = match allD ws with | some xs => some (x :: xs) | none => none := rfl
@[simp] theorem allD_m {xs : List PyData} : allD (xs.map .d) = some xs := allD_map xs
theorem allD_f {α : Type} {f : α → PyData} : ∀ {l : List α}, allD (l.map fun x => W.d (f x)) = some (l.map f)
  | [] => rfl
  | x :: l => by show (match allD (l.map fun x => W.d (f x)) with | some xs => some (f x :: xs) | none => none) = _; rw [allD_f]; rfl
theorem mkL_f {α : Type} {f : α → PyData} {l : List α} : mkL (l.map fun x => W.d (f x)) O = (.d (.list (l.map f)), O) := by unfold mkL; rw [allD_f]
@[simp] theorem mkL_m {xs : List PyData} : mkL (xs.map .d) O = (.d (.list xs), O) := by unfold mkL; rw [allD_m]
@[simp] theorem mkL_nil : mkL [] O = (.d (.list []), O) := rfl
@[simp] theorem mkL_1 {a : PyData} : mkL [.d a] O = (.d (.list [a]), O) := rfl
@[simp] theorem mkL_2 {a b : PyData} : mkL [.d a, .d b] O = (.d (.list [a, b]), O) := rfl
@[simp] theorem mkL_3 {a b c : PyData} : mkL [.d a, .d b, .d c] O = (.d (.list [a, b, c]), O) := rfl
@[simp] theorem mkL_4 {a b c d : PyData} : mkL [.d a, .d b, .d c, .d d] O = (.d (.list [a, b, c, d]), O) := rfl
@[simp] theorem mkO_e {ws : List W} : mkO ws O = (.o O.length, O ++ [.lst ws]) := rfl
/-! ### operators -/
@[simp] theorem uAdd_i {mk : List W → List Ob → W × List Ob} {i j : Int} : uAddM mk (.d (.int i)) (.d (.int j)) O = some (.d (.int (i + j)), O) := rfl
theorem uMul_i {mk : List W → List Ob → W × List Ob} {i j : Int} (h : MulOk i j) : uMulM mk (.d (.int i)) (.d (.int j)) O = some (.d (.int (i * j)), O) := if_pos h
theorem uDiv_i {i j : Int} (h : DivOk j) : uDiv (.d (.int i)) (.d (.int j)) O = some (.d (.int (i.fdiv j)), O) := if_pos h
theorem uMod_i {i j : Int} (h : j ≠ 0) : uMod (.d (.int i)) (.d (.int j)) O = some (.d (.int (i.fmod j)), O) := if_pos h
theorem uEqN_d {neg : Bool} {a b : PyData} {r : Bool} (h : eqD a b = some r) : uEqN neg (.d a) (.d b) O = some (.d (.bool (if neg then !r else r)), O) := by
  unfold uEqN; rw [rsW_d, rsW_d]; dsimp only; rw [h]
@[simp] theorem uEq_i {neg : Bool} {i j : Int} : uEqN neg (.d (.int i)) (.d (.int j)) O = some (.d (.bool (if neg then !decide (i = j) else decide (i = j))), O) := uEqN_d rfl
@[simp] theorem uEq_s {neg : Bool} {i j : Str} : uEqN neg (.d (.str i)) (.d (.str j)) O = some (.d (.bool (if neg then !decide (i = j) else decide (i = j))), O) := uEqN_d rfl
@[simp] theorem uEq_b {neg : Bool} {i j : Bool} : uEqN neg (.d (.bool i)) (.d (.bool j)) O = some (.d (.bool (if neg then !decide (i = j) else decide (i = j))), O) := uEqN_d rfl
@[simp] theorem uIs_n {neg : Bool} {x : W} : uIsN neg x (.d .none) O = some (.d (.bool (if neg then !isNone x else isNone x)), O) := rfl
@[simp] theorem isNone_n : isNone (.d .none) = true := rfl
@[simp] theorem isNone_i {i : Int} : isNone (.d (.int i)) = false := rfl
@[simp] theorem isNone_l {i : List PyData} : isNone (.d (.list i)) = false := rfl
@[simp] theorem isNone_t {i : List PyData} : isNone (.d (.tuple i)) = false := rfl
@[simp] theorem isNone_s {i : Str} : isNone (.d (.str i)) = false := rfl
@[simp] theorem isNone_b {i : Bool} : isNone (.d (.bool i)) = false := rfl
@[simp] theorem isNone_o {i : Nat} : isNone (.o i) = false := rfl
@[simp] theorem uIs_b {neg : Bool} {a b : Bool} : uIsN neg (.d (.bool a)) (.d (.bool b)) O = some (.d (.bool (if neg then !decide (a = b) else decide (a = b))), O) := rfl
/-! ### indices -/
theorem atI_nat {α : Type} {xs : List α} {n : Nat} {x : α} (h : xs[n]? = some x) : atI xs (n : Int) = some x := by
  have hl := (List.getElem?_eq_some_iff.mp h).1
  unfold atI ixN
  rw [if_pos (Int.natCast_nonneg n), if_pos (by omega)]
  exact h
@[simp] theorem uIx_t0 {a : PyData} {r : List PyData} : uIx (.d (.tuple (a :: r))) (.d (.int 0)) O = some (.d a, O) := by
  show (atI ((a :: r).map W.d) 0).map _ = _
  rw [show atI ((a :: r).map W.d) 0 = some (W.d a) from atI_nat (n := 0) rfl]; rfl
@[simp] theorem uIx_t1 {a b : PyData} {r : List PyData} : uIx (.d (.tuple (a :: b :: r))) (.d (.int 1)) O = some (.d b, O) := by
  show (atI ((a :: b :: r).map W.d) 1).map _ = _
  rw [show atI ((a :: b :: r).map W.d) 1 = some (W.d b) from atI_nat (n := 1) rfl]; rfl
@[simp] theorem uIx_t2 {a b c : PyData} {r : List PyData} : uIx (.d (.tuple (a :: b :: c :: r))) (.d (.int 2)) O = some (.d c, O) := by
  show (atI ((a :: b :: c :: r).map W.d) 2).map _ = _
  rw [show atI ((a :: b :: c :: r).map W.d) 2 = some (W.d c) from atI_nat (n := 2) rfl]; rfl
@[simp] theorem uIx_l0 {a : PyData} {r : List PyData} : uIx (.d (.list (a :: r))) (.d (.int 0)) O = some (.d a, O) := by
  show (atI ((a :: r).map W.d) 0).map _ = _
  rw [show atI ((a :: r).map W.d) 0 = some (W.d a) from atI_nat (n := 0) rfl]; rfl
theorem uIx_t {xs : List PyData} {n : Nat} {x : PyData} (h : xs[n]? = some x) : uIx (.d (.tuple xs)) (.d (.int (n : Int))) O = some (.d x, O) := by
  show (atI (xs.map W.d) n).map _ = _
  rw [atI_nat (x := W.d x) (by rw [List.getElem?_map, h]; rfl)]; rfl
theorem uIx_l {xs : List PyData} {n : Nat} {x : PyData} (h : xs[n]? = some x) : uIx (.d (.list xs)) (.d (.int (n : Int))) O = some (.d x, O) := by
  show (atI (xs.map W.d) n).map _ = _
  rw [atI_nat (x := W.d x) (by rw [List.getElem?_map, h]; rfl)]; rfl
theorem uIx_rl {xs : List PyData} {n : Nat} {x : PyData} (h : xs[n]? = some x) : uIx (.rl xs) (.d (.int (n : Int))) O = some (.d x, O) := by
  show (atI (xs.map W.d) n).map _ = _
  rw [atI_nat (x := W.d x) (by rw [List.getElem?_map, h]; rfl)]; rfl
theorem uIx_o {k : Nat} {ws : List W} {n : Nat} {x : W} (e : O[k]? = some (.lst ws)) (h : ws[n]? = some x) : uIx (.o k) (.d (.int (n : Int))) O = some (x, O) := by
  unfold uIx
  simp only [tv_o, lv_o e, atI_nat h, Option.map_some]
/-! ### built-in functions -/
@[simp] theorem uLen_t {xs : List PyData} : uLen [.d (.tuple xs)] O = some (.d (.int xs.length), O) := by show some (W.d (.int ((xs.map W.d).length : Nat)), O) = _; rw [List.length_map]
@[simp] theorem uLen_l {xs : List PyData} : uLen [.d (.list xs)] O = some (.d (.int xs.length), O) := by show some (W.d (.int ((xs.map W.d).length : Nat)), O) = _; rw [List.length_map]
@[simp] theorem uLen_rl {xs : List PyData} : uLen [.rl xs] O = some (.d (.int xs.length), O) := by show some (W.d (.int ((xs.map W.d).length : Nat)), O) = _; rw [List.length_map]
@[simp] theorem uLen_tp {xs : List W} : uLen [.tp xs] O = some (.d (.int xs.length), O) := rfl
theorem uLen_o {k : Nat} {ws : List W} (h : O[k]? = some (.lst ws)) : uLen [.o k] O = some (.d (.int ws.length), O) := by
  show (match sq O (.o k) with | some xs => some (W.d (.int xs.length), O) | none => none) = _
  unfold sq
  rw [tv_o, lv_o h]
@[simp] theorem uInt_ii {i : Int} : uIntF [.d (.int i)] O = some (.d (.int i), O) := rfl
@[simp] theorem uInt_b {k : Bool} : uIntF [.d (.bool k)] O = some (.d (.int (if k = true then 1 else 0)), O) := rfl
@[simp] theorem uAbs_i {i : Int} : uAbs [.d (.int i)] O = some (.d (.int i.natAbs), O) := rfl
@[simp] theorem uMax2_i {i j : Int} : uMax2 [.d (.int i), .d (.int j)] O = some (.d (.int (if j > i then j else i)), O) := rfl
/-! ### isinstance -/
theorem uIsi_d {x : W} {a b : String} {r : Bool} (h : tyW O x = some a) (h2 : kitB a b = some r) : uIsi [x, .v (.ty b)] O = some (.d (.bool r), O) := by
  unfold uIsi; dsimp only; rw [h]; dsimp only; rw [h2]
end
theorem kt_int_int : kitB "int" "int" = some true := by decide +kernel
theorem kt_int_bool : kitB "int" "bool" = some false := by decide +kernel
theorem kt_int_str : kitB "int" "str" = some false := by decide +kernel
theorem kt_int_list : kitB "int" "list" = some false := by decide +kernel
theorem kt_int_tuple : kitB "int" "tuple" = some false := by decide +kernel
theorem kt_int_dict : kitB "int" "dict" = some false := by decide +kernel
theorem kt_bool_int : kitB "bool" "int" = some true := by decide +kernel
theorem kt_bool_bool : kitB "bool" "bool" = some true := by decide +kernel
theorem kt_bool_str : kitB "bool" "str" = some false := by decide +kernel
theorem kt_bool_list : kitB "bool" "list" = some false := by decide +kernel
theorem kt_bool_tuple : kitB "bool" "tuple" = some false := by decide +kernel
theorem kt_bool_dict : kitB "bool" "dict" = some false := by decide +kernel
theorem kt_str_int : kitB "str" "int" = some false := by decide +kernel
theorem kt_str_bool : kitB "str" "bool" = some false := by decide +kernel
theorem kt_str_str : kitB "str" "str" = some true := by decide +kernel
theorem kt_str_list : kitB "str" "list" = some false := by decide +kernel
theorem kt_str_tuple : kitB "str" "tuple" = some false := by decide +kernel
theorem kt_str_dict : kitB "str" "dict" = some false := by decide +kernel
theorem kt_none_int : kitB "NoneType" "int" = some false := by decide +kernel
theorem kt_none_bool : kitB "NoneType" "bool" = some false := by decide +kernel
theorem kt_none_str : kitB "NoneType" "str" = some false := by decide +kernel
theorem kt_none_list : kitB "NoneType" "list" = some false := by decide +kernel
theorem kt_none_tuple : kitB "NoneType" "tuple" = some false := by decide +kernel
theorem kt_none_dict : kitB "NoneType" "dict" = some false := by decide +kernel
theorem kt_list_int : kitB "list" "int" = some false := by decide +kernel
theorem kt_list_bool : kitB "list" "bool" = some false := by decide +kernel
theorem kt_list_str : kitB "list" "str" = some false := by decide +kernel
theorem kt_list_list : kitB "list" "list" = some true := by decide +kernel
theorem kt_list_tuple : kitB "list" "tuple" = some false := by decide +kernel
theorem kt_list_dict : kitB "list" "dict" = some false := by decide +kernel
theorem kt_tuple_int : kitB "tuple" "int" = some false := by decide +kernel
theorem kt_tuple_bool : kitB "tuple" "bool" = some false := by decide +kernel
theorem kt_tuple_str : kitB "tuple" "str" = some false := by decide +kernel
theorem kt_tuple_list : kitB "tuple" "list" = some false := by decide +kernel
theorem kt_tuple_tuple : kitB "tuple" "tuple" = some true := by decide +kernel
theorem kt_tuple_dict : kitB "tuple" "dict" = some false := by decide +kernel
theorem kt_dict_int : kitB "dict" "int" = some false := by decide +kernel
theorem kt_dict_bool : kitB "dict" "bool" = some false := by decide +kernel
theorem kt_dict_str : kitB "dict" "str" = some false := by decide +kernel
theorem kt_dict_list : kitB "dict" "list" = some false := by decide +kernel
theorem kt_dict_tuple : kitB "dict" "tuple" = some false := by decide +kernel
theorem kt_dict_dict : kitB "dict" "dict" = some true := by decide +kernel
/-- isinstance of data, by kinds -/
def isiD (x : PyData) (b : String) : Bool := match x with
  | .none => false
  | .bool _ => b = "int" || b = "bool"
  | .int _ => b = "int"
  | .str _ => b = "str"
  | .list _ => b = "list"
  | .tuple _ => b = "tuple"
  | .dict _ => b = "dict"
section
variable {O : List Ob} {x : PyData}
@[simp] theorem isi_int : uIsi [.d x, .v (.ty "int")] O = some (.d (.bool (isiD x "int")), O) := by cases x <;> first | exact uIsi_d rfl kt_int_int | exact uIsi_d rfl kt_bool_int | exact uIsi_d rfl kt_str_int | exact uIsi_d rfl kt_none_int | exact uIsi_d rfl kt_list_int | exact uIsi_d rfl kt_tuple_int | exact uIsi_d rfl kt_dict_int
@[simp] theorem isi_bool : uIsi [.d x, .v (.ty "bool")] O = some (.d (.bool (isiD x "bool")), O) := by cases x <;> first | exact uIsi_d rfl kt_int_bool | exact uIsi_d rfl kt_bool_bool | exact uIsi_d rfl kt_str_bool | exact uIsi_d rfl kt_none_bool | exact uIsi_d rfl kt_list_bool | exact uIsi_d rfl kt_tuple_bool | exact uIsi_d rfl kt_dict_bool
@[simp] theorem isi_str : uIsi [.d x, .v (.ty "str")] O = some (.d (.bool (isiD x "str")), O) := by cases x <;> first | exact uIsi_d rfl kt_int_str | exact uIsi_d rfl kt_bool_str | exact uIsi_d rfl kt_str_str | exact uIsi_d rfl kt_none_str | exact uIsi_d rfl kt_list_str | exact uIsi_d rfl kt_tuple_str | exact uIsi_d rfl kt_dict_str
@[simp] theorem isi_list : uIsi [.d x, .v (.ty "list")] O = some (.d (.bool (isiD x "list")), O) := by cases x <;> first | exact uIsi_d rfl kt_int_list | exact uIsi_d rfl kt_bool_list | exact uIsi_d rfl kt_str_list | exact uIsi_d rfl kt_none_list | exact uIsi_d rfl kt_list_list | exact uIsi_d rfl kt_tuple_list | exact uIsi_d rfl kt_dict_list
@[simp] theorem isi_tuple : uIsi [.d x, .v (.ty "tuple")] O = some (.d (.bool (isiD x "tuple")), O) := by cases x <;> first | exact uIsi_d rfl kt_int_tuple | exact uIsi_d rfl kt_bool_tuple | exact uIsi_d rfl kt_str_tuple | exact uIsi_d rfl kt_none_tuple | exact uIsi_d rfl kt_list_tuple | exact uIsi_d rfl kt_tuple_tuple | exact uIsi_d rfl kt_dict_tuple
@[simp] theorem isi_dict : uIsi [.d x, .v (.ty "dict")] O = some (.d (.bool (isiD x "dict")), O) := by cases x <;> first | exact uIsi_d rfl kt_int_dict | exact uIsi_d rfl kt_bool_dict | exact uIsi_d rfl kt_str_dict | exact uIsi_d rfl kt_none_dict | exact uIsi_d rfl kt_list_dict | exact uIsi_d rfl kt_tuple_dict | exact uIsi_d rfl kt_dict_dict
end
/-! ### the end of a def -/
section
variable {O X : List Ob} {x : PyData}
@[simp] theorem fin_d : finW O (.d x) O = .ok (.d x) O := by
  unfold finW; rw [rsW_d]; dsimp only; rw [if_pos (OkTake.refl O), List.take_length]
@[simp] theorem fin_app : finW O (.d x) (O ++ X) = .ok (.d x) O := by
  unfold finW; rw [rsW_d]; dsimp only; rw [if_pos (OkTake.app O X), List.take_left' rfl]
theorem fin_set {k : Nat} {ob : Ob} (h : ScO O.length ob) : finW O (.d x) (O.set k ob) = .ok (.d x) (O.set k ob) := by
  unfold finW; rw [rsW_d]; dsimp only; rw [if_pos ((OkTake.refl O).set h), List.take_of_length_le (by rw [List.length_set]; exact Nat.le_refl _)]
theorem OkTake.setapp {k : Nat} {ob : Ob} (h : ScO O.length ob) : OkTake O (O.set k ob ++ X) := fun j o hj e => by
  rw [List.getElem?_append_left (by rw [List.length_set]; exact hj)] at e
  exact (OkTake.refl O).set h j o hj e
theorem fin_setapp {k : Nat} {ob : Ob} (h : ScO O.length ob) : finW O (.d x) (O.set k ob ++ X) = .ok (.d x) (O.set k ob) := by
  unfold finW; rw [rsW_d]; dsimp only; rw [if_pos (OkTake.setapp h), List.take_left' (by rw [List.length_set])]
@[simp] theorem finX_d {y : Xc} : finX O y O = .ex y O := by
  unfold finX; rw [if_pos (OkTake.refl O), List.take_length]
@[simp] theorem finX_app {y : Xc} : finX O y (O ++ X) = .ex y O := by
  unfold finX; rw [if_pos (OkTake.app O X), List.take_left' rfl]
/-- what is given is a list of the def's own -/
theorem fin_lst {ws : List W} {xs : List PyData} {O1 : List Ob} {k : Nat} (hk : O.length ≤ k) (e : O1[k]? = some (.lst ws)) (hm : mapO (rsW O.length O1 7) ws = some xs) (ok : OkTake O O1) : finW O (.o k) O1 = .ok (.d (.list xs)) (O1.take O.length) := by
  unfold finW; rw [rsW_o hk e, hm]; dsimp only [Option.map]; rw [if_pos ok]
end
end UZ
/-! fractions: pairs told by Lean's own Rat. -/
namespace UZ
open PySem PySem.W L2

instance : Datum Rat where
  toD q := .tuple [.int q.num, .int q.den]
  plain q := rfl
  eqv a b := by
    have h : PyData.eqv (.tuple [.int a.num, .int a.den]) (.tuple [.int b.num, .int b.den]) = ((a.num == b.num) && (((a.den : Int) == b.den) && true)) := rfl
    rw [h, Bool.and_true, Bool.eq_iff_iff]
    simp only [Bool.and_eq_true, beq_iff_eq, decide_eq_true_eq]
    refine ⟨fun h => Rat.ext h.1 (by exact_mod_cast h.2), fun h => by subst h; exact ⟨rfl, rfl⟩⟩
  depth := 2
  depth_le q := Nat.le_of_ble_eq_true rfl
abbrev dR (q : Rat) : PyData := .tuple [.int q.num, .int q.den]
theorem toD_rat (q : Rat) : (Datum.toD q : PyData) = dR q := rfl
/-- a fraction's size: numerator and denominator below 2 ^ n -/
def sz (q : Rat) (n : Nat) : Prop := q.num.natAbs < 2 ^ n ∧ q.den < 2 ^ n
theorem sz.mono {q : Rat} {n m : Nat} (h : sz q n) (hl : n ≤ m) : sz q m := ⟨Nat.lt_of_lt_of_le h.1 (Nat.pow_le_pow_right (by decide) hl), Nat.lt_of_lt_of_le h.2 (Nat.pow_le_pow_right (by decide) hl)⟩
theorem log2_lt {n k : Nat} (h : n < 2 ^ k) (hk : 0 < k) : n.log2 < k := by
  by_cases h0 : n = 0
  · subst h0; rw [Nat.log2_zero]; exact hk
  · exact (Nat.log2_lt h0).mpr h
theorem mulOk {i j : Int} {a b : Nat} (hi : i.natAbs < 2 ^ a) (hj : j.natAbs < 2 ^ b) (h : a + b ≤ 50000000) : MulOk i j := by
  have h1 := log2_lt (k := a + 1) (Nat.lt_of_lt_of_le hi (Nat.pow_le_pow_right (by decide) (Nat.le_succ a))) (Nat.succ_pos a)
  have h2 := log2_lt (k := b + 1) (Nat.lt_of_lt_of_le hj (Nat.pow_le_pow_right (by decide) (Nat.le_succ b))) (Nat.succ_pos b)
  exact .inr (.inr (by omega))
theorem natAbs_mul_lt {i j : Int} {a b : Nat} (hi : i.natAbs < 2 ^ a) (hj : j.natAbs < 2 ^ b) : (i * j).natAbs < 2 ^ (a + b) := by
  rw [Int.natAbs_mul, Nat.pow_add]
  exact Nat.mul_lt_mul'' hi hj
theorem natAbs_add_lt {i j : Int} {a : Nat} (hi : i.natAbs < 2 ^ a) (hj : j.natAbs < 2 ^ a) : (i + j).natAbs < 2 ^ (a + 1) := by
  rw [Nat.pow_succ]; omega
theorem natAbs_sub_lt {i j : Int} {a : Nat} (hi : i.natAbs < 2 ^ a) (hj : j.natAbs < 2 ^ a) : (i - j).natAbs < 2 ^ (a + 1) := by
  rw [Nat.pow_succ]; omega
theorem divInt_num_le (a b : Int) : (Rat.divInt a b).num.natAbs ≤ a.natAbs := by
  rw [Rat.num_divInt, Int.natAbs_ediv_of_dvd]
  · rw [Int.natAbs_mul, Int.natAbs_sign]
    split
    · simp
    · rw [Nat.one_mul]; exact Nat.div_le_self _ _
  · exact Int.dvd_trans (Int.gcd_dvd_right b a) ⟨b.sign, by rw [Int.mul_comm]⟩
theorem divInt_den_le (a : Int) {b : Int} (hb : b ≠ 0) : (Rat.divInt a b).den ≤ b.natAbs := by
  rw [Rat.den_divInt, if_neg hb]
  exact Nat.div_le_self _ _
theorem sz_divInt {a b : Int} {n : Nat} (ha : a.natAbs < 2 ^ n) (hb : b.natAbs < 2 ^ n) (h0 : b ≠ 0) : sz (Rat.divInt a b) n := ⟨Nat.lt_of_le_of_lt (divInt_num_le a b) ha, Nat.lt_of_le_of_lt (divInt_den_le a h0) hb⟩
theorem den_ne (q : Rat) : (q.den : Int) ≠ 0 := by have := q.den_nz; omega
theorem mkRat_divInt (n : Int) (d : Nat) : mkRat n d = Rat.divInt n d := (Rat.divInt_ofNat n d).symm
theorem add_divInt (a b : Rat) : Rat.divInt (a.num * b.den + b.num * a.den) (a.den * b.den) = a + b := by
  rw [Rat.add_def', mkRat_divInt]; simp
theorem sub_divInt (a b : Rat) : Rat.divInt (a.num * b.den - b.num * a.den) (a.den * b.den) = a - b := by
  rw [Rat.sub_def', mkRat_divInt]; simp
theorem mul_divInt (a b : Rat) : Rat.divInt (a.num * b.num) (a.den * b.den) = a * b := by
  rw [Rat.mul_def', mkRat_divInt]; simp
theorem div_divInt (a b : Rat) : Rat.divInt (a.num * b.den) (a.den * b.num) = a / b := by
  rw [Rat.div_def, Rat.inv_def]
  conv => rhs; rw [← Rat.num_divInt_den a]
  rw [Rat.divInt_mul_divInt]
theorem nabs_cast (n : Nat) : ((n : Int)).natAbs = n := rfl
theorem sz_add {a b : Rat} {n m : Nat} (ha : sz a n) (hb : sz b m) : sz (a + b) (n + m + 1) := by
  rw [← add_divInt]
  refine sz_divInt (natAbs_add_lt (natAbs_mul_lt ha.1 hb.2) ?_) ?_ (Int.mul_ne_zero (den_ne a) (den_ne b))
  · rw [Nat.add_comm]; exact natAbs_mul_lt hb.1 ha.2
  · exact Nat.lt_of_lt_of_le (natAbs_mul_lt ha.2 hb.2) (Nat.pow_le_pow_right (by decide) (Nat.le_succ _))
theorem sz_sub {a b : Rat} {n m : Nat} (ha : sz a n) (hb : sz b m) : sz (a - b) (n + m + 1) := by
  rw [← sub_divInt]
  refine sz_divInt (natAbs_sub_lt (natAbs_mul_lt ha.1 hb.2) ?_) ?_ (Int.mul_ne_zero (den_ne a) (den_ne b))
  · rw [Nat.add_comm]; exact natAbs_mul_lt hb.1 ha.2
  · exact Nat.lt_of_lt_of_le (natAbs_mul_lt ha.2 hb.2) (Nat.pow_le_pow_right (by decide) (Nat.le_succ _))
theorem sz_mul {a b : Rat} {n m : Nat} (ha : sz a n) (hb : sz b m) : sz (a * b) (n + m) := by
  rw [← mul_divInt]
  exact sz_divInt (natAbs_mul_lt ha.1 hb.1) (natAbs_mul_lt ha.2 hb.2) (Int.mul_ne_zero (den_ne a) (den_ne b))
theorem sz_neg {a : Rat} {n : Nat} (ha : sz a n) : sz (-a) n := ⟨by rw [Rat.neg_num, Int.natAbs_neg]; exact ha.1, ha.2⟩
theorem num_ne {b : Rat} (h : b ≠ 0) : b.num ≠ 0 := fun z => h (Rat.num_eq_zero.mp z)
theorem sz_div {a b : Rat} {n m : Nat} (ha : sz a n) (hb : sz b m) (h : b ≠ 0) : sz (a / b) (n + m) := by
  rw [← div_divInt]
  exact sz_divInt (natAbs_mul_lt ha.1 hb.2) (natAbs_mul_lt ha.2 hb.1) (Int.mul_ne_zero (den_ne a) (num_ne h))
theorem sz_int {i : Int} {n : Nat} (h : i.natAbs < 2 ^ n) (hn : 0 < n) : sz (i : Rat) n := ⟨h, by
  show 1 < 2 ^ n
  exact Nat.one_lt_two_pow (by omega)⟩
theorem sz_0 {n : Nat} (hn : 0 < n) : sz 0 n := ⟨by show 0 < 2 ^ n; exact Nat.two_pow_pos n, Nat.one_lt_two_pow (by omega)⟩
theorem sz_1 {n : Nat} (hn : 0 < n) : sz 1 n := ⟨by show 1 < 2 ^ n; exact Nat.one_lt_two_pow (by omega), Nat.one_lt_two_pow (by omega)⟩
/-- a division by the greatest common divisor -/
theorem ratio_num (n d : Int) (hd : d ≠ 0) : n.fdiv (if d < 0 then -(Int.gcd n d : Int) else (Int.gcd n d : Int)) = (Rat.divInt n d).num := by
  have hg : (Int.gcd n d : Int) ∣ n := Int.gcd_dvd_left n d
  have hg0 : (Int.gcd n d : Int) ≠ 0 := by
    have := Int.gcd_pos_of_ne_zero_right n hd
    omega
  rw [Rat.num_divInt, Int.gcd_comm d n]
  obtain ⟨k, hk⟩ := hg
  by_cases h : d < 0
  · rw [if_pos h, Int.sign_eq_neg_one_of_neg h]
    generalize (Int.gcd n d : Int) = g at *
    subst hk
    rw [show g * k = (-g) * (-k) by rw [Int.neg_mul_neg], Int.mul_fdiv_cancel_left _ (by omega), show -1 * (-g * -k) = g * -k by rw [Int.neg_mul_neg, Int.mul_neg]; omega, Int.mul_ediv_cancel_left _ hg0]
  · rw [if_neg h, Int.sign_eq_one_of_pos (by omega)]
    generalize (Int.gcd n d : Int) = g at *
    subst hk
    rw [Int.mul_fdiv_cancel_left _ hg0, Int.one_mul, Int.mul_ediv_cancel_left _ hg0]
theorem ratio_den (n d : Int) (hd : d ≠ 0) : d.fdiv (if d < 0 then -(Int.gcd n d : Int) else (Int.gcd n d : Int)) = (Rat.divInt n d).den := by
  have hg : (Int.gcd n d : Int) ∣ d := Int.gcd_dvd_right n d
  have hg0 : (Int.gcd n d : Int) ≠ 0 := by
    have := Int.gcd_pos_of_ne_zero_right n hd
    omega
  rw [Rat.den_divInt, if_neg hd, Int.gcd_comm d n, Int.natCast_ediv]
  obtain ⟨k, hk⟩ := hg
  by_cases h : d < 0
  · rw [if_pos h]
    have : ((d.natAbs : Nat) : Int) = -d := by omega
    rw [this]
    generalize (Int.gcd n d : Int) = g at *
    subst hk
    rw [show g * k = (-g) * (-k) by rw [Int.neg_mul_neg], Int.mul_fdiv_cancel_left _ (by omega), show -(-g * -k) = g * -k by rw [Int.neg_mul_neg, Int.mul_neg], Int.mul_ediv_cancel_left _ hg0]
  · rw [if_neg h]
    have : ((d.natAbs : Nat) : Int) = d := by omega
    rw [this]
    generalize (Int.gcd n d : Int) = g at *
    subst hk
    rw [Int.mul_fdiv_cancel_left _ hg0, Int.mul_ediv_cancel_left _ hg0]
theorem gcd_divOk {n d : Int} (hd : d ≠ 0) (hl : d.natAbs < 2 ^ 9000) : DivOk (if d < 0 then -(Int.gcd n d : Int) else (Int.gcd n d : Int)) := by
  have hg0 := Int.gcd_pos_of_ne_zero_right n hd
  have hle : Int.gcd n d ≤ d.natAbs := Nat.le_of_dvd (by omega) (Int.ofNat_dvd_left.mp (Int.gcd_dvd_right n d))
  have hlog := log2_lt (Nat.lt_of_le_of_lt hle hl) (by decide)
  unfold DivOk
  split
  · refine ⟨by omega, ?_⟩
    rw [Int.natAbs_neg]; exact hlog
  · exact ⟨by omega, hlog⟩
end UZ
/-! V, part L: loops, comprehensions, draws from the state. -/
namespace UZ
open PySem PySem.W L2
section
variable {g : VG} {b : VS} {chk : Chk} {Γ : Gm} {O : List Ob}
theorem forV_nil (h : chkOf chk O) : forV g b chk [] Γ O = .nx Γ O := if_pos h
theorem forV_cons {w : W} {ws : List W} (h : chkOf chk O) : forV g b chk (w :: ws) Γ O = match g w Γ O with
    | some (Γ1, O1) => (b Γ1 O1).turn (forV g b chk ws)
    | none => .bad := if_pos h
@[simp] theorem forV_nil0 : forV g b [] [] Γ O = .nx Γ O := if_pos (chkOf_nil.mpr trivial)
@[simp] theorem forV_cons0 {w : W} {ws : List W} : forV g b [] (w :: ws) Γ O = match g w Γ O with
    | some (Γ1, O1) => (b Γ1 O1).turn (forV g b [] ws)
    | none => .bad := if_pos (chkOf_nil.mpr trivial)
def stepV (g : VG) (b : VS) (w : W) (Γ : Gm) (O : List Ob) : SR := match g w Γ O with
  | some (Γ1, O1) => b Γ1 O1
  | none => .bad
theorem forV_step {w : W} {ws : List W} (h : chkOf chk O) : forV g b chk (w :: ws) Γ O = (stepV g b w Γ O).turn (forV g b chk ws) := by
  rw [forV_cons h]
  unfold stepV
  split <;> rfl
/-- a loop that goes through: what is held is folded -/
theorem forV_fold {σ α : Type} (f : α → W) (st : σ → Gm) (ob : σ → List Ob) (step : σ → α → σ) (I : σ → Prop) (hc : ∀ s, I s → chkOf chk (ob s)) : ∀ (l : List α) (s : σ), I s →
    (∀ s x, x ∈ l → I s → I (step s x) ∧ (stepV g b (f x) (st s) (ob s) = .nx (st (step s x)) (ob (step s x)) ∨ stepV g b (f x) (st s) (ob s) = .ct (st (step s x)) (ob (step s x)))) →
    forV g b chk (l.map f) (st s) (ob s) = .nx (st (l.foldl step s)) (ob (l.foldl step s)) ∧ I (l.foldl step s)
  | [], s, hs, _ => ⟨forV_nil (hc s hs), hs⟩
  | x :: l, s, hs, h => by
    rw [List.map_cons, forV_step (hc s hs)]
    obtain ⟨h1, h2⟩ := h s x (List.mem_cons_self ..) hs
    have ih := forV_fold f st ob step I hc l (step s x) h1 fun s y hy => h s y (List.mem_cons_of_mem _ hy)
    rcases h2 with h2 | h2 <;> (rw [h2]; exact ih)
/-- the same, with the number of turns told -/
theorem forV_foldI {σ α : Type} (f : α → W) (st : σ → Gm) (ob : σ → List Ob) (step : σ → α → σ) (I : Nat → σ → Prop) (hc : ∀ t s, I t s → chkOf chk (ob s)) : ∀ (l : List α) (t : Nat) (s : σ), I t s →
    (∀ i s x, l[i]? = some x → I (t + i) s → I (t + i + 1) (step s x) ∧ (stepV g b (f x) (st s) (ob s) = .nx (st (step s x)) (ob (step s x)) ∨ stepV g b (f x) (st s) (ob s) = .ct (st (step s x)) (ob (step s x)))) →
    forV g b chk (l.map f) (st s) (ob s) = .nx (st (l.foldl step s)) (ob (l.foldl step s)) ∧ I (t + l.length) (l.foldl step s)
  | [], t, s, hs, _ => ⟨forV_nil (hc t s hs), hs⟩
  | x :: l, t, s, hs, h => by
    rw [List.map_cons, forV_step (hc t s hs)]
    obtain ⟨h1, h2⟩ := h 0 s x rfl hs
    have ih := forV_foldI f st ob step I hc l (t + 1) (step s x) h1 fun i s y hy hI => by
      have := h (i + 1) s y (by simpa using hy) (by rwa [show t + (i + 1) = t + 1 + i by omega])
      rwa [show t + (i + 1) + 1 = t + 1 + i + 1 by omega] at this
    rw [show t + (x :: l).length = t + 1 + l.length by rw [List.length_cons]; omega]
    rcases h2 with h2 | h2 <;> (rw [h2]; exact ih)
/-- a loop that looks for the first bad one -/
theorem forV_all {α : Type} (f : α → W) (p : α → Bool) (r : SR) (hr : ∀ v : VS, r.turn v = r) (hc : chkOf chk O) : ∀ (l : List α), (∀ x ∈ l, stepV g b (f x) Γ O = if p x then .nx Γ O else r) → forV g b chk (l.map f) Γ O = if l.all p then .nx Γ O else r
  | [], _ => forV_nil hc
  | x :: l, h => by
    rw [List.map_cons, forV_step hc, h x (List.mem_cons_self ..), List.all_cons]
    cases p x
    · exact hr _
    · exact forV_all f p r hr hc l fun y hy => h y (List.mem_cons_of_mem _ hy)
/-- a loop with what holds of each turn: no numbers told -/
theorem forV_inv {α : Type} (f : α → W) (J : Gm → List Ob → Prop) (hc : ∀ Γ O, J Γ O → chkOf chk O) : ∀ (l : List α) (Γ : Gm) (O : List Ob), J Γ O →
    (∀ Γ O x, x ∈ l → J Γ O → ∃ Γ' O', (stepV g b (f x) Γ O = .nx Γ' O' ∨ stepV g b (f x) Γ O = .ct Γ' O') ∧ J Γ' O') → ∃ Γ' O', forV g b chk (l.map f) Γ O = .nx Γ' O' ∧ J Γ' O'
  | [], Γ, O, j, _ => ⟨Γ, O, forV_nil (hc _ _ j), j⟩
  | x :: l, Γ, O, j, h => by
    rw [List.map_cons, forV_step (hc _ _ j)]
    obtain ⟨Γ', O', e, j'⟩ := h Γ O x (List.mem_cons_self ..) j
    obtain ⟨Γ2, O2, e2, j2⟩ := forV_inv f J hc l Γ' O' j' fun Γ O y hy => h Γ O y (List.mem_cons_of_mem _ hy)
    refine ⟨Γ2, O2, ?_, j2⟩
    rcases e with e | e <;> (rw [e]; exact e2)
end
/-! ### comprehensions -/
section
variable {chk : Chk} {f : W → List Ob → R (Option W)} {O : List Ob}
theorem lcV_nil (h : chkOf chk O) : lcV chk f [] O = .ok [] O := if_pos h
theorem lcV_cons {w : W} {ws : List W} (h : chkOf chk O) : lcV chk f (w :: ws) O = (f w O).bind fun o O1 => (lcV chk f ws O1).bind fun r O2 => .ok (match o with | some y => y :: r | none => r) O2 := if_pos h
@[simp] theorem lcV_nil0 : lcV [] f [] O = .ok [] O := if_pos (chkOf_nil.mpr trivial)
@[simp] theorem lcV_cons0 {w : W} {ws : List W} : lcV [] f (w :: ws) O = (f w O).bind fun o O1 => (lcV [] f ws O1).bind fun r O2 => .ok (match o with | some y => y :: r | none => r) O2 := if_pos (chkOf_nil.mpr trivial)
/-- each gives one, the objects stay -/
theorem lcV_map {α : Type} (g h : α → W) (hc : chkOf chk O) : ∀ l : List α, (∀ x ∈ l, f (g x) O = .ok (some (h x)) O) → lcV chk f (l.map g) O = .ok (l.map h) O
  | [], _ => lcV_nil hc
  | x :: l, e => by
    rw [List.map_cons, lcV_cons hc, e x (List.mem_cons_self ..), R.bind_ok, lcV_map g h hc l fun y hy => e y (List.mem_cons_of_mem _ hy)]
    rfl
theorem lcV_filter {α : Type} (g h : α → W) (p : α → Bool) (hc : chkOf chk O) : ∀ l : List α, (∀ x ∈ l, f (g x) O = .ok (if p x then some (h x) else none) O) → lcV chk f (l.map g) O = .ok ((l.filter p).map h) O
  | [], _ => lcV_nil hc
  | x :: l, e => by
    rw [List.map_cons, lcV_cons hc, e x (List.mem_cons_self ..), R.bind_ok, lcV_filter g h p hc l fun y hy => e y (List.mem_cons_of_mem _ hy), List.filter_cons]
    cases p x <;> rfl
/-- each gives one and the objects go on: what each gives is told by P, the objects by J -/
theorem lcV_ex {α β : Type} (g : α → W) (h : β → W) (J : List Ob → Prop) (P : β → Prop) (hc : ∀ O, J O → chkOf chk O) : ∀ (l : List α) (O : List Ob), J O →
    (∀ O x, x ∈ l → J O → ∃ y O', f (g x) O = .ok (some (h y)) O' ∧ P y ∧ J O') → ∃ (ys : List β) (O' : List Ob), lcV chk f (l.map g) O = .ok (ys.map h) O' ∧ ys.length = l.length ∧ (∀ y ∈ ys, P y) ∧ J O'
  | [], O, j, _ => ⟨[], O, lcV_nil (hc _ j), rfl, (fun _ h => by cases h), j⟩
  | x :: l, O, j, e => by
    obtain ⟨y, O1, e1, p1, j1⟩ := e O x (List.mem_cons_self ..) j
    obtain ⟨ys, O2, e2, l2, p2, j2⟩ := lcV_ex g h J P hc l O1 j1 fun O z hz => e O z (List.mem_cons_of_mem _ hz)
    refine ⟨y :: ys, O2, ?_, by simp [l2], fun z hz => ?_, j2⟩
    · rw [List.map_cons, lcV_cons (hc _ j), e1, R.bind_ok, e2, R.bind_ok]
      rfl
    · rcases List.mem_cons.mp hz with rfl | hz
      · exact p1
      · exact p2 z hz
end
/-! ### whole comprehensions -/
section
variable {α : Type} {it : VI} {g : Tg} {tt : VT} {te : VE} {us : List Nat} {Γ : Gm} {O O1 : List Ob} {chk : Chk}
theorem lc_map (l : List α) (f : α → W) (h : α → PyData) (hi : it Γ O = .ok (l.map f, chk) O1) (hc : chkOf chk O1) (hl : l.length ≤ 16777216)
    (e : ∀ x ∈ l, lcF g tt te (wipeD Γ us) (f x) O1 = .ok (some (.d (h x))) O1) : vLc it g tt te us Γ O = .ok (.d (.list (l.map h))) O1 := by
  show vLcM mkL it g tt te us Γ O = _
  rw [e_LcM, hi, R.bind_ok]
  dsimp only
  rw [lcV_map f (fun x => .d (h x)) hc l e]
  show (if (l.map fun x => W.d (h x)).length ≤ sizeLine then R.ok (mkL (l.map fun x => W.d (h x)) O1).1 (mkL (l.map fun x => W.d (h x)) O1).2 else .bad) = _
  rw [if_pos (by rw [List.length_map, sizeLine_val]; exact hl), mkL_f]
theorem lc_filter (l : List α) (f : α → W) (h : α → PyData) (p : α → Bool) (hi : it Γ O = .ok (l.map f, chk) O1) (hc : chkOf chk O1) (hl : l.length ≤ 16777216)
    (e : ∀ x ∈ l, lcF g tt te (wipeD Γ us) (f x) O1 = .ok (if p x then some (.d (h x)) else none) O1) : vLc it g tt te us Γ O = .ok (.d (.list ((l.filter p).map h))) O1 := by
  show vLcM mkL it g tt te us Γ O = _
  rw [e_LcM, hi, R.bind_ok]
  dsimp only
  rw [lcV_filter f (fun x => .d (h x)) p hc l e]
  show (if ((l.filter p).map fun x => W.d (h x)).length ≤ sizeLine then R.ok (mkL ((l.filter p).map fun x => W.d (h x)) O1).1 (mkL ((l.filter p).map fun x => W.d (h x)) O1).2 else .bad) = _
  rw [if_pos (by rw [List.length_map, sizeLine_val]; exact Nat.le_trans (List.length_filter_le _ _) hl), mkL_f]
theorem lc_ex {β : Type} (l : List α) (f : α → W) (h : β → PyData) (J : List Ob → Prop) (P : β → Prop) (hi : it Γ O = .ok (l.map f, chk) O1) (hc : ∀ O, J O → chkOf chk O) (hj : J O1) (hl : l.length ≤ 16777216)
    (e : ∀ O x, x ∈ l → J O → ∃ y O', lcF g tt te (wipeD Γ us) (f x) O = .ok (some (.d (h y))) O' ∧ P y ∧ J O') : ∃ (ys : List β) (O' : List Ob), vLc it g tt te us Γ O = .ok (.d (.list (ys.map h))) O' ∧ ys.length = l.length ∧ (∀ y ∈ ys, P y) ∧ J O' := by
  obtain ⟨ys, O', e1, e2, e3, e4⟩ := lcV_ex f (fun y => W.d (h y)) J P hc l O1 hj e
  refine ⟨ys, O', ?_, e2, e3, e4⟩
  show vLcM mkL it g tt te us Γ O = _
  rw [e_LcM, hi, R.bind_ok]
  dsimp only
  rw [e1]
  show (if (ys.map fun x => W.d (h x)).length ≤ sizeLine then R.ok (mkL (ys.map fun x => W.d (h x)) O').1 (mkL (ys.map fun x => W.d (h x)) O').2 else .bad) = _
  rw [if_pos (by rw [List.length_map, sizeLine_val, e2]; exact hl), mkL_f]
end
theorem zipW_map {α β : Type} (f : α → W) (g : β → W) : ∀ (l : List α) (m : List β), zipW (l.map f) (m.map g) = (l.zip m).map fun p => mkT [f p.1, g p.2]
  | [], _ => by simp [zipW]
  | _ :: _, [] => by simp [zipW]
  | a :: l, b :: m => by
    rw [List.map_cons, List.map_cons, List.zip_cons_cons, List.map_cons, ← zipW_map f g l m]
    rfl
@[simp] theorem wkL_l {O : List Ob} {xs : List PyData} : wkL O (.d (.list xs)) = some (xs.map .d, []) := rfl
open Classical in
theorem uMul_l {O : List Ob} {xs : List PyData} {n : Int} (h1 : smT n) (h2 : xs.length * n.toNat ≤ 16777216) : uMul (.d (.list xs)) (.d (.int n)) O = some (.d (.list (List.replicate n.toNat xs).flatten), O) := by
  show (if smT n ∧ (xs.map W.d).length * n.toNat ≤ sizeLine then some (mkL (List.replicate n.toNat (xs.map W.d)).flatten O) else none) = _
  rw [if_pos ⟨h1, by rw [sizeLine_val, List.length_map]; exact h2⟩]
  rw [show (List.replicate n.toNat (xs.map W.d)).flatten = ((List.replicate n.toNat xs).flatten).map W.d by rw [List.map_flatten, List.map_replicate], mkL_m]
theorem rng_map (lo : Int) (n : Nat) : rng lo n = (List.range n).map fun (i : Nat) => W.d (.int (lo + (i : Int))) := rfl
/-! ### the state that is drawn from: the first own object -/
abbrev stO (v : Int) (T : List Ob) : List Ob := .lst [.d (.int v)] :: T
section
variable {v v' : Int} {T X : List Ob} {x : PyData}
theorem okTake_st : OkTake (stO v T) (stO v' (T ++ X)) := fun k ob hk e => by
  cases k with
  | zero => cases e; exact .inr (.cons .d .nil)
  | succ k => exact .inl (by
      rw [List.getElem?_cons_succ] at e ⊢
      rwa [List.getElem?_append_left (by simpa using hk)] at e)
@[simp] theorem fin_stX : finW (stO v T) (.d x) (stO v' (T ++ X)) = .ok (.d x) (stO v' T) := by
  unfold finW; rw [rsW_d]; dsimp only; rw [if_pos okTake_st]
  simp [stO]
@[simp] theorem fin_st : finW (stO v T) (.d x) (stO v' T) = .ok (.d x) (stO v' T) := by
  have := fin_stX (v := v) (v' := v') (T := T) (X := []) (x := x)
  rwa [List.append_nil] at this
@[simp] theorem kSet_st {w : W} : kSet (.o 0) (.d (.int 0)) w (stO v T) = some (.lst [w] :: T) := rfl
@[simp] theorem uIx_st : uIx (.o 0) (.d (.int 0)) (stO v T) = some (.d (.int v), stO v T) := uIx_o (n := 0) (e := rfl) rfl
end
section
variable {O : List Ob}
@[simp] theorem wk_t {xs : List PyData} : wk O (.d (.tuple xs)) = some (xs.map .d, []) := rfl
@[simp] theorem wk_l {xs : List PyData} : wk O (.d (.list xs)) = some (xs.map .d, []) := rfl
@[simp] theorem wk_rl {xs : List PyData} : wk O (.rl xs) = some (xs.map .d, []) := rfl
@[simp] theorem wk_tp {xs : List W} : wk O (.tp xs) = some (xs, []) := rfl
theorem wk_o {k : Nat} {ws : List W} (h : O[k]? = some (.lst ws)) : wk O (.o k) = some (ws, [(k, ws)]) := by
  show (match O[k]? with | some (.lst ws) => some (ws, [(k, ws)]) | _ => none) = _
  rw [h]
@[simp] theorem chkOf_cons {k : Nat} {ws : List W} {l : Chk} : chkOf ((k, ws) :: l) O ↔ O[k]? = some (.lst ws) ∧ chkOf l O := by
  constructor
  · exact fun h => ⟨h _ (List.mem_cons_self ..), fun p hp => h p (List.mem_cons_of_mem _ hp)⟩
  · rintro ⟨h1, h2⟩ p hp
    rcases List.mem_cons.mp hp with rfl | hp
    · exact h1
    · exact h2 p hp
end
/-! ### values with a type -/
section
variable {O : List Ob} {α : Type} [DecidableEq α] [Datum α]
theorem okB_D (h : Datum.depth α ≤ 50) (a : α) : okB (Datum.toD a) = true := okB_iff.mpr ⟨Datum.plain a, Nat.le_trans (Datum.depth_le a) h⟩
theorem eqD_D (h : Datum.depth α ≤ 50) (a b : α) : eqD (Datum.toD a) (Datum.toD b) = some (decide (a = b)) := by
  unfold eqD
  split
  · rename_i r e
    rw [← (okD_scal e).2.2, Datum.eqv]
  · rw [okB_D h a, okB_D h b, Datum.eqv]; rfl
theorem uEq_D {neg : Bool} (h : Datum.depth α ≤ 50) (a b : α) : uEqN neg (.d (Datum.toD a)) (.d (Datum.toD b)) O = some (.d (.bool (if neg then !decide (a = b) else decide (a = b))), O) := uEqN_d (eqD_D h a b)
theorem any_D (a : α) : ∀ l : List α, ((l.map Datum.toD).any fun z => PyData.eqv z (Datum.toD a)) = decide (a ∈ l)
  | [] => by simp
  | b :: l => by
    rw [List.map_cons, List.any_cons, any_D a l, Datum.eqv, Bool.eq_iff_iff, Bool.or_eq_true, decide_eq_true_eq, decide_eq_true_eq, decide_eq_true_eq, List.mem_cons]
    exact ⟨fun h => h.imp Eq.symm id, fun h => h.imp Eq.symm id⟩
theorem rsW_dd {n : Nat} {x : PyData} : rsW 0 O (n + 1) (.d x) = some x := rsW_d
theorem uIn_D {neg : Bool} (h : Datum.depth α ≤ 49) (a : α) (l : List α) (hs : ∀ i : Str, Datum.toD a ≠ .str i) : uInN neg (.d (Datum.toD a)) (.d (.list (l.map Datum.toD))) O = some (.d (.bool (if neg then !decide (a ∈ l) else decide (a ∈ l))), O) := by
  have h1 := okB_D (Nat.le_succ_of_le h) a
  have h2 : okB (.list (l.map Datum.toD)) = true := okB_D (α := List α) (Nat.succ_le_succ h) l
  unfold uInN
  split
  · rename_i e1 e2
    cases e2
  · rw [rsW_dd, rsW_dd]
    dsimp only
    rw [h1, h2, any_D]
    rfl
end
section
variable {O : List Ob}
@[simp] theorem mkL_xv {x : Str} {fs : List (Str × PyData)} {ws : List W} : mkL (.xv x fs :: ws) O = (.o O.length, O ++ [.lst (.xv x fs :: ws)]) := rfl
/-! own lists, the objects told one by one -/
theorem lvS_ow {k : Nat} : lvS O (.o k) = match O[k]? with | some (.lst ws) => some ws | _ => none := rfl
theorem wk_ow {k : Nat} : wk O (.o k) = match O[k]? with | some (.lst ws) => some (ws, [(k, ws)]) | _ => none := rfl
theorem uAdd_ow {mk : List W → List Ob → W × List Ob} {k j : Nat} {xs ys : List W} (h1 : O[k]? = some (.lst xs)) (h2 : O[j]? = some (.lst ys)) (hl : xs.length + ys.length ≤ sizeLine) : uAddM mk (.o k) (.o j) O = some (mk (xs ++ ys) O) := by
  show (match lvS O (.o k), lvS O (.o j) with | some xs, some ys => if xs.length + ys.length ≤ sizeLine then some (mk (xs ++ ys) O) else none | _, _ => none) = _
  rw [lvS_ow, lvS_ow, h1, h2]
  exact if_pos hl
end
theorem mulL {i : Int} (h : i.natAbs.log2 < 64) (j : Int) : MulOk i j := .inl h
theorem mulR {j : Int} (h : j.natAbs.log2 < 64) (i : Int) : MulOk i j := .inr (.inl h)
end UZ
/-! numbers: what the defs of fractions answer. -/
namespace UZ
open PySem PySem.W L2
@[simp] def N_divisor : List Str := ["one", "two"]
noncomputable def t_divisor : VS :=
  (vSeq (vPar 0 1 (vCons (vCB uAbs (vCons (vV 0) vNil)) (vCons (vCB uAbs (vCons (vV 1) vNil)) vNil)))
    (vSeq (vWipe [1] (vWhile (vTst (vOp uNe (vV 1) (vC (.int 0)))) (vPar 0 1 (vCons (vV 1) (vCons (vOp uMod (vV 0) (vV 1)) vNil)))))
    (vRet (vV 0))))
noncomputable def sem_divisor : FV := fnV N_divisor t_divisor
@[simp] def N_ratio : List Str := ["numerator", "denominator", "common"]
noncomputable def t_ratio : VS :=
  (vSeq (vIf (vTst (vOp uEq (vV 1) (vC (.int 0)))) (vRaise0 "NoInverse") vNext)
    (vSeq (vSet 2 (vCall 2 sem_divisor (vCons (vV 0) (vCons (vV 1) vNil))))
    (vSeq (vIf (vTst (vOp uLt (vV 1) (vC (.int 0)))) (vSet 2 (vUn uNeg (vV 2))) vNext)
    (vRet (vTup (vCons (vOp uDiv (vV 0) (vV 2)) (vCons (vOp uDiv (vV 1) (vV 2)) vNil)))))))
noncomputable def sem_ratio : FV := fnV N_ratio t_ratio
@[simp] def N_is_whole : List Str := ["number"]
noncomputable def t_is_whole : VS :=
  (vRet (vAndV (vCB uIsi (vCons (vV 0) (vCons (vCw (.v (.ty "int"))) vNil))) (vNotV (vCB uIsi (vCons (vV 0) (vCons (vCw (.v (.ty "bool"))) vNil))))))
noncomputable def sem_is_whole : FV := fnV N_is_whole t_is_whole
@[simp] def N_is_ratio : List Str := ["pair"]
noncomputable def t_is_ratio : VS :=
  (vSeq (vIf (vOrT (vNotT (vTst (vCB uIsi (vCons (vV 0) (vCons (vCw (.v (.ty "tuple"))) vNil))))) (vOrT (vTst (vOp uNe (vCB uLen (vCons (vV 0) vNil)) (vC (.int 2)))) (vOrT (vNotT (vTst (vCall 1 sem_is_whole (vCons (vOp uIx (vV 0) (vC (.int 0))) vNil)))) (vNotT (vTst (vCall 1 sem_is_whole (vCons (vOp uIx (vV 0) (vC (.int 1))) vNil))))))) (vRet (vC (.bool false))) vNext)
    (vRet (vAndV (vOp uGt (vOp uIx (vV 0) (vC (.int 1))) (vC (.int 0))) (vOp uEq (vCall 2 sem_divisor (vCons (vOp uIx (vV 0) (vC (.int 0))) (vCons (vOp uIx (vV 0) (vC (.int 1))) vNil))) (vC (.int 1))))))
noncomputable def sem_is_ratio : FV := fnV N_is_ratio t_is_ratio
@[simp] def N_plus : List Str := ["one", "two"]
noncomputable def t_plus : VS :=
  (vSeq (vIf (vAndT (vTst (vOp uEq (vOp uIx (vV 0) (vC (.int 1))) (vC (.int 1)))) (vTst (vOp uEq (vOp uIx (vV 1) (vC (.int 1))) (vC (.int 1))))) (vRet (vTup (vCons (vOp uAdd (vOp uIx (vV 0) (vC (.int 0))) (vOp uIx (vV 1) (vC (.int 0)))) (vCons (vC (.int 1)) vNil)))) vNext)
    (vRet (vCall 2 sem_ratio (vCons (vOp uAdd (vOp uMul (vOp uIx (vV 0) (vC (.int 0))) (vOp uIx (vV 1) (vC (.int 1)))) (vOp uMul (vOp uIx (vV 1) (vC (.int 0))) (vOp uIx (vV 0) (vC (.int 1))))) (vCons (vOp uMul (vOp uIx (vV 0) (vC (.int 1))) (vOp uIx (vV 1) (vC (.int 1)))) vNil)))))
noncomputable def sem_plus : FV := fnV N_plus t_plus
@[simp] def N_minus : List Str := ["one", "two"]
noncomputable def t_minus : VS :=
  (vSeq (vIf (vAndT (vTst (vOp uEq (vOp uIx (vV 0) (vC (.int 1))) (vC (.int 1)))) (vTst (vOp uEq (vOp uIx (vV 1) (vC (.int 1))) (vC (.int 1))))) (vRet (vTup (vCons (vOp uSub (vOp uIx (vV 0) (vC (.int 0))) (vOp uIx (vV 1) (vC (.int 0)))) (vCons (vC (.int 1)) vNil)))) vNext)
    (vRet (vCall 2 sem_ratio (vCons (vOp uSub (vOp uMul (vOp uIx (vV 0) (vC (.int 0))) (vOp uIx (vV 1) (vC (.int 1)))) (vOp uMul (vOp uIx (vV 1) (vC (.int 0))) (vOp uIx (vV 0) (vC (.int 1))))) (vCons (vOp uMul (vOp uIx (vV 0) (vC (.int 1))) (vOp uIx (vV 1) (vC (.int 1)))) vNil)))))
noncomputable def sem_minus : FV := fnV N_minus t_minus
@[simp] def N_times : List Str := ["one", "two"]
noncomputable def t_times : VS :=
  (vSeq (vIf (vAndT (vTst (vOp uEq (vOp uIx (vV 0) (vC (.int 1))) (vC (.int 1)))) (vTst (vOp uEq (vOp uIx (vV 1) (vC (.int 1))) (vC (.int 1))))) (vRet (vTup (vCons (vOp uMul (vOp uIx (vV 0) (vC (.int 0))) (vOp uIx (vV 1) (vC (.int 0)))) (vCons (vC (.int 1)) vNil)))) vNext)
    (vRet (vCall 2 sem_ratio (vCons (vOp uMul (vOp uIx (vV 0) (vC (.int 0))) (vOp uIx (vV 1) (vC (.int 0)))) (vCons (vOp uMul (vOp uIx (vV 0) (vC (.int 1))) (vOp uIx (vV 1) (vC (.int 1)))) vNil)))))
noncomputable def sem_times : FV := fnV N_times t_times
@[simp] def N_over : List Str := ["one", "two"]
noncomputable def t_over : VS :=
  (vRet (vCall 2 sem_ratio (vCons (vOp uMul (vOp uIx (vV 0) (vC (.int 0))) (vOp uIx (vV 1) (vC (.int 1)))) (vCons (vOp uMul (vOp uIx (vV 0) (vC (.int 1))) (vOp uIx (vV 1) (vC (.int 0)))) vNil))))
noncomputable def sem_over : FV := fnV N_over t_over
@[simp] def N_law_cell : List Str := ["script", "k", "cell"]
noncomputable def t_law_cell : VS :=
  (vSeq (vIf (vAndT (vTst (vOp uLt (vV 1) (vCB uLen (vCons (vV 0) vNil)))) (vTst (vOp uGe (vOp uIx (vV 0) (vV 1)) (vOp uPow (vC (.int 10)) (vC (.int 9)))))) (vRet (vOp uIx (vV 0) (vV 1))) vNext)
    (vSeq (vSet 2 (vOp uAdd (vOp uMul (vC (.int 7)) (vV 1)) (vC (.int 1))))
    (vSeq (vIf (vTst (vOp uGt (vCB uLen (vCons (vV 0) vNil)) (vC (.int 0)))) (vSet 2 (vOp uAdd (vV 2) (vOp uMul (vC (.int 31)) (vOp uIx (vV 0) (vOp uMod (vCB uIntF (vCons (vV 1) vNil)) (vCB uLen (vCons (vV 0) vNil))))))) vNext)
    (vSeq (vSet 2 (vOp uMod (vCB uIntF (vCons (vOp uAdd (vOp uMul (vV 2) (vC (.int 48271))) (vOp uMul (vC (.int 69621)) (vV 1))) vNil)) (vC (.int 2147483647))))
    (vRet (vOp uMod (vCB uIntF (vCons (vOp uAdd (vOp uMul (vV 2) (vV 2)) (vOp uMul (vC (.int 48271)) (vOp uDiv (vV 2) (vC (.int 1000))))) vNil)) (vC (.int 2147483629))))))))
noncomputable def sem_law_cell : FV := fnV N_law_cell t_law_cell
@[simp] def N_law_take : List Str := ["state", "m", "x"]
noncomputable def t_law_take : VS :=
  (vSeq (vSet 2 (vOp uMod (vCB uIntF (vCons (vOp uIx (vV 0) (vC (.int 0))) vNil)) (vV 1)))
    (vSeq (vAsg (vCB uIntF (vCons (vOp uDiv (vOp uIx (vV 0) (vC (.int 0))) (vV 1)) vNil)) (hSub kSet (vV 0) (vC (.int 0))))
    (vRet (vV 2))))
noncomputable def sem_law_take : FV := fnV N_law_take t_law_take
@[simp] def N_law_big : List Str := ["script", "at", "count", "found", "k"]
noncomputable def t_law_big : VS :=
  (vSeq (vSet 3 (vC (.int 0)))
    (vSeq (vWipe [4] (vFor (iR1 (vV 2)) (hNm 4) (vWipe [4] (vSet 3 (vOp uAdd (vOp uMul (vV 3) (vC (.int 2147483648))) (vCall 2 sem_law_cell (vCons (vV 0) (vCons (vOp uAdd (vV 1) (vV 4)) vNil))))))))
    (vRet (vLstO (vCons (vV 3) vNil)))))
noncomputable def sem_law_big : FV := fnK N_law_big t_law_big
@[simp] def N_law_divisor : List Str := ["one", "two", "turn"]
noncomputable def t_law_divisor : VS :=
  (vSeq (vSet 0 (vCB uAbs (vCons (vV 0) vNil)))
    (vSeq (vSet 1 (vCB uAbs (vCons (vV 1) vNil)))
    (vSeq (vWipe [1, 2] (vFor (iR1 (vC (.int 20000))) (hNm 2) (vWipe [2] (vSeq (vIf (vTst (vOp uEq (vV 1) (vC (.int 0)))) vBreak vNext)
    (vPar 0 1 (vCons (vV 1) (vCons (vOp uMod (vCB uIntF (vCons (vV 0) vNil)) (vV 1)) vNil)))))))
    (vRet (vV 0)))))
noncomputable def sem_law_divisor : FV := fnV N_law_divisor t_law_divisor
@[simp] def N_law_ratio : List Str := ["p", "q", "divisor_v"]
noncomputable def t_law_ratio : VS :=
  (vSeq (vSet 2 (vCall 2 sem_law_divisor (vCons (vV 0) (vCons (vV 1) vNil))))
    (vSeq (vIf (vTst (vOp uLt (vV 1) (vC (.int 0)))) (vSet 2 (vUn uNeg (vV 2))) vNext)
    (vRet (vTup (vCons (vCB uIntF (vCons (vOp uDiv (vV 0) (vV 2)) vNil)) (vCons (vCB uIntF (vCons (vOp uDiv (vV 1) (vV 2)) vNil)) vNil))))))
noncomputable def sem_law_ratio : FV := fnV N_law_ratio t_law_ratio
@[simp] def N_law_is_ratio : List Str := ["pair", "x"]
noncomputable def t_law_is_ratio : VS :=
  (vSeq (vIf (vOrT (vNotT (vTst (vCB uIsi (vCons (vV 0) (vCons (vCw (.v (.ty "tuple"))) vNil))))) (vOrT (vTst (vOp uNe (vCB uLen (vCons (vV 0) vNil)) (vC (.int 2)))) (vTst (vOp uIn (vC (.bool false)) (vLc (iSq (vV 0)) (.one 1) vYes (vAndV (vCB uIsi (vCons (vV 1) (vCons (vCw (.v (.ty "int"))) vNil))) (vNotV (vCB uIsi (vCons (vV 1) (vCons (vCw (.v (.ty "bool"))) vNil))))) [1]))))) (vRet (vC (.bool false))) vNext)
    (vRet (vAndV (vOp uGt (vOp uIx (vV 0) (vC (.int 1))) (vC (.int 0))) (vOp uEq (vCall 2 sem_law_divisor (vCons (vOp uIx (vV 0) (vC (.int 0))) (vCons (vOp uIx (vV 0) (vC (.int 1))) vNil))) (vC (.int 1))))))
noncomputable def sem_law_is_ratio : FV := fnV N_law_is_ratio t_law_is_ratio
@[simp] def N_law_add : List Str := ["one", "two"]
noncomputable def t_law_add : VS :=
  (vSeq (vIf (vAndT (vTst (vOp uEq (vOp uIx (vV 0) (vC (.int 1))) (vC (.int 1)))) (vTst (vOp uEq (vOp uIx (vV 1) (vC (.int 1))) (vC (.int 1))))) (vRet (vTup (vCons (vOp uAdd (vOp uIx (vV 0) (vC (.int 0))) (vOp uIx (vV 1) (vC (.int 0)))) (vCons (vC (.int 1)) vNil)))) vNext)
    (vRet (vCall 2 sem_law_ratio (vCons (vOp uAdd (vOp uMul (vOp uIx (vV 0) (vC (.int 0))) (vOp uIx (vV 1) (vC (.int 1)))) (vOp uMul (vOp uIx (vV 1) (vC (.int 0))) (vOp uIx (vV 0) (vC (.int 1))))) (vCons (vOp uMul (vOp uIx (vV 0) (vC (.int 1))) (vOp uIx (vV 1) (vC (.int 1)))) vNil)))))
noncomputable def sem_law_add : FV := fnV N_law_add t_law_add
@[simp] def N_law_sub : List Str := ["one", "two"]
noncomputable def t_law_sub : VS :=
  (vRet (vCall 2 sem_law_add (vCons (vV 0) (vCons (vTup (vCons (vUn uNeg (vOp uIx (vV 1) (vC (.int 0)))) (vCons (vOp uIx (vV 1) (vC (.int 1))) vNil))) vNil))))
noncomputable def sem_law_sub : FV := fnV N_law_sub t_law_sub
@[simp] def N_law_mul : List Str := ["one", "two"]
noncomputable def t_law_mul : VS :=
  (vSeq (vIf (vAndT (vTst (vOp uEq (vOp uIx (vV 0) (vC (.int 1))) (vC (.int 1)))) (vTst (vOp uEq (vOp uIx (vV 1) (vC (.int 1))) (vC (.int 1))))) (vRet (vTup (vCons (vOp uMul (vOp uIx (vV 0) (vC (.int 0))) (vOp uIx (vV 1) (vC (.int 0)))) (vCons (vC (.int 1)) vNil)))) vNext)
    (vRet (vCall 2 sem_law_ratio (vCons (vOp uMul (vOp uIx (vV 0) (vC (.int 0))) (vOp uIx (vV 1) (vC (.int 0)))) (vCons (vOp uMul (vOp uIx (vV 0) (vC (.int 1))) (vOp uIx (vV 1) (vC (.int 1)))) vNil)))))
noncomputable def sem_law_mul : FV := fnV N_law_mul t_law_mul
abbrev wR (q : Rat) : W := .d (dR q)
@[simp] theorem uEq_R {O : List Ob} {neg : Bool} {a b : Rat} : uEqN neg (wR a) (wR b) O = some (.d (.bool (if neg then !decide (a = b) else decide (a = b))), O) := uEq_D (α := Rat) (by decide) a b
@[simp] theorem uEq_RS {O : List Ob} {neg : Bool} {a : Rat} {s : Str} : uEqN neg (wR a) (.d (.str s)) O = some (.d (.bool neg), O) := by
  have h : eqD (dR a) (.str s) = some false := by
    have h1 : okB (dR a) = true := okB_D (α := Rat) (by decide) a
    have h2 : okB (.str s) = true := okB_D (α := Str) (by decide) s
    unfold eqD
    rw [show eqS (dR a) (.str s) = none from rfl, h1, h2]
    rfl
  rw [uEqN_d h]
  cases neg <;> rfl
theorem divInt_inv {b : Rat} : Rat.divInt b.den b.num = b⁻¹ := by rw [Rat.inv_def]
section
variable {O : List Ob}
theorem fmod_nat (a b : Nat) : ((a : Int)).fmod (b : Int) = ((a % b : Nat) : Int) := by
  rw [Int.fmod_eq_emod_of_nonneg _ (Int.natCast_nonneg b)]; rfl
theorem r_divisor {a b : Int} : sem_divisor [.d (.int a), .d (.int b)] O = .ok (.d (.int (Int.gcd a b))) O := by
  have key : ∀ (n a b : Nat), b ≤ n → vWhile (vTst (vOp uNe (vV 1) (vC (PyData.int 0)))) (vPar 0 1 (vCons (vV 1) (vCons (vOp uMod (vV 0) (vV 1)) vNil)))
      [some (.d (.int a)), some (.d (.int b))] O = .nx [some (.d (.int (Nat.gcd a b : Nat))), some (.d (.int 0))] O := by
    intro n
    induction n with
    | zero =>
      intro a b h
      have : b = 0 := by omega
      subst this
      rw [vWhile_eq]
      simp
    | succ n ih =>
      intro a b h
      rw [vWhile_eq]
      by_cases h0 : b = 0
      · subst h0; simp
      · have hb : (b : Int) ≠ 0 := by omega
        have := ih b (a % b) (by have := Nat.mod_lt a (Nat.pos_of_ne_zero h0); omega)
        rw [Nat.gcd_comm b, ← Nat.gcd_rec, Nat.gcd_comm] at this
        simp only [Int.natCast_emod] at this
        simp [h0, uMod_i, fmod_nat, this]
  unfold sem_divisor t_divisor
  simp [key _ _ _ (Nat.le_refl _)]
  rfl
theorem r_ratio {a b : Int} (hb : b ≠ 0) (hl : b.natAbs < 2 ^ 9000) : sem_ratio [.d (.int a), .d (.int b)] O = .ok (wR (Rat.divInt a b)) O := by
  unfold sem_ratio t_ratio
  have h1 := ratio_num a b hb
  have h2 := ratio_den a b hb
  have h3 := gcd_divOk (n := a) hb hl
  simp [hb, r_divisor]
  by_cases h : b < 0
  · simp [h] at h1 h2 h3 ⊢
    simp [uDiv_i, h3, h1, h2]
  · simp [h] at h1 h2 h3 ⊢
    simp [uDiv_i, h3, h1, h2]
theorem r_ratio0 {a : Int} : sem_ratio [.d (.int a), .d (.int 0)] O = .ex (.plain "NoInverse") O := by
  unfold sem_ratio t_ratio
  simp
theorem r_is_whole {x : PyData} : sem_is_whole [.d x] O = .ok (.d (.bool (isiD x "int" && !isiD x "bool"))) O := by
  unfold sem_is_whole t_is_whole
  cases h : isiD x "int" <;> simp [h]
theorem r_is_whole_i {i : Int} : sem_is_whole [.d (.int i)] O = .ok (.d (.bool true)) O := by rw [r_is_whole]; rfl
/-- is a pair of ints a fraction in lowest terms -/
def isRat (p q : Int) : Bool := decide (q > 0) && decide (Int.gcd p q = 1)
theorem isRat_rat (a : Rat) : isRat a.num a.den = true := by
  unfold isRat
  rw [Bool.and_eq_true, decide_eq_true_eq, decide_eq_true_eq]
  refine ⟨by have := a.den_pos; omega, ?_⟩
  have := a.reduced
  unfold Nat.Coprime at this
  unfold Int.gcd
  exact this
theorem r_is_ratio_ii {p q : Int} : sem_is_ratio [.d (.tuple [.int p, .int q])] O = .ok (.d (.bool (isRat p q))) O := by
  unfold sem_is_ratio t_is_ratio isRat
  simp [r_is_whole_i, r_divisor, isiD]
  by_cases h : q > 0 <;> simp [h]
  by_cases h : Int.gcd p q = 1 <;> simp [h]
  omega
theorem r_is_ratio {a : Rat} : sem_is_ratio [wR a] O = .ok (.d (.bool true)) O := by rw [r_is_ratio_ii, isRat_rat]
/-! sums, differences, products -/
theorem rat_int {a : Rat} (h : (a.den : Int) = 1) : a = (a.num : Rat) := Rat.ext rfl (by exact_mod_cast h)
theorem num_addI {a b : Rat} (h : (a.den : Int) = 1) (g : (b.den : Int) = 1) : (a + b).num = a.num + b.num ∧ ((a + b).den : Int) = 1 := by
  have : (a + b : Rat) = ((a.num + b.num : Int) : Rat) := by rw [Rat.intCast_add, ← rat_int h, ← rat_int g]
  rw [this]; exact ⟨rfl, rfl⟩
theorem num_subI {a b : Rat} (h : (a.den : Int) = 1) (g : (b.den : Int) = 1) : (a - b).num = a.num - b.num ∧ ((a - b).den : Int) = 1 := by
  have : (a - b : Rat) = ((a.num - b.num : Int) : Rat) := by rw [Rat.intCast_sub, ← rat_int h, ← rat_int g]
  rw [this]; exact ⟨rfl, rfl⟩
theorem num_mulI {a b : Rat} (h : (a.den : Int) = 1) (g : (b.den : Int) = 1) : (a * b).num = a.num * b.num ∧ ((a * b).den : Int) = 1 := by
  have : (a * b : Rat) = ((a.num * b.num : Int) : Rat) := by rw [Rat.intCast_mul, ← rat_int h, ← rat_int g]
  rw [this]; exact ⟨rfl, rfl⟩
theorem den_mulB {a b : Rat} {n m : Nat} (ha : sz a n) (hb : sz b m) (h : n + m ≤ 9000) : ((a.den : Int) * b.den).natAbs < 2 ^ 9000 := Nat.lt_of_lt_of_le (natAbs_mul_lt ha.2 hb.2) (Nat.pow_le_pow_right (by decide) h)
theorem den_mul0 {a b : Rat} : (a.den : Int) * b.den ≠ 0 := Int.mul_ne_zero (den_ne a) (den_ne b)
/-- two fractions of at most n and m bits -/
theorem r_plus {a b : Rat} {n m : Nat} (ha : sz a n) (hb : sz b m) (h : n + m ≤ 9000) : sem_plus [wR a, wR b] O = .ok (wR (a + b)) O := by
  have e := r_ratio (O := O) (a := a.num * b.den + b.num * a.den) (den_mul0 (a := a) (b := b)) (den_mulB ha hb h)
  rw [add_divInt] at e
  have m1 : MulOk a.num b.den := mulOk ha.1 hb.2 (by omega)
  have m2 : MulOk b.num a.den := mulOk hb.1 ha.2 (by omega)
  have m3 : MulOk a.den b.den := mulOk ha.2 hb.2 (by omega)
  unfold sem_plus t_plus
  by_cases c1 : (a.den : Int) = 1
  · by_cases c2 : (b.den : Int) = 1
    · simp [c1, c2, num_addI c1 c2]
    · rw [c1] at e m2 m3
      simp only [Int.mul_one, Int.one_mul] at e
      simp [c1, c2, uMul_i, m1, m2, m3, e]
  · simp [c1, uMul_i, m1, m2, m3, e]
theorem r_minus {a b : Rat} {n m : Nat} (ha : sz a n) (hb : sz b m) (h : n + m ≤ 9000) : sem_minus [wR a, wR b] O = .ok (wR (a - b)) O := by
  have e := r_ratio (O := O) (a := a.num * b.den - b.num * a.den) (den_mul0 (a := a) (b := b)) (den_mulB ha hb h)
  rw [sub_divInt] at e
  have m1 : MulOk a.num b.den := mulOk ha.1 hb.2 (by omega)
  have m2 : MulOk b.num a.den := mulOk hb.1 ha.2 (by omega)
  have m3 : MulOk a.den b.den := mulOk ha.2 hb.2 (by omega)
  unfold sem_minus t_minus
  by_cases c1 : (a.den : Int) = 1
  · by_cases c2 : (b.den : Int) = 1
    · simp [c1, c2, num_subI c1 c2]
    · rw [c1] at e m2 m3
      simp only [Int.mul_one, Int.one_mul] at e
      simp [c1, c2, uMul_i, m1, m2, m3, e]
  · simp [c1, uMul_i, m1, m2, m3, e]
theorem r_times {a b : Rat} {n m : Nat} (ha : sz a n) (hb : sz b m) (h : n + m ≤ 9000) : sem_times [wR a, wR b] O = .ok (wR (a * b)) O := by
  have e := r_ratio (O := O) (a := a.num * b.num) (den_mul0 (a := a) (b := b)) (den_mulB ha hb h)
  rw [mul_divInt] at e
  have m1 : MulOk a.num b.num := mulOk ha.1 hb.1 (by omega)
  have m3 : MulOk a.den b.den := mulOk ha.2 hb.2 (by omega)
  unfold sem_times t_times
  by_cases c1 : (a.den : Int) = 1
  · by_cases c2 : (b.den : Int) = 1
    · simp [c1, c2, num_mulI c1 c2, uMul_i, m1]
    · rw [c1] at e m3
      simp only [Int.mul_one, Int.one_mul] at e
      simp [c1, c2, uMul_i, m1, m3, e]
  · simp [c1, uMul_i, m1, m3, e]
theorem r_over {a b : Rat} {n m : Nat} (ha : sz a n) (hb : sz b m) (h : n + m ≤ 9000) (h0 : b ≠ 0) : sem_over [wR a, wR b] O = .ok (wR (a / b)) O := by
  have e := r_ratio (O := O) (a := a.num * b.den) (b := a.den * b.num) (Int.mul_ne_zero (den_ne a) (num_ne h0)) (Nat.lt_of_lt_of_le (natAbs_mul_lt ha.2 hb.1) (Nat.pow_le_pow_right (by decide) h))
  rw [div_divInt] at e
  have m1 : MulOk a.num b.den := mulOk ha.1 hb.2 (by omega)
  have m3 : MulOk a.den b.num := mulOk ha.2 hb.1 (by omega)
  unfold sem_over t_over
  simp [uMul_i, m1, m3, e]
theorem r_over0 {a : Rat} {n : Nat} (ha : sz a n) (h : n ≤ 9000) : sem_over [wR a, wR 0] O = .ex (.plain "NoInverse") O := by
  have m1 : MulOk a.num 1 := mulOk (b := 1) ha.1 (by decide) (by omega)
  have m3 : MulOk a.den 0 := mulOk (b := 1) ha.2 (by decide) (by omega)
  have e := r_ratio0 (O := O) (a := a.num)
  unfold sem_over t_over
  simp [uMul_i, m1, m3, e, show (0 : Rat).num = 0 from rfl, show (0 : Rat).den = 1 from rfl]
/-! the law's own fractions -/
theorem gcd_half (a b : Nat) (hb : b ≠ 0) (h : a % b ≠ 0) : 2 * (b % (a % b)) < b := by
  have h1 := Nat.mod_lt a (Nat.pos_of_ne_zero hb)
  generalize a % b = r at *
  by_cases c : 2 * r ≤ b
  · have := Nat.mod_lt b (Nat.pos_of_ne_zero h)
    omega
  · have : b % r = b - r := by
      rw [Nat.mod_eq_sub_mod (by omega), Nat.mod_eq_of_lt (by omega)]
    omega
noncomputable def bodyG : VS := (vWipe [2] (vSeq (vIf (vTst (vOp uEq (vV 1) (vC (.int 0)))) vBreak vNext)
    (vPar 0 1 (vCons (vV 1) (vCons (vOp uMod (vCB uIntF (vCons (vV 0) vNil)) (vV 1)) vNil)))))
/-- the law's Euclid: 2 s turns are enough for b < 2 ^ s -/
theorem gcd_turns (O : List Ob) : ∀ (s a b : Nat) (w : Option W) (l : List W), b < 2 ^ s → 2 * s ≤ l.length →
    ∃ w', forV (hNm 2) bodyG [] l [some (.d (.int a)), some (.d (.int b)), w] O = .nx [some (.d (.int (Nat.gcd a b : Nat))), some (.d (.int 0)), w'] O := by
  have z : ∀ (a : Nat) (w : Option W) (l : List W), ∃ w', forV (hNm 2) bodyG [] l [some (.d (.int a)), some (.d (.int ((0 : Nat) : Int))), w] O = .nx [some (.d (.int (Nat.gcd a 0 : Nat))), some (.d (.int 0)), w'] O := by
    intro a w l
    cases l with
    | nil => exact ⟨w, by simp⟩
    | cons u l => exact ⟨some u, by simp [bodyG]⟩
  intro s
  induction s with
  | zero =>
    intro a b w l h hl
    have : b = 0 := by simpa using h
    subst this
    exact z a w l
  | succ s ih =>
    intro a b w l h hl
    by_cases h0 : b = 0
    · subst h0; exact z a w l
    · match l, hl with
      | u :: u2 :: l, hl =>
        by_cases h1 : a % b = 0
        · obtain ⟨w', e⟩ := z b none (u2 :: l)
          refine ⟨w', ?_⟩
          rw [show Nat.gcd b 0 = Nat.gcd a b by rw [Nat.gcd_comm a b, Nat.gcd_rec b a, h1, Nat.gcd_zero_left, Nat.gcd_zero_right]] at e
          rw [forV_cons0]
          rw [← e]
          have h1' : ((a : Int) % (b : Int)) = 0 := by rw [← Int.natCast_emod, h1]; rfl
          simp [bodyG, h0, uMod_i, fmod_nat, h1']
        · have hh := gcd_half a b h0 h1
          obtain ⟨w', e⟩ := ih (a % b) (b % (a % b)) none l (by rw [Nat.pow_succ] at h; omega) (by simp at hl; omega)
          refine ⟨w', ?_⟩
          rw [show Nat.gcd (a % b) (b % (a % b)) = Nat.gcd a b by rw [Nat.gcd_comm a b, Nat.gcd_rec b a, Nat.gcd_rec (a % b) b, Nat.gcd_comm]] at e
          rw [← e]
          have h1' : ¬ ((a : Int) % (b : Int)) = 0 := by rw [← Int.natCast_emod]; omega
          have e2 : (a : Int).fmod b = ((a % b : Nat) : Int) := fmod_nat a b
          have e3 : (b : Int).fmod ((a % b : Nat) : Int) = ((b % (a % b) : Nat) : Int) := fmod_nat b (a % b)
          simp only [Int.natCast_emod] at e2 e3
          simp [bodyG, h0, uMod_i, h1', e2, e3]
theorem r_law_divisor {a b : Int} (hl : b.natAbs < 2 ^ 9000) : sem_law_divisor [.d (.int a), .d (.int b)] O = .ok (.d (.int (Int.gcd a b))) O := by
  obtain ⟨w', e⟩ := gcd_turns O 9000 a.natAbs b.natAbs none (rng 0 20000) hl (by simp [rng])
  unfold sem_law_divisor t_law_divisor
  change _ = R.ok (W.d (PyData.int (Nat.gcd a.natAbs b.natAbs : Nat))) O
  unfold bodyG at e
  have h : smI 20000 := smI_of (by decide) (by decide)
  simp [e, h]
theorem r_law_ratio {a b : Int} (hb : b ≠ 0) (hl : b.natAbs < 2 ^ 9000) : sem_law_ratio [.d (.int a), .d (.int b)] O = .ok (wR (Rat.divInt a b)) O := by
  unfold sem_law_ratio t_law_ratio
  have h1 := ratio_num a b hb
  have h2 := ratio_den a b hb
  have h3 := gcd_divOk (n := a) hb hl
  simp [hb, r_law_divisor hl]
  by_cases h : b < 0
  · simp [h] at h1 h2 h3 ⊢
    simp [uDiv_i, h3, h1, h2]
  · simp [h] at h1 h2 h3 ⊢
    simp [uDiv_i, h3, h1, h2]
theorem r_law_add {a b : Rat} {n m : Nat} (ha : sz a n) (hb : sz b m) (h : n + m ≤ 9000) : sem_law_add [wR a, wR b] O = .ok (wR (a + b)) O := by
  have e := r_law_ratio (O := O) (a := a.num * b.den + b.num * a.den) (den_mul0 (a := a) (b := b)) (den_mulB ha hb h)
  rw [add_divInt] at e
  have m1 : MulOk a.num b.den := mulOk ha.1 hb.2 (by omega)
  have m2 : MulOk b.num a.den := mulOk hb.1 ha.2 (by omega)
  have m3 : MulOk a.den b.den := mulOk ha.2 hb.2 (by omega)
  unfold sem_law_add t_law_add
  by_cases c1 : (a.den : Int) = 1
  · by_cases c2 : (b.den : Int) = 1
    · simp [c1, c2, num_addI c1 c2]
    · rw [c1] at e m2 m3
      simp only [Int.mul_one, Int.one_mul] at e
      simp [c1, c2, uMul_i, m1, m2, m3, e]
  · simp [c1, uMul_i, m1, m2, m3, e]
theorem r_law_sub {a b : Rat} {n m : Nat} (ha : sz a n) (hb : sz b m) (h : n + m ≤ 9000) : sem_law_sub [wR a, wR b] O = .ok (wR (a - b)) O := by
  have e := r_law_add (O := O) ha (sz_neg hb) h
  rw [← Rat.sub_eq_add_neg] at e
  have e2 : wR (-b) = W.d (.tuple [.int (-b.num), .int b.den]) := rfl
  rw [e2] at e
  unfold sem_law_sub t_law_sub
  simp [e]
theorem r_law_mul {a b : Rat} {n m : Nat} (ha : sz a n) (hb : sz b m) (h : n + m ≤ 9000) : sem_law_mul [wR a, wR b] O = .ok (wR (a * b)) O := by
  have e := r_law_ratio (O := O) (a := a.num * b.num) (den_mul0 (a := a) (b := b)) (den_mulB ha hb h)
  rw [mul_divInt] at e
  have m1 : MulOk a.num b.num := mulOk ha.1 hb.1 (by omega)
  have m3 : MulOk a.den b.den := mulOk ha.2 hb.2 (by omega)
  unfold sem_law_mul t_law_mul
  by_cases c1 : (a.den : Int) = 1
  · by_cases c2 : (b.den : Int) = 1
    · simp [c1, c2, num_mulI c1 c2, uMul_i, m1]
    · rw [c1] at e m3
      simp only [Int.mul_one, Int.one_mul] at e
      simp [c1, c2, uMul_i, m1, m3, e]
  · simp [c1, uMul_i, m1, m3, e]
theorem r_law_is_ratio_ii {p q : Int} (hl : q.natAbs < 2 ^ 9000) : sem_law_is_ratio [.d (.tuple [.int p, .int q])] O = .ok (.d (.bool (isRat p q))) O := by
  unfold sem_law_is_ratio t_law_is_ratio isRat
  have e : uIn (.d (.bool false)) (.d (.list [.bool true, .bool true])) O = some (.d (.bool false), O) := rfl
  simp [e_LcM, r_law_divisor hl, isiD, e]
  clear hl
  by_cases h : q > 0
  · by_cases h2 : Int.gcd p q = 1
    · simp [h, h2]
    · have : ¬ ((Int.gcd p q : Nat) : Int) = 1 := by omega
      simp [h, h2, this]
  · simp [h]
theorem r_law_is_ratio {a : Rat} {n : Nat} (ha : sz a n) (h : n ≤ 9000) : sem_law_is_ratio [wR a] O = .ok (.d (.bool true)) O := by
  rw [r_law_is_ratio_ii (Nat.lt_of_lt_of_le ha.2 (Nat.pow_le_pow_right (by decide) h)), isRat_rat]
/-! draws -/
theorem r_law_take {v m : Int} {T : List Ob} (h0 : m ≠ 0) (hl : m.natAbs < 2 ^ 9000) : sem_law_take [.o 0, .d (.int m)] (stO v T) = .ok (.d (.int (v.fmod m))) (stO (v.fdiv m) T) := by
  have h1 : DivOk m := ⟨h0, log2_lt hl (by decide)⟩
  clear hl
  unfold sem_law_take t_law_take
  simp [uMod_i, uDiv_i, h0, h1]
theorem take_ex {v : Int} {m : Int} {T : List Ob} (h0 : 0 < m) (hl : m.natAbs < 2 ^ 9000) : ∃ (r : Nat) (v' : Int), (r : Int) < m ∧ sem_law_take [.o 0, .d (.int m)] (stO v T) = .ok (.d (.int r)) (stO v' T) := by
  have e := r_law_take (v := v) (m := m) (T := T) (by clear hl; omega) hl
  clear hl
  have h1 := Int.fmod_nonneg_of_pos v (b := m) (by omega)
  have h2 := Int.fmod_lt_of_pos v (b := m) (by omega)
  exact ⟨(v.fmod m).toNat, v.fdiv m, by omega, by rw [e, Int.toNat_of_nonneg h1]⟩
theorem pow_9 : uPow (.d (.int 10)) (.d (.int 9)) O = some (.d (.int 1000000000), O) := rfl
theorem cell_ex {ns : List Int} {k : Nat} : ∃ v : Int, sem_law_cell [.rl (ns.map .int), .d (.int k)] O = .ok (.d (.int v)) O := by
  have m1 := mulL (i := 7) (by decide)
  have m2 := mulL (i := 31) (by decide)
  have m3 := mulL (i := 48271) (by decide)
  have m4 := mulR (j := 48271) (by decide)
  have m5 := mulL (i := 69621) (by decide)
  have m6 : ∀ x y : Int, MulOk (x.fmod 2147483647) y := fun x => mulL (log2_lt (by
    have h1 := Int.fmod_nonneg_of_pos x (b := 2147483647) (by decide)
    have h2 := Int.fmod_lt_of_pos x (b := 2147483647) (by decide)
    omega) (by decide))
  have d1 : DivOk 1000 := by decide
  have tail : ∀ u : Int, ∃ v : Int, ((vSeq
                  (vSet 2
                    (vOp uMod
                      (vCB uIntF
                        (vCons
                          (vOp uAdd (vOp uMul (vV 2) (vC (PyData.int 48271))) (vOp uMul (vC (PyData.int 69621)) (vV 1)))
                          vNil))
                      (vC (PyData.int 2147483647))))
                  (vRet
                    (vOp uMod
                      (vCB uIntF
                        (vCons
                          (vOp uAdd (vOp uMul (vV 2) (vV 2))
                            (vOp uMul (vC (PyData.int 48271)) (vOp uDiv (vV 2) (vC (PyData.int 1000)))))
                          vNil))
                      (vC (PyData.int 2147483629))))) [some (.rl (ns.map .int)), some (.d (.int k)), some (.d (.int u))] O).fin O = R.ok (.d (.int v)) O := fun u => ⟨_, by
    simp [uMul_i, uMod_i, uDiv_i, m3, m4, m5, m6, d1]
    rfl⟩
  have rest : ∃ v : Int, ((vSeq (vSet 2 (vOp uAdd (vOp uMul (vC (.int 7)) (vV 1)) (vC (.int 1))))
    (vSeq (vIf (vTst (vOp uGt (vCB uLen (vCons (vV 0) vNil)) (vC (.int 0)))) (vSet 2 (vOp uAdd (vV 2) (vOp uMul (vC (.int 31)) (vOp uIx (vV 0) (vOp uMod (vCB uIntF (vCons (vV 1) vNil)) (vCB uLen (vCons (vV 0) vNil))))))) vNext)
    (vSeq (vSet 2 (vOp uMod (vCB uIntF (vCons (vOp uAdd (vOp uMul (vV 2) (vC (.int 48271))) (vOp uMul (vC (.int 69621)) (vV 1))) vNil)) (vC (.int 2147483647))))
    (vRet (vOp uMod (vCB uIntF (vCons (vOp uAdd (vOp uMul (vV 2) (vV 2)) (vOp uMul (vC (.int 48271)) (vOp uDiv (vV 2) (vC (.int 1000))))) vNil)) (vC (.int 2147483629))))))) [some (.rl (ns.map .int)), some (.d (.int k)), none] O).fin O = R.ok (.d (.int v)) O := by
    by_cases hn : 0 < ns.length
    · have hm : k % ns.length < ns.length := Nat.mod_lt _ hn
      have e : uIx (.rl (ns.map .int)) (.d (.int ((k : Int) % (ns.length : Int)))) O = some (.d (.int ns[k % ns.length]), O) := by
        rw [← Int.natCast_emod]
        exact uIx_rl (by rw [List.getElem?_map, List.getElem?_eq_getElem hm]; rfl)
      have e0 : ¬ ns.length = 0 := by omega
      obtain ⟨v, ev⟩ := tail (7 * k + 1 + 31 * ns[k % ns.length])
      refine ⟨v, ?_⟩
      rw [← ev]
      simp [uMul_i, uMod_i, m1, m2, hn, e0, fmod_nat, e]
    · obtain ⟨v, ev⟩ := tail (7 * k + 1)
      refine ⟨v, ?_⟩
      rw [← ev]
      simp [uMul_i, uMod_i, m1, m2, hn]
  obtain ⟨v, rest⟩ := rest
  unfold sem_law_cell t_law_cell
  by_cases hk : k < ns.length
  · have e : uIx (.rl (ns.map .int)) (.d (.int (k : Int))) O = some (.d (.int ns[k]), O) := uIx_rl (by rw [List.getElem?_map, List.getElem?_eq_getElem hk]; rfl)
    by_cases h2 : 1000000000 ≤ ns[k]
    · exact ⟨ns[k], by simp [hk, e, pow_9, h2]⟩
    · refine ⟨v, ?_⟩
      rw [← rest]
      simp [hk, e, pow_9, h2]
  · refine ⟨v, ?_⟩
    rw [← rest]
    simp [hk]
theorem big_loop {ns : List Int} {n : Nat} {z : Int} : ∃ v : Int, forV (hNm 4) (vWipe [4] (vSet 3 (vOp uAdd (vOp uMul (vV 3) (vC (.int 2147483648))) (vCall 2 sem_law_cell (vCons (vV 0) (vCons (vOp uAdd (vV 1) (vV 4)) vNil)))))) [] (rng 0 n)
    [some (.rl (ns.map .int)), some (.d (.int 0)), some (.d (.int z)), some (.d (.int 0)), none] O = .nx [some (.rl (ns.map .int)), some (.d (.int 0)), some (.d (.int z)), some (.d (.int v)), none] O := by
  have m1 := mulR (j := 2147483648) (by decide)
  obtain ⟨Γ', O', e, v, hΓ, hO⟩ := forV_inv (g := hNm 4) (b := vWipe [4] (vSet 3 (vOp uAdd (vOp uMul (vV 3) (vC (.int 2147483648))) (vCall 2 sem_law_cell (vCons (vV 0) (vCons (vOp uAdd (vV 1) (vV 4)) vNil)))))) (chk := [])
    (fun i : Nat => W.d (.int (0 + (i : Int)))) (fun Γ O' => ∃ v : Int, Γ = [some (.rl (ns.map .int)), some (.d (.int 0)), some (.d (.int z)), some (.d (.int v)), none] ∧ O' = O) (fun _ _ _ => chkOf_nil.mpr trivial) (List.range n)
    [some (.rl (ns.map .int)), some (.d (.int 0)), some (.d (.int z)), some (.d (.int 0)), none] O ⟨0, rfl, rfl⟩ (by
      rintro Γ O2 x hx ⟨v, rfl, rfl⟩
      obtain ⟨u, eu⟩ := cell_ex (O := O2) (ns := ns) (k := x)
      refine ⟨_, O2, .inl ?_, v * 2147483648 + u, rfl, rfl⟩
      simp [stepV, uMul_i, m1, eu])
  subst hΓ
  subst hO
  exact ⟨v, e⟩
theorem big_ex {ns : List Int} {n : Nat} (hn : n ≤ 1000000) : ∃ v : Int, sem_law_big [.rl (ns.map .int), .d (.int 0), .d (.int n)] O = .ok (.o O.length) (O ++ [.lst [.d (.int v)]]) := by
  obtain ⟨v, e⟩ := big_loop (O := O) (ns := ns) (n := n) (z := n)
  refine ⟨v, ?_⟩
  have h1 : smI (n : Int) := smI_nat (by omega)
  unfold sem_law_big t_law_big
  simp [h1, e]
end
end UZ
/-! matrices of fractions: what the defs answer. -/
namespace UZ
open PySem PySem.W L2 UZN
@[simp] def N_zeros : List Str := ["rows", "columns", "_"]
noncomputable def t_zeros : VS :=
  (vRet (vLc (iR1 (vV 0)) (.one 2) vYes (vOp uMul (vLst (vCons (vTup (vCons (vC (.int 0)) (vCons (vC (.int 1)) vNil))) vNil)) (vV 1)) [2]))
noncomputable def sem_zeros : FV := fnV N_zeros t_zeros
@[simp] def N_unit : List Str := ["size", "row", "column"]
noncomputable def t_unit : VS :=
  (vRet (vLc (iR1 (vV 0)) (.one 1) vYes (vLc (iR1 (vV 0)) (.one 2) vYes (vTup (vCons (vCB uIntF (vCons (vOp uEq (vV 1) (vV 2)) vNil)) (vCons (vC (.int 1)) vNil))) [2]) [1]))
noncomputable def sem_unit : FV := fnV N_unit t_unit
@[simp] def N_matrix_sum : List Str := ["one", "two", "left", "right", "first", "second"]
noncomputable def t_matrix_sum : VS :=
  (vRet (vLc (iZp (vV 0) (vV 1)) (.many [2, 3]) vYes (vLc (iZp (vV 2) (vV 3)) (.many [4, 5]) vYes (vCall 2 sem_plus (vCons (vV 4) (vCons (vV 5) vNil))) [4, 5]) [2, 3]))
noncomputable def sem_matrix_sum : FV := fnV N_matrix_sum t_matrix_sum
@[simp] def N_matrix_gap : List Str := ["one", "two", "left", "right", "first", "second"]
noncomputable def t_matrix_gap : VS :=
  (vRet (vLc (iZp (vV 0) (vV 1)) (.many [2, 3]) vYes (vLc (iZp (vV 2) (vV 3)) (.many [4, 5]) vYes (vCall 2 sem_minus (vCons (vV 4) (vCons (vV 5) vNil))) [4, 5]) [2, 3]))
noncomputable def sem_matrix_gap : FV := fnV N_matrix_gap t_matrix_gap
@[simp] def N_matrix_times : List Str := ["number", "one", "row", "entry"]
noncomputable def t_matrix_times : VS :=
  (vRet (vLc (iSq (vV 1)) (.one 2) vYes (vLc (iSq (vV 2)) (.one 3) vYes (vCall 2 sem_times (vCons (vV 0) (vCons (vV 3) vNil))) [3]) [2]))
noncomputable def sem_matrix_times : FV := fnV N_matrix_times t_matrix_times
@[simp] def N_row_sum : List Str := ["row", "rows", "found", "entry", "other", "old", "new"]
noncomputable def b_row_sum_1 : VS :=
  (vWipe [3, 4] (vIf (vTst (vOp uNe (vOp uIx (vV 3) (vC (.int 0))) (vC (.int 0)))) (vSet 2 (vLc (iZp (vV 2) (vV 4)) (.many [5, 6]) vYes (vIfE (vTst (vOp uNe (vOp uIx (vV 6) (vC (.int 0))) (vC (.int 0)))) (vCall 2 sem_plus (vCons (vV 5) (vCons (vCall 2 sem_times (vCons (vV 3) (vCons (vV 6) vNil))) vNil))) (vV 5)) [5, 6])) vNext))
noncomputable def t_row_sum : VS :=
  (vSeq (vSet 2 (vOp uMul (vLst (vCons (vTup (vCons (vC (.int 0)) (vCons (vC (.int 1)) vNil))) vNil)) (vCB uLen (vCons (vOp uIx (vV 1) (vC (.int 0))) vNil))))
    (vSeq (vWipe [3, 4] (vFor (iZp (vV 0) (vV 1)) (hTpN 2 (hCs (hNm 3) (hCs (hNm 4) hEnd))) b_row_sum_1))
    (vRet (vV 2))))
noncomputable def sem_row_sum : FV := fnV N_row_sum t_row_sum
@[simp] def N_matrix_product : List Str := ["one", "two", "row"]
noncomputable def t_matrix_product : VS :=
  (vRet (vLc (iSq (vV 0)) (.one 2) vYes (vCall 2 sem_row_sum (vCons (vV 2) (vCons (vV 1) vNil))) [2]))
noncomputable def sem_matrix_product : FV := fnV N_matrix_product t_matrix_product
@[simp] def N_turned : List Str := ["one", "column"]
noncomputable def t_turned : VS :=
  (vRet (vLc (iZn (vV 0)) (.one 1) vYes (vCB uList (vCons (vV 1) vNil)) [1]))
noncomputable def sem_turned : FV := fnV N_turned t_turned
@[simp] def N_kronecker : List Str := ["one", "two", "found", "left", "right", "row", "entry", "other"]
noncomputable def b_kronecker_1 : VS :=
  (vWipe [6] (vDrop (vMt uExtend (vV 5) (vCons (vLc (iSq (vV 4)) (.one 7) vYes (vCall 2 sem_times (vCons (vV 6) (vCons (vV 7) vNil))) [7]) vNil))))
noncomputable def b_kronecker_2 : VS :=
  (vWipe [4, 5, 6] (vSeq (vSet 5 (vLstO vNil))
    (vSeq (vWipe [6] (vFor (iSq (vV 3)) (hNm 6) b_kronecker_1))
    (vDrop (vMt uAppend (vV 2) (vCons (vV 5) vNil))))))
noncomputable def b_kronecker_3 : VS :=
  (vWipe [3, 4, 5, 6] (vWipe [4, 5, 6] (vFor (iSq (vV 1)) (hNm 4) b_kronecker_2)))
noncomputable def t_kronecker : VS :=
  (vSeq (vSet 2 (vLstO vNil))
    (vSeq (vWipe [3, 4, 5, 6] (vFor (iSq (vV 0)) (hNm 3) b_kronecker_3))
    (vRet (vV 2))))
noncomputable def sem_kronecker : FV := fnV N_kronecker t_kronecker
@[simp] def N_beside : List Str := ["one", "two", "left", "right"]
noncomputable def t_beside : VS :=
  (vRet (vLc (iZp (vV 0) (vV 1)) (.many [2, 3]) vYes (vOp uAdd (vV 2) (vV 3)) [2, 3]))
noncomputable def sem_beside : FV := fnV N_beside t_beside
@[simp] def N_above : List Str := ["one", "two", "row"]
noncomputable def t_above : VS :=
  (vRet (vLc (iSq (vOp uAdd (vV 0) (vV 1))) (.one 2) vYes (vCB uList (vCons (vV 2) vNil)) [2]))
noncomputable def sem_above : FV := fnV N_above t_above
@[simp] def N_law_zeros : List Str := ["rows", "columns", "row", "column"]
noncomputable def t_law_zeros : VS :=
  (vRet (vLc (iR1 (vV 0)) (.one 2) vYes (vLc (iR1 (vV 1)) (.one 3) vYes (vTup (vCons (vC (.int 0)) (vCons (vC (.int 1)) vNil))) [3]) [2]))
noncomputable def sem_law_zeros : FV := fnV N_law_zeros t_law_zeros
@[simp] def N_law_unit : List Str := ["size", "row", "column"]
noncomputable def t_law_unit : VS :=
  (vRet (vLc (iR1 (vV 0)) (.one 1) vYes (vLc (iR1 (vV 0)) (.one 2) vYes (vTup (vCons (vCB uIntF (vCons (vOp uEq (vV 1) (vV 2)) vNil)) (vCons (vC (.int 1)) vNil))) [2]) [1]))
noncomputable def sem_law_unit : FV := fnV N_law_unit t_law_unit
@[simp] def N_law_msum : List Str := ["one", "two", "k", "j"]
noncomputable def t_law_msum : VS :=
  (vRet (vLc (iR1 (vCB uLen (vCons (vV 0) vNil))) (.one 2) vYes (vLc (iR1 (vCB uLen (vCons (vOp uIx (vV 0) (vC (.int 0))) vNil))) (.one 3) vYes (vCall 2 sem_law_add (vCons (vOp uIx (vOp uIx (vV 0) (vV 2)) (vV 3)) (vCons (vOp uIx (vOp uIx (vV 1) (vV 2)) (vV 3)) vNil))) [3]) [2]))
noncomputable def sem_law_msum : FV := fnV N_law_msum t_law_msum
@[simp] def N_law_mtimes : List Str := ["number", "one", "row", "entry"]
noncomputable def t_law_mtimes : VS :=
  (vRet (vLc (iSq (vV 1)) (.one 2) vYes (vLc (iSq (vV 2)) (.one 3) vYes (vCall 2 sem_law_mul (vCons (vV 0) (vCons (vV 3) vNil))) [3]) [2]))
noncomputable def sem_law_mtimes : FV := fnV N_law_mtimes t_law_mtimes
@[simp] def N_law_mgap : List Str := ["one", "two", "k", "j"]
noncomputable def t_law_mgap : VS :=
  (vRet (vLc (iR1 (vCB uLen (vCons (vV 0) vNil))) (.one 2) vYes (vLc (iR1 (vCB uLen (vCons (vOp uIx (vV 0) (vC (.int 0))) vNil))) (.one 3) vYes (vCall 2 sem_law_sub (vCons (vOp uIx (vOp uIx (vV 0) (vV 2)) (vV 3)) (vCons (vOp uIx (vOp uIx (vV 1) (vV 2)) (vV 3)) vNil))) [3]) [2]))
noncomputable def sem_law_mgap : FV := fnV N_law_mgap t_law_mgap
@[simp] def N_law_zeros_at_o : List Str := ["rows", "columns", "row", "column"]
noncomputable def t_law_zeros_at_o : VS :=
  (vRet (vLcO (iR1 (vV 0)) (.one 2) vYes (vLcO (iR1 (vV 1)) (.one 3) vYes (vTup (vCons (vC (.int 0)) (vCons (vC (.int 1)) vNil))) [3]) [2]))
noncomputable def sem_law_zeros_at_o : FV := fnK N_law_zeros_at_o t_law_zeros_at_o
@[simp] def N_law_mmul : List Str := ["one", "two", "found", "k", "j", "i"]
noncomputable def b_law_mmul_1 : VS :=
  (vWipe [5] (vIf (vTst (vOp uNe (vOp uIx (vOp uIx (vOp uIx (vV 1) (vV 4)) (vV 5)) (vC (.int 0))) (vC (.int 0)))) (vAsg (vCall 2 sem_law_add (vCons (vOp uIx (vOp uIx (vV 2) (vV 3)) (vV 5)) (vCons (vCall 2 sem_law_mul (vCons (vOp uIx (vOp uIx (vV 0) (vV 3)) (vV 4)) (vCons (vOp uIx (vOp uIx (vV 1) (vV 4)) (vV 5)) vNil))) vNil))) (hSub kSet (vOp uIx (vV 2) (vV 3)) (vV 5))) vNext))
noncomputable def b_law_mmul_2 : VS :=
  (vWipe [4, 5] (vWipe [5] (vIf (vTst (vOp uNe (vOp uIx (vOp uIx (vOp uIx (vV 0) (vV 3)) (vV 4)) (vC (.int 0))) (vC (.int 0)))) (vWipe [5] (vFor (iR1 (vCB uLen (vCons (vOp uIx (vV 1) (vC (.int 0))) vNil))) (hNm 5) b_law_mmul_1)) vNext)))
noncomputable def b_law_mmul_3 : VS :=
  (vWipe [3, 4, 5] (vWipe [4, 5] (vFor (iR1 (vCB uLen (vCons (vV 1) vNil))) (hNm 4) b_law_mmul_2)))
noncomputable def t_law_mmul : VS :=
  (vSeq (vSet 2 (vCall 2 sem_law_zeros_at_o (vCons (vCB uLen (vCons (vV 0) vNil)) (vCons (vCB uLen (vCons (vOp uIx (vV 1) (vC (.int 0))) vNil)) vNil))))
    (vSeq (vWipe [3, 4, 5] (vFor (iR1 (vCB uLen (vCons (vV 0) vNil))) (hNm 3) b_law_mmul_3))
    (vRet (vV 2))))
noncomputable def sem_law_mmul : FV := fnV N_law_mmul t_law_mmul
@[simp] def N_law_kron : List Str := ["one", "two", "found", "left", "right", "row", "entry", "other"]
noncomputable def b_law_kron_1 : VS :=
  (vWipe [6] (vSet 5 (vOp uAdd (vV 5) (vLc (iSq (vV 4)) (.one 7) vYes (vCall 2 sem_law_mul (vCons (vV 6) (vCons (vV 7) vNil))) [7]))))
noncomputable def b_law_kron_2 : VS :=
  (vWipe [4, 5, 6] (vSeq (vSet 5 (vLst vNil))
    (vSeq (vWipe [6] (vFor (iSq (vV 3)) (hNm 6) b_law_kron_1))
    (vDrop (vMt uAppend (vV 2) (vCons (vV 5) vNil))))))
noncomputable def b_law_kron_3 : VS :=
  (vWipe [3, 4, 5, 6] (vWipe [4, 5, 6] (vFor (iSq (vV 1)) (hNm 4) b_law_kron_2)))
noncomputable def t_law_kron : VS :=
  (vSeq (vSet 2 (vLstO vNil))
    (vSeq (vWipe [3, 4, 5, 6] (vFor (iSq (vV 0)) (hNm 3) b_law_kron_3))
    (vRet (vV 2))))
noncomputable def sem_law_kron : FV := fnV N_law_kron t_law_kron
@[simp] def N_law_turned : List Str := ["one", "k", "row"]
noncomputable def t_law_turned : VS :=
  (vRet (vLc (iR1 (vCB uLen (vCons (vOp uIx (vV 0) (vC (.int 0))) vNil))) (.one 1) vYes (vLc (iSq (vV 0)) (.one 2) vYes (vOp uIx (vV 2) (vV 1)) [2]) [1]))
noncomputable def sem_law_turned : FV := fnV N_law_turned t_law_turned
@[simp] def N_above_at_o : List Str := ["one", "two", "row"]
noncomputable def t_above_at_o : VS :=
  (vRet (vLcO (iSq (vOp uAdd (vV 0) (vV 1))) (.one 2) vYes (vCB uListO (vCons (vV 2) vNil)) [2]))
noncomputable def sem_above_at_o : FV := fnK N_above_at_o t_above_at_o
/-! ### plain -/
abbrev Mat := List (List Rat)
abbrev dRow (r : List Rat) : PyData := .list (r.map dR)
abbrev dM (m : Mat) : PyData := .list (m.map dRow)
abbrev wM (m : Mat) : W := .d (dM m)
/-- all entries of at most n bits -/
def MB (m : Mat) (n : Nat) : Prop := ∀ r ∈ m, ∀ x ∈ r, sz x n
structure Dim (m : Mat) (p q : Nat) : Prop where
  len : m.length = p
  row : ∀ r ∈ m, r.length = q
section
variable {O : List Ob}
@[simp] theorem uEq_M {neg : Bool} {a b : Mat} : uEqN neg (wM a) (wM b) O = some (.d (.bool (if neg then !decide (a = b) else decide (a = b))), O) := uEq_D (α := List (List Rat)) (by decide) a b
theorem rep_flat {α : Type} (x : α) : ∀ n : Nat, (List.replicate n [x]).flatten = List.replicate n x
  | 0 => rfl
  | n + 1 => by rw [List.replicate_succ, List.replicate_succ, List.flatten_cons, rep_flat x n]; rfl
theorem dR_0 : dR 0 = .tuple [.int 0, .int 1] := rfl
theorem dR_1 : dR 1 = .tuple [.int 1, .int 1] := rfl
theorem map_const_range {α : Type} (x : α) (n : Nat) : (List.range n).map (fun _ => x) = List.replicate n x := by
  rw [List.map_const', List.length_range]
theorem uMul_zero {c : Nat} (hc : c ≤ 1000000) : uMul (.d (.list [.tuple [.int 0, .int 1]])) (.d (.int (c : Int))) O = some (.d (dRow (List.replicate c 0)), O) := by
  rw [uMul_l (smT_nat (by omega)) (by rw [Int.toNat_natCast]; simp only [List.length_cons, List.length_nil]; omega), Int.toNat_natCast, rep_flat]
  simp [dR_0]
theorem R_nat {n : Nat} (h : n ≤ 1000000) (i : Nat) {Γ : Gm} (e : Γ[i]? = some (some (.d (.int (n : Int))))) : iR1 (vV i) Γ O = .ok ((List.range n).map fun k : Nat => W.d (.int (0 + (k : Int))), []) O := by
  have h1 : smI (n : Int) := smI_nat (by omega)
  simp [e, h1, rng_map]
theorem r_zeros {a b : Nat} (ha : a ≤ 1000000) (hb : b ≤ 1000000) : sem_zeros [.d (.int a), .d (.int b)] O = .ok (wM (List.replicate a (List.replicate b 0))) O := by
  have lp : vLc (iR1 (vV 0)) (.one 2) vYes (vOp uMul (vLst (vCons (vTup (vCons (vC (.int 0)) (vCons (vC (.int 1)) vNil))) vNil)) (vV 1)) [2] [some (.d (.int a)), some (.d (.int b)), none] O = .ok (.d (.list ((List.range a).map fun _ => dRow (List.replicate b 0)))) O :=
    lc_map (List.range a) _ _ (R_nat ha 0 rfl) (chkOf_nil.mpr trivial) (by rw [List.length_range]; omega) fun x _ => by simp [uMul_zero hb]
  unfold sem_zeros t_zeros
  simp [lp, map_const_range]
theorem r_law_zeros {a b : Nat} (ha : a ≤ 1000000) (hb : b ≤ 1000000) : sem_law_zeros [.d (.int a), .d (.int b)] O = .ok (wM (List.replicate a (List.replicate b 0))) O := by
  have inner : ∀ w, vLc (iR1 (vV 1)) (.one 3) vYes (vTup (vCons (vC (.int 0)) (vCons (vC (.int 1)) vNil))) [3] [some (.d (.int a)), some (.d (.int b)), some w, none] O = .ok (.d (.list ((List.range b).map fun _ => dR 0))) O := fun w =>
    lc_map (List.range b) _ _ (R_nat hb 1 rfl) (chkOf_nil.mpr trivial) (by rw [List.length_range]; omega) fun x _ => by simp [dR_0]
  have lp : vLc (iR1 (vV 0)) (.one 2) vYes (vLc (iR1 (vV 1)) (.one 3) vYes (vTup (vCons (vC (.int 0)) (vCons (vC (.int 1)) vNil))) [3]) [2] [some (.d (.int a)), some (.d (.int b)), none, none] O = .ok (.d (.list ((List.range a).map fun _ => dRow (List.replicate b 0)))) O :=
    lc_map (List.range a) _ _ (R_nat ha 0 rfl) (chkOf_nil.mpr trivial) (by rw [List.length_range]; omega) fun x _ => by simp [inner, map_const_range]
  unfold sem_law_zeros t_law_zeros
  simp [lp, map_const_range]
/-- the unit matrix -/
def iM (n : Nat) : Mat := (List.range n).map fun i => (List.range n).map fun j => if i = j then 1 else 0
theorem dR_if (i j : Nat) : PyData.tuple [.int (if (i : Int) = (j : Int) then 1 else 0), .int 1] = dR (if i = j then 1 else 0) := by
  by_cases h : i = j
  · rw [if_pos h, if_pos (by omega)]; rfl
  · rw [if_neg h, if_neg (by omega)]; rfl
theorem r_unit {n : Nat} (h : n ≤ 1000000) : sem_unit [.d (.int n)] O = .ok (wM (iM n)) O := by
  have inner : ∀ i : Nat, vLc (iR1 (vV 0)) (.one 2) vYes (vTup (vCons (vCB uIntF (vCons (vOp uEq (vV 1) (vV 2)) vNil)) (vCons (vC (.int 1)) vNil))) [2] [some (.d (.int n)), some (.d (.int i)), none] O = .ok (.d (.list ((List.range n).map fun j => dR (if i = j then 1 else 0)))) O := fun i =>
    lc_map (List.range n) _ _ (R_nat h 0 rfl) (chkOf_nil.mpr trivial) (by rw [List.length_range]; omega) fun x _ => by
      rw [← dR_if]; simp
  have lp : vLc (iR1 (vV 0)) (.one 1) vYes (vLc (iR1 (vV 0)) (.one 2) vYes (vTup (vCons (vCB uIntF (vCons (vOp uEq (vV 1) (vV 2)) vNil)) (vCons (vC (.int 1)) vNil))) [2]) [1] [some (.d (.int n)), none, none] O = .ok (.d (.list ((List.range n).map fun i => dRow ((List.range n).map fun j => if i = j then 1 else 0)))) O :=
    lc_map (List.range n) _ _ (R_nat h 0 rfl) (chkOf_nil.mpr trivial) (by rw [List.length_range]; omega) fun x _ => by
      simp [inner, Function.comp_def]
  unfold sem_unit t_unit
  simp only [e_fnV, e_start, e_Ret, N_unit, List.length_cons, List.length_nil, List.map_cons, List.map_nil]
  show ((vLc _ _ _ _ _ [some (.d (.int n)), none, none] O).toS _ _).fin O = _
  rw [lp]
  simp [iM, List.map_map]
theorem r_law_unit {n : Nat} (h : n ≤ 1000000) : sem_law_unit [.d (.int n)] O = .ok (wM (iM n)) O := r_unit h
/-- entry by entry -/
def zM (f : Rat → Rat → Rat) (a b : Mat) : Mat := (a.zip b).map fun p => (p.1.zip p.2).map fun q => f q.1 q.2
theorem mem_zip {α β : Type} {a : α} {b : β} {l : List α} {m : List β} (h : (a, b) ∈ l.zip m) : a ∈ l ∧ b ∈ m := List.of_mem_zip h
theorem r_matrix_sum {a b : Mat} {n m : Nat} (ha : MB a n) (hb : MB b m) (h : n + m ≤ 9000) (la : a.length ≤ 1000000) (lr : ∀ r ∈ a, r.length ≤ 1000000) : sem_matrix_sum [wM a, wM b] O = .ok (wM (zM (· + ·) a b)) O := by
  have inner : ∀ r s, r ∈ a → s ∈ b → vLc (iZp (vV 2) (vV 3)) (.many [4, 5]) vYes (vCall 2 sem_plus (vCons (vV 4) (vCons (vV 5) vNil))) [4, 5] [some (wM a), some (wM b), some (.d (dRow r)), some (.d (dRow s)), none, none] O = .ok (.d (.list ((r.zip s).map fun q => dR (q.1 + q.2)))) O := fun r s hr hs =>
    lc_map (r.zip s) (fun q => .d (.tuple [dR q.1, dR q.2])) _ (O1 := O) (chk := []) (by simp [zipW_map]) (chkOf_nil.mpr trivial) (by rw [List.length_zip]; have := lr r hr; omega) fun q hq => by
      obtain ⟨h1, h2⟩ := mem_zip (a := q.1) (b := q.2) hq
      have e := r_plus (O := O) (ha r hr _ h1) (hb s hs _ h2) h
      simp [e]
  have lp : vLc (iZp (vV 0) (vV 1)) (.many [2, 3]) vYes (vLc (iZp (vV 2) (vV 3)) (.many [4, 5]) vYes (vCall 2 sem_plus (vCons (vV 4) (vCons (vV 5) vNil))) [4, 5]) [2, 3] [some (wM a), some (wM b), none, none, none, none] O = .ok (.d (.list ((a.zip b).map fun p => dRow ((p.1.zip p.2).map fun q => q.1 + q.2)))) O :=
    lc_map (a.zip b) (fun p => .d (.tuple [dRow p.1, dRow p.2])) _ (O1 := O) (chk := []) (by simp [zipW_map]) (chkOf_nil.mpr trivial) (by rw [List.length_zip]; omega) fun p hp => by
      obtain ⟨h1, h2⟩ := mem_zip (a := p.1) (b := p.2) hp
      simp [inner _ _ h1 h2]
  unfold sem_matrix_sum t_matrix_sum
  simp [lp, zM]
theorem r_matrix_gap {a b : Mat} {n m : Nat} (ha : MB a n) (hb : MB b m) (h : n + m ≤ 9000) (la : a.length ≤ 1000000) (lr : ∀ r ∈ a, r.length ≤ 1000000) : sem_matrix_gap [wM a, wM b] O = .ok (wM (zM (· - ·) a b)) O := by
  have inner : ∀ r s, r ∈ a → s ∈ b → vLc (iZp (vV 2) (vV 3)) (.many [4, 5]) vYes (vCall 2 sem_minus (vCons (vV 4) (vCons (vV 5) vNil))) [4, 5] [some (wM a), some (wM b), some (.d (dRow r)), some (.d (dRow s)), none, none] O = .ok (.d (.list ((r.zip s).map fun q => dR (q.1 - q.2)))) O := fun r s hr hs =>
    lc_map (r.zip s) (fun q => .d (.tuple [dR q.1, dR q.2])) _ (O1 := O) (chk := []) (by simp [zipW_map]) (chkOf_nil.mpr trivial) (by rw [List.length_zip]; have := lr r hr; omega) fun q hq => by
      obtain ⟨h1, h2⟩ := mem_zip (a := q.1) (b := q.2) hq
      have e := r_minus (O := O) (ha r hr _ h1) (hb s hs _ h2) h
      simp [e]
  have lp : vLc (iZp (vV 0) (vV 1)) (.many [2, 3]) vYes (vLc (iZp (vV 2) (vV 3)) (.many [4, 5]) vYes (vCall 2 sem_minus (vCons (vV 4) (vCons (vV 5) vNil))) [4, 5]) [2, 3] [some (wM a), some (wM b), none, none, none, none] O = .ok (.d (.list ((a.zip b).map fun p => dRow ((p.1.zip p.2).map fun q => q.1 - q.2)))) O :=
    lc_map (a.zip b) (fun p => .d (.tuple [dRow p.1, dRow p.2])) _ (O1 := O) (chk := []) (by simp [zipW_map]) (chkOf_nil.mpr trivial) (by rw [List.length_zip]; omega) fun p hp => by
      obtain ⟨h1, h2⟩ := mem_zip (a := p.1) (b := p.2) hp
      simp [inner _ _ h1 h2]
  unfold sem_matrix_gap t_matrix_gap
  simp [lp, zM]
/-- the matrix times a number -/
def nM (k : Rat) (a : Mat) : Mat := a.map fun r => r.map fun x => k * x
theorem r_matrix_times {k : Rat} {a : Mat} {n m : Nat} (hk : sz k n) (ha : MB a m) (h : n + m ≤ 9000) (la : a.length ≤ 1000000) (lr : ∀ r ∈ a, r.length ≤ 1000000) : sem_matrix_times [wR k, wM a] O = .ok (wM (nM k a)) O := by
  have inner : ∀ r, r ∈ a → vLc (iSq (vV 2)) (.one 3) vYes (vCall 2 sem_times (vCons (vV 0) (vCons (vV 3) vNil))) [3] [some (wR k), some (wM a), some (.d (dRow r)), none] O = .ok (.d (.list (r.map fun x => dR (k * x)))) O := fun r hr =>
    lc_map r (fun x => .d (dR x)) _ (O1 := O) (chk := []) (by simp) (chkOf_nil.mpr trivial) (by have := lr r hr; omega) fun x hx => by
      have e := r_times (O := O) hk (ha r hr x hx) h
      simp [e]
  have lp : vLc (iSq (vV 1)) (.one 2) vYes (vLc (iSq (vV 2)) (.one 3) vYes (vCall 2 sem_times (vCons (vV 0) (vCons (vV 3) vNil))) [3]) [2] [some (wR k), some (wM a), none, none] O = .ok (.d (.list (a.map fun r => dRow (r.map fun x => k * x)))) O :=
    lc_map a (fun r => .d (dRow r)) _ (O1 := O) (chk := []) (by simp) (chkOf_nil.mpr trivial) (by omega) fun r hr => by
      simp [inner _ hr]
  unfold sem_matrix_times t_matrix_times
  simp [lp, nM]
theorem r_law_mtimes {k : Rat} {a : Mat} {n m : Nat} (hk : sz k n) (ha : MB a m) (h : n + m ≤ 9000) (la : a.length ≤ 1000000) (lr : ∀ r ∈ a, r.length ≤ 1000000) : sem_law_mtimes [wR k, wM a] O = .ok (wM (nM k a)) O := by
  have inner : ∀ r, r ∈ a → vLc (iSq (vV 2)) (.one 3) vYes (vCall 2 sem_law_mul (vCons (vV 0) (vCons (vV 3) vNil))) [3] [some (wR k), some (wM a), some (.d (dRow r)), none] O = .ok (.d (.list (r.map fun x => dR (k * x)))) O := fun r hr =>
    lc_map r (fun x => .d (dR x)) _ (O1 := O) (chk := []) (by simp) (chkOf_nil.mpr trivial) (by have := lr r hr; omega) fun x hx => by
      have e := r_law_mul (O := O) hk (ha r hr x hx) h
      simp [e]
  have lp : vLc (iSq (vV 1)) (.one 2) vYes (vLc (iSq (vV 2)) (.one 3) vYes (vCall 2 sem_law_mul (vCons (vV 0) (vCons (vV 3) vNil))) [3]) [2] [some (wR k), some (wM a), none, none] O = .ok (.d (.list (a.map fun r => dRow (r.map fun x => k * x)))) O :=
    lc_map a (fun r => .d (dRow r)) _ (O1 := O) (chk := []) (by simp) (chkOf_nil.mpr trivial) (by omega) fun r hr => by
      simp [inner _ hr]
  unfold sem_law_mtimes t_law_mtimes
  simp [lp, nM]
/-! ### places -/
abbrev rw_ (m : Mat) (k : Nat) : List Rat := m[k]?.getD []
abbrev gt (m : Mat) (k j : Nat) : Rat := (m[k]?.getD [])[j]?.getD 0
theorem getD_mem {α : Type} {l : List α} {k : Nat} {d : α} (h : k < l.length) : l[k]?.getD d ∈ l := by
  rw [List.getElem?_eq_getElem h]; exact List.getElem_mem h
theorem uIx_M {a : Mat} {k : Nat} (h : k < a.length) : uIx (wM a) (.d (.int (k : Int))) O = some (.d (dRow (rw_ a k)), O) := uIx_l (by
  rw [List.getElem?_map]
  show _ = some (dRow (a[k]?.getD []))
  rw [List.getElem?_eq_getElem h]; rfl)
theorem uIx_R {r : List Rat} {j : Nat} (h : j < r.length) : uIx (.d (dRow r)) (.d (.int (j : Int))) O = some (wR (r[j]?.getD 0), O) := uIx_l (by
  rw [List.getElem?_map, List.getElem?_eq_getElem h]; rfl)
theorem uIx_M0 {a : Mat} (h : 0 < a.length) : uIx (wM a) (.d (.int 0)) O = some (.d (dRow (rw_ a 0)), O) := uIx_M (k := 0) h
theorem Dim.at {m : Mat} {p q k : Nat} (d : Dim m p q) (h : k < p) : (rw_ m k).length = q := d.row _ (getD_mem (by rw [d.len]; exact h))
theorem MB.at {m : Mat} {p q k j n : Nat} (b : MB m n) (d : Dim m p q) (h : k < p) (hj : j < q) : sz (gt m k j) n := b _ (getD_mem (by rw [d.len]; exact h)) _ (getD_mem (by rw [d.at h]; exact hj))
/-- a list by its places -/
theorem list_range {α : Type} (l : List α) (d : α) {n : Nat} (h : l.length = n) : l = (List.range n).map fun k => l[k]?.getD d := by
  apply List.ext_getElem
  · simp [h]
  · intro i h1 h2
    simp [List.getElem?_eq_getElem h1]
def gen (p q : Nat) (f : Nat → Nat → Rat) : Mat := (List.range p).map fun k => (List.range q).map fun j => f k j
theorem gen_self {m : Mat} {p q : Nat} (d : Dim m p q) : m = gen p q (gt m) := by
  rw [list_range m [] d.len]
  unfold gen
  apply List.map_congr_left
  intro k hk
  rw [List.mem_range] at hk
  have e : ((List.range p).map fun k => m[k]?.getD [])[k]?.getD [] = m[k]?.getD [] := by
    rw [← list_range m [] d.len]
  rw [list_range (m[k]?.getD []) 0 (d.at hk)]
  apply List.map_congr_left
  intro j _
  show _ = (_)[j]?.getD 0
  rw [e]
theorem zM_gen {f : Rat → Rat → Rat} {a b : Mat} {p q : Nat} (da : Dim a p q) (db : Dim b p q) : zM f a b = gen p q fun k j => f (gt a k j) (gt b k j) := by
  unfold zM gen
  apply List.ext_getElem
  · simp [da.len, db.len]
  · intro k h1 h2
    simp [da.len, db.len] at h1
    have ha : k < a.length := by rw [da.len]; exact h1
    have hb : k < b.length := by rw [db.len]; exact h1
    have la : a[k].length = q := da.row _ (List.getElem_mem ha)
    have lb : b[k].length = q := db.row _ (List.getElem_mem hb)
    simp only [List.getElem_map, List.getElem_zip, List.getElem_range]
    apply List.ext_getElem
    · simp [la, lb]
    · intro j h3 h4
      simp [la, lb] at h3
      simp [gt, List.getElem?_eq_getElem ha, List.getElem?_eq_getElem hb, List.getElem?_eq_getElem (show j < a[k].length by omega), List.getElem?_eq_getElem (show j < b[k].length by omega)]
theorem r_law_msum {a b : Mat} {n m p q : Nat} (da : Dim a p q) (db : Dim b p q) (ha : MB a n) (hb : MB b m) (h : n + m ≤ 9000) (hp : 0 < p) (lp_ : p ≤ 1000000) (lq : q ≤ 1000000) : sem_law_msum [wM a, wM b] O = .ok (wM (zM (· + ·) a b)) O := by
  rw [zM_gen da db]
  have a0 : 0 < a.length := by rw [da.len]; exact hp
  have l0 : (rw_ a 0).length = q := da.at hp
  have inner : ∀ k, k < p → vLc (iR1 (vCB uLen (vCons (vOp uIx (vV 0) (vC (.int 0))) vNil))) (.one 3) vYes (vCall 2 sem_law_add (vCons (vOp uIx (vOp uIx (vV 0) (vV 2)) (vV 3)) (vCons (vOp uIx (vOp uIx (vV 1) (vV 2)) (vV 3)) vNil))) [3] [some (wM a), some (wM b), some (.d (.int (k : Int))), none] O = .ok (.d (.list ((List.range q).map fun j => dR (gt a k j + gt b k j)))) O := fun k hk =>
    lc_map (List.range q) (fun i : Nat => W.d (.int (0 + (i : Int)))) _ (O1 := O) (chk := []) (by simp [uIx_M0 a0, l0, smI_nat (show q ≤ 1000000000 by omega), rng_map]) (chkOf_nil.mpr trivial) (by rw [List.length_range]; omega) fun j hj => by
      rw [List.mem_range] at hj
      have e := r_law_add (O := O) (ha.at da hk hj) (hb.at db hk hj) h
      simp [uIx_M (show k < a.length by rw [da.len]; exact hk), uIx_M (show k < b.length by rw [db.len]; exact hk), uIx_R (show j < (rw_ a k).length by rw [da.at hk]; exact hj), uIx_R (show j < (rw_ b k).length by rw [db.at hk]; exact hj), e]
  have lp : vLc (iR1 (vCB uLen (vCons (vV 0) vNil))) (.one 2) vYes (vLc (iR1 (vCB uLen (vCons (vOp uIx (vV 0) (vC (.int 0))) vNil))) (.one 3) vYes (vCall 2 sem_law_add (vCons (vOp uIx (vOp uIx (vV 0) (vV 2)) (vV 3)) (vCons (vOp uIx (vOp uIx (vV 1) (vV 2)) (vV 3)) vNil))) [3]) [2] [some (wM a), some (wM b), none, none] O = .ok (.d (.list ((List.range p).map fun k => dRow ((List.range q).map fun j => gt a k j + gt b k j)))) O :=
    lc_map (List.range p) (fun i : Nat => W.d (.int (0 + (i : Int)))) _ (O1 := O) (chk := []) (by simp [da.len, smI_nat (show p ≤ 1000000000 by omega), rng_map]) (chkOf_nil.mpr trivial) (by rw [List.length_range]; omega) fun k hk => by
      rw [List.mem_range] at hk
      simp [inner k hk]
  unfold sem_law_msum t_law_msum
  simp [lp, gen]
theorem r_law_mgap {a b : Mat} {n m p q : Nat} (da : Dim a p q) (db : Dim b p q) (ha : MB a n) (hb : MB b m) (h : n + m ≤ 9000) (hp : 0 < p) (lp_ : p ≤ 1000000) (lq : q ≤ 1000000) : sem_law_mgap [wM a, wM b] O = .ok (wM (zM (· - ·) a b)) O := by
  rw [zM_gen da db]
  have a0 : 0 < a.length := by rw [da.len]; exact hp
  have l0 : (rw_ a 0).length = q := da.at hp
  have inner : ∀ k, k < p → vLc (iR1 (vCB uLen (vCons (vOp uIx (vV 0) (vC (.int 0))) vNil))) (.one 3) vYes (vCall 2 sem_law_sub (vCons (vOp uIx (vOp uIx (vV 0) (vV 2)) (vV 3)) (vCons (vOp uIx (vOp uIx (vV 1) (vV 2)) (vV 3)) vNil))) [3] [some (wM a), some (wM b), some (.d (.int (k : Int))), none] O = .ok (.d (.list ((List.range q).map fun j => dR (gt a k j - gt b k j)))) O := fun k hk =>
    lc_map (List.range q) (fun i : Nat => W.d (.int (0 + (i : Int)))) _ (O1 := O) (chk := []) (by simp [uIx_M0 a0, l0, smI_nat (show q ≤ 1000000000 by omega), rng_map]) (chkOf_nil.mpr trivial) (by rw [List.length_range]; omega) fun j hj => by
      rw [List.mem_range] at hj
      have e := r_law_sub (O := O) (ha.at da hk hj) (hb.at db hk hj) h
      simp [uIx_M (show k < a.length by rw [da.len]; exact hk), uIx_M (show k < b.length by rw [db.len]; exact hk), uIx_R (show j < (rw_ a k).length by rw [da.at hk]; exact hj), uIx_R (show j < (rw_ b k).length by rw [db.at hk]; exact hj), e]
  have lp : vLc (iR1 (vCB uLen (vCons (vV 0) vNil))) (.one 2) vYes (vLc (iR1 (vCB uLen (vCons (vOp uIx (vV 0) (vC (.int 0))) vNil))) (.one 3) vYes (vCall 2 sem_law_sub (vCons (vOp uIx (vOp uIx (vV 0) (vV 2)) (vV 3)) (vCons (vOp uIx (vOp uIx (vV 1) (vV 2)) (vV 3)) vNil))) [3]) [2] [some (wM a), some (wM b), none, none] O = .ok (.d (.list ((List.range p).map fun k => dRow ((List.range q).map fun j => gt a k j - gt b k j)))) O :=
    lc_map (List.range p) (fun i : Nat => W.d (.int (0 + (i : Int)))) _ (O1 := O) (chk := []) (by simp [da.len, smI_nat (show p ≤ 1000000000 by omega), rng_map]) (chkOf_nil.mpr trivial) (by rw [List.length_range]; omega) fun k hk => by
      rw [List.mem_range] at hk
      simp [inner k hk]
  unfold sem_law_mgap t_law_mgap
  simp [lp, gen]
/-- rows and columns exchanged -/
def tM (a : Mat) (q : Nat) : Mat := (List.range q).map fun i => a.map fun r => r[i]?.getD 0
theorem colD_rows {a : Mat} {q i : Nat} (h : ∀ r ∈ a, r.length = q) (hi : i < q) : colD (a.map fun r => r.map dR) i = (a.map fun r => r[i]?.getD 0).map dR := by
  induction a with
  | nil => rfl
  | cons r a ih =>
    have hr := h r (List.mem_cons_self ..)
    have hir : i < r.length := by omega
    rw [List.map_cons, colD_cons (by rw [List.length_map]; exact hir), ih fun s hs => h s (List.mem_cons_of_mem _ hs), List.map_cons, List.map_cons, List.getElem_map, List.getElem?_eq_getElem hir]
    rfl
theorem r_turned {a : Mat} {p q : Nat} (d : Dim a p q) (hp : 0 < p) (lp_ : p ≤ 1000) (lq : q ≤ 1000000) : sem_turned [wM a] O = .ok (wM (tM a q)) O := by
  have lp : vLc (iZn (vV 0)) (.one 1) vYes (vCB uList (vCons (vV 1) vNil)) [1] [some (wM a), none] O = .ok (.d (.list ((List.range q).map fun i => dRow (a.map fun r => r[i]?.getD 0)))) O :=
    lc_map (List.range q) (fun i => .d (.tuple (colD (a.map fun r => r.map dR) i))) _ (O1 := O) (chk := []) (by
      cases a with
      | nil => have := d.len; simp at this; omega
      | cons r a =>
        have e : rowsOf ((r :: a).map dRow) = some ((r :: a).map fun r => r.map dR) := by
          rw [← rowsOf_map, List.map_map]; rfl
        have hr : r.length = q := d.row r (List.mem_cons_self ..)
        have hl := d.len
        rw [List.length_cons] at hl
        simp only [e_iZn, e_V, List.getElem?_cons_zero, R.bind_ok]
        rw [e]
        simp only [List.map_cons, List.length_map, hr]
        rw [if_pos ⟨by omega, fun q hq => by
          obtain ⟨s, hs, rfl⟩ := List.mem_map.mp hq
          rw [List.length_map]; exact d.row s (List.mem_cons_of_mem _ hs)⟩]) (chkOf_nil.mpr trivial) (by rw [List.length_range]; omega) fun i hi => by
      rw [List.mem_range] at hi
      have e := colD_rows d.row hi
      have u : ∀ xs : List PyData, uList [.d (.tuple xs)] O = some (.d (.list xs), O) := fun xs => by
        show some (mkL (xs.map W.d) O) = _
        rw [mkL_m]
      simp [u, e]
  unfold sem_turned t_turned
  simp [lp, tM]
theorem r_law_turned {a : Mat} {p q : Nat} (d : Dim a p q) (hp : 0 < p) (lp_ : p ≤ 1000000) (lq : q ≤ 1000000) : sem_law_turned [wM a] O = .ok (wM (tM a q)) O := by
  have a0 : 0 < a.length := by rw [d.len]; exact hp
  have l0 : (rw_ a 0).length = q := d.at hp
  have inner : ∀ k, k < q → vLc (iSq (vV 0)) (.one 2) vYes (vOp uIx (vV 2) (vV 1)) [2] [some (wM a), some (.d (.int (k : Int))), none] O = .ok (.d (.list (a.map fun r => dR (r[k]?.getD 0)))) O := fun k hk =>
    lc_map a (fun r => .d (dRow r)) _ (O1 := O) (chk := []) (by simp) (chkOf_nil.mpr trivial) (by rw [d.len]; omega) fun r hr => by
      simp [uIx_R (show k < r.length by rw [d.row r hr]; exact hk)]
  have lp : vLc (iR1 (vCB uLen (vCons (vOp uIx (vV 0) (vC (.int 0))) vNil))) (.one 1) vYes (vLc (iSq (vV 0)) (.one 2) vYes (vOp uIx (vV 2) (vV 1)) [2]) [1] [some (wM a), none, none] O = .ok (.d (.list ((List.range q).map fun i => dRow (a.map fun r => r[i]?.getD 0)))) O :=
    lc_map (List.range q) (fun i : Nat => W.d (.int (0 + (i : Int)))) _ (O1 := O) (chk := []) (by simp [uIx_M0 a0, l0, smI_nat (show q ≤ 1000000000 by omega), rng_map]) (chkOf_nil.mpr trivial) (by rw [List.length_range]; omega) fun k hk => by
      rw [List.mem_range] at hk
      simp [inner k hk]
  unfold sem_law_turned t_law_turned
  simp [lp, tM]
theorem uAdd_l {xs ys : List PyData} (h : xs.length + ys.length ≤ 16777216) : uAdd (.d (.list xs)) (.d (.list ys)) O = some (.d (.list (xs ++ ys)), O) := by
  show (if (xs.map W.d).length + (ys.map W.d).length ≤ sizeLine then some (mkL (xs.map W.d ++ ys.map W.d) O) else none) = _
  rw [if_pos (by simpa using h), ← List.map_append, mkL_m]
/-- side by side -/
def bM (a b : Mat) : Mat := (a.zip b).map fun p => p.1 ++ p.2
theorem r_beside {a b : Mat} {p q r : Nat} (da : Dim a p q) (db : Dim b p r) (lp_ : p ≤ 1000000) (lq : q + r ≤ 1000000) : sem_beside [wM a, wM b] O = .ok (wM (bM a b)) O := by
  have lp : vLc (iZp (vV 0) (vV 1)) (.many [2, 3]) vYes (vOp uAdd (vV 2) (vV 3)) [2, 3] [some (wM a), some (wM b), none, none] O = .ok (.d (.list ((a.zip b).map fun p => dRow (p.1 ++ p.2)))) O :=
    lc_map (a.zip b) (fun p => .d (.tuple [dRow p.1, dRow p.2])) _ (O1 := O) (chk := []) (by simp [zipW_map]) (chkOf_nil.mpr trivial) (by rw [List.length_zip, da.len, db.len]; omega) fun x hx => by
      obtain ⟨h1, h2⟩ := mem_zip (a := x.1) (b := x.2) hx
      have e := uAdd_l (O := O) (xs := x.1.map dR) (ys := x.2.map dR) (by rw [List.length_map, List.length_map, da.row _ h1, db.row _ h2]; omega)
      simp [e]
  unfold sem_beside t_beside
  simp [lp, bM]
/-! ### rows summed -/
def rstep (f : List Rat) (p : Rat × List Rat) : List Rat := (f.zip p.2).map fun x => x.1 + p.1 * x.2
def rsum (r : List Rat) (b : Mat) (q : Nat) : List Rat := (r.zip b).foldl rstep (List.replicate q 0)
theorem rstep_len {f : List Rat} {p : Rat × List Rat} {q : Nat} (h : f.length = q) (h2 : p.2.length = q) : (rstep f p).length = q := by
  unfold rstep; rw [List.length_map, List.length_zip, h, h2, Nat.min_self]
theorem rstep_0 {f r : List Rat} (h : f.length = r.length) : rstep f (0, r) = f := by
  unfold rstep
  apply List.ext_getElem
  · simp [h]
  · intro i h1 h2
    simp [Rat.zero_mul, Rat.add_zero]
theorem sz_list {f : List Rat} {p : Rat × List Rat} {n m k : Nat} (hf : ∀ x ∈ f, sz x k) (hp : sz p.1 n) (hr : ∀ x ∈ p.2, sz x m) : ∀ x ∈ rstep f p, sz x (k + (n + m) + 1) := by
  intro x hx
  unfold rstep at hx
  obtain ⟨y, hy, rfl⟩ := List.mem_map.mp hx
  obtain ⟨h1, h2⟩ := mem_zip (a := y.1) (b := y.2) hy
  exact sz_add (hf _ h1) (sz_mul hp (hr _ h2))
theorem num0 {x : Rat} : (x.num = 0) ↔ x = 0 := Rat.num_eq_zero
theorem r_row_sum {r : List Rat} {b : Mat} {n m p q : Nat} (db : Dim b p q) (hp : 0 < p) (hr : ∀ x ∈ r, sz x n) (hb : MB b m) (h : p * (n + m + 1) + (n + m) ≤ 8000) (lp_ : p ≤ 1000000) (lq : q ≤ 1000000) : sem_row_sum [.d (dRow r), wM b] O = .ok (.d (dRow (rsum r b q))) O := by
  have b0 : 0 < b.length := by rw [db.len]; exact hp
  have l0 : (rw_ b 0).length = q := db.at hp
  have fold := (forV_foldI (g := hTpN 2 (hCs (hNm 3) (hCs (hNm 4) hEnd))) (b := b_row_sum_1) (chk := []) (fun x : Rat × List Rat => W.d (.tuple [dR x.1, dRow x.2])) (fun f : List Rat => [some (.d (dRow r)), some (wM b), some (.d (dRow f)), none, none, none, none]) (fun _ => O) rstep
    (fun t f => t ≤ p ∧ f.length = q ∧ ∀ x ∈ f, sz x (1 + t * (n + m + 1))) (fun _ _ _ => chkOf_nil.mpr trivial) (r.zip b) 0 (List.replicate q 0) ⟨by omega, List.length_replicate, fun x hx => by
      rw [List.eq_of_mem_replicate hx]; exact sz_0 (by omega)⟩ (fun i f x hx hI => by
        obtain ⟨h1, h2, h3⟩ := hI
        have hm := List.mem_of_getElem? hx
        obtain ⟨m1, m2⟩ := mem_zip (a := x.1) (b := x.2) hm
        have hi := (List.getElem?_eq_some_iff.mp hx).1
        rw [List.length_zip, db.len] at hi
        have hi2 : 0 + i + 1 ≤ p := by omega
        have lx : x.2.length = q := db.row _ m2
        refine ⟨⟨hi2, rstep_len h2 lx, fun y hy => ?_⟩, .inl ?_⟩
        · have := sz_list h3 (hr _ m1) (hb _ m2) y hy
          refine this.mono ?_
          rw [show (0 + i + 1) * (n + m + 1) = (0 + i) * (n + m + 1) + (n + m + 1) by rw [Nat.add_mul _ 1, Nat.one_mul]]; omega
        · have hmul : (0 + i) * (n + m + 1) ≤ p * (n + m + 1) := Nat.mul_le_mul_right _ (by omega)
          by_cases hz : x.1 = 0
          · have e0 : x.1.num = 0 := num0.mpr hz
            have es : rstep f x = f := by
              have : x = (0, x.2) := Prod.ext hz rfl
              rw [this]; exact rstep_0 (by rw [h2]; exact lx.symm)
            rw [es]
            simp [stepV, b_row_sum_1, e0]
          · have e0 : ¬ x.1.num = 0 := fun z => hz (num0.mp z)
            have lp : vLc (iZp (vV 2) (vV 4)) (.many [5, 6]) vYes (vIfE (vTst (vOp uNe (vOp uIx (vV 6) (vC (.int 0))) (vC (.int 0)))) (vCall 2 sem_plus (vCons (vV 5) (vCons (vCall 2 sem_times (vCons (vV 3) (vCons (vV 6) vNil))) vNil))) (vV 5)) [5, 6] [some (.d (dRow r)), some (wM b), some (.d (dRow f)), some (wR x.1), some (.d (dRow x.2)), none, none] O = .ok (.d (.list ((f.zip x.2).map fun y => dR (y.1 + x.1 * y.2)))) O :=
              lc_map (f.zip x.2) (fun y => .d (.tuple [dR y.1, dR y.2])) _ (O1 := O) (chk := []) (by simp [zipW_map]) (chkOf_nil.mpr trivial) (by rw [List.length_zip]; omega) fun y hy => by
                obtain ⟨n1, n2⟩ := mem_zip (a := y.1) (b := y.2) hy
                by_cases hz2 : y.2 = 0
                · have e2 : y.2.num = 0 := num0.mpr hz2
                  have e3 : y.1 + x.1 * y.2 = y.1 := by rw [hz2, Rat.mul_zero, Rat.add_zero]
                  rw [e3]
                  simp [e2]
                · have e2 : ¬ y.2.num = 0 := fun z => hz2 (num0.mp z)
                  have t1 := r_times (O := O) (hr _ m1) (hb _ m2 _ n2) (by omega)
                  have t2 := r_plus (O := O) (h3 _ n1) (sz_mul (hr _ m1) (hb _ m2 _ n2)) (by omega)
                  simp [e2, t1, t2]
            simp [stepV, b_row_sum_1, e0, lp, rstep])).1
  have hz := uMul_zero (O := O) (c := q) lq
  unfold sem_row_sum t_row_sum
  simp [uIx_M0 b0, l0, hz, zipW_map, fold, rsum]
/-- the product -/
def mmul (a b : Mat) (q : Nat) : Mat := a.map fun r => rsum r b q
theorem r_matrix_product {a b : Mat} {n m p q : Nat} (db : Dim b p q) (hp : 0 < p) (ha : MB a n) (hb : MB b m) (h : p * (n + m + 1) + (n + m) ≤ 8000) (la : a.length ≤ 1000000) (lp_ : p ≤ 1000000) (lq : q ≤ 1000000) : sem_matrix_product [wM a, wM b] O = .ok (wM (mmul a b q)) O := by
  have lp : vLc (iSq (vV 0)) (.one 2) vYes (vCall 2 sem_row_sum (vCons (vV 2) (vCons (vV 1) vNil))) [2] [some (wM a), some (wM b), none] O = .ok (.d (.list (a.map fun r => dRow (rsum r b q)))) O :=
    lc_map a (fun r => .d (dRow r)) _ (O1 := O) (chk := []) (by simp) (chkOf_nil.mpr trivial) (by omega) fun r hr => by
      have e := r_row_sum (O := O) db hp (ha r hr) hb h lp_ lq
      simp [e]
  unfold sem_matrix_product t_matrix_product
  simp [lp, mmul]
/-! ### own nested lists -/
/-- rows as own objects, and the list of them behind -/
def nest (O : List Ob) (F : Mat) : List Ob := O ++ (F.map fun r => Ob.lst (r.map wR)) ++ [.lst ((List.range F.length).map fun i => .o (O.length + i))]
theorem nest_out {F : Mat} : (nest O F)[O.length + F.length]? = some (.lst ((List.range F.length).map fun i => W.o (O.length + i))) := by
  unfold nest
  rw [List.getElem?_append_right (by simp), List.length_append, List.length_map, Nat.sub_self]; rfl
theorem nest_row {F : Mat} {k : Nat} (h : k < F.length) : (nest O F)[O.length + k]? = some (.lst ((rw_ F k).map wR)) := by
  unfold nest
  rw [List.getElem?_append_left (by simp; exact h), List.getElem?_append_right (by omega), Nat.add_sub_cancel_left, List.getElem?_map, List.getElem?_eq_getElem h]
  show some (Ob.lst (F[k].map wR)) = some (.lst ((F[k]?.getD []).map wR))
  rw [List.getElem?_eq_getElem h]; rfl
theorem nest_set {F : Mat} {k : Nat} (h : k < F.length) (r : List Rat) : (nest O F).set (O.length + k) (.lst (r.map wR)) = nest O (F.set k r) := by
  unfold nest
  rw [List.set_append_left _ _ (by simp; exact h), List.set_append_right _ _ (by omega), Nat.add_sub_cancel_left, List.map_set, List.length_set]
theorem mapO_ex {α β γ : Type} {f : β → Option γ} (g : α → β) (h : α → γ) : ∀ l : List α, (∀ x ∈ l, f (g x) = some (h x)) → mapO f (l.map g) = some (l.map h)
  | [], _ => rfl
  | x :: l, e => by
    have h1 := e x (List.mem_cons_self ..)
    have h2 := mapO_ex g h l fun y hy => e y (List.mem_cons_of_mem _ hy)
    rw [List.map_cons, List.map_cons]
    unfold mapO
    rw [h1, h2]
theorem rsW_row {b k n : Nat} {r : List Rat} {P : List Ob} (hb : b ≤ k) (e : P[k]? = some (.lst (r.map wR))) : rsW b P (n + 2) (.o k) = some (dRow r) := by
  rw [rsW_o hb e, mapO_ex (f := rsW b P (n + 1)) wR dR r fun x _ => rsW_d]
  rfl
theorem rsW_nest {b n : Nat} {F : Mat} {P : List Ob} (hb : b ≤ O.length) (e : P[O.length + F.length]? = some (.lst ((List.range F.length).map fun i => W.o (O.length + i)))) (er : ∀ k, k < F.length → P[O.length + k]? = some (.lst ((rw_ F k).map wR))) : rsW b P (n + 3) (.o (O.length + F.length)) = some (dM F) := by
  rw [rsW_o (by omega) e, mapO_ex (f := rsW b P (n + 2)) (fun i => W.o (O.length + i)) (fun i => dRow (rw_ F i)) (List.range F.length) fun i hi => by
    rw [List.mem_range] at hi
    exact rsW_row (by omega) (er i hi)]
  show some (PyData.list _) = some (PyData.list _)
  rw [show F.map dRow = (List.range F.length).map fun i => dRow (rw_ F i) by
    conv => lhs; rw [list_range F [] rfl]
    rw [List.map_map]; rfl]
theorem fin_nest {F : Mat} : finW O (.o (O.length + F.length)) (nest O F) = .ok (wM F) O := by
  unfold finW
  rw [rsW_nest (O := O) (n := 5) (Nat.le_refl _) nest_out fun k hk => nest_row hk]
  dsimp only
  rw [if_pos (by unfold nest; rw [List.append_assoc]; exact OkTake.app _ _), show (nest O F).take O.length = O by unfold nest; rw [List.append_assoc, List.take_left' rfl]]
theorem lcV_own {α : Type} {f : W → List Ob → R (Option W)} (g : α → W) (ob : α → Ob) : ∀ (l : List α) (P : List Ob), (∀ P x, x ∈ l → f (g x) P = .ok (some (.o P.length)) (P ++ [ob x])) →
    lcV [] f (l.map g) P = .ok ((List.range l.length).map fun i => W.o (P.length + i)) (P ++ l.map ob)
  | [], P, _ => by simp
  | x :: l, P, e => by
    rw [List.map_cons, lcV_cons (chkOf_nil.mpr trivial), e P x (List.mem_cons_self ..), R.bind_ok, lcV_own g ob l _ fun P y hy => e P y (List.mem_cons_of_mem _ hy), R.bind_ok]
    rw [List.length_cons, List.range_succ_eq_map, List.map_cons, List.map_map, List.length_append, List.length_singleton, List.map_cons, List.append_assoc]
    simp only [Nat.add_zero, List.singleton_append]
    congr 2
    apply List.map_congr_left
    intro i _
    show W.o (P.length + 1 + i) = W.o (P.length + (i + 1))
    rw [Nat.add_assoc, Nat.add_comm 1 i]
theorem lcO_nest {α : Type} {it : VI} {g : Tg} {tt : VT} {te : VE} {us : List Nat} {Γ : Gm} (l : List α) (f : α → W) (row : α → List Rat) (hi : it Γ O = .ok (l.map f, []) O) (hl : l.length ≤ 16777216)
    (e : ∀ P x, x ∈ l → lcF g tt te (wipeD Γ us) (f x) P = .ok (some (.o P.length)) (P ++ [.lst ((row x).map wR)])) : vLcO it g tt te us Γ O = .ok (.o (O.length + l.length)) (nest O (l.map row)) := by
  show vLcM mkO it g tt te us Γ O = _
  rw [e_LcM, hi, R.bind_ok]
  dsimp only
  rw [lcV_own f (fun x => .lst ((row x).map wR)) l O e]
  show (if ((List.range l.length).map fun i => W.o (O.length + i)).length ≤ sizeLine then R.ok _ _ else .bad) = _
  rw [if_pos (by rw [List.length_map, List.length_range, sizeLine_val]; exact hl)]
  unfold nest
  simp only [mkO_e, List.length_append, List.length_map, List.map_map]
  rfl
theorem lcO_row {α : Type} {it : VI} {g : Tg} {tt : VT} {te : VE} {us : List Nat} {Γ : Gm} (l : List α) (f : α → W) (x : α → Rat) (hi : it Γ O = .ok (l.map f, []) O) (hl : l.length ≤ 16777216)
    (e : ∀ y ∈ l, lcF g tt te (wipeD Γ us) (f y) O = .ok (some (wR (x y))) O) : vLcO it g tt te us Γ O = .ok (.o O.length) (O ++ [.lst ((l.map x).map wR)]) := by
  show vLcM mkO it g tt te us Γ O = _
  rw [e_LcM, hi, R.bind_ok]
  dsimp only
  rw [lcV_map f (fun y => wR (x y)) (chkOf_nil.mpr trivial) l e]
  show (if (l.map fun y => wR (x y)).length ≤ sizeLine then R.ok _ _ else .bad) = _
  rw [if_pos (by rw [List.length_map, sizeLine_val]; exact hl), List.map_map]
  rfl
theorem r_law_zeros_o {a b : Nat} (ha : a ≤ 1000000) (hb : b ≤ 1000000) : sem_law_zeros_at_o [.d (.int a), .d (.int b)] O = .ok (.o (O.length + a)) (nest O (List.replicate a (List.replicate b 0))) := by
  have inner : ∀ P w, vLcO (iR1 (vV 1)) (.one 3) vYes (vTup (vCons (vC (.int 0)) (vCons (vC (.int 1)) vNil))) [3] [some (.d (.int a)), some (.d (.int b)), some w, none] P = .ok (.o P.length) (P ++ [.lst (((List.range b).map fun _ => (0 : Rat)).map wR)]) := fun P w =>
    lcO_row (List.range b) _ _ (R_nat hb 1 rfl) (by rw [List.length_range]; omega) fun x _ => by simp [dR_0]
  have lp := lcO_nest (O := O) (it := iR1 (vV 0)) (g := .one 2) (tt := vYes) (te := vLcO (iR1 (vV 1)) (.one 3) vYes (vTup (vCons (vC (.int 0)) (vCons (vC (.int 1)) vNil))) [3]) (us := [2]) (Γ := [some (.d (.int a)), some (.d (.int b)), none, none]) (List.range a) _ (fun _ => (List.range b).map fun _ => (0 : Rat)) (R_nat ha 0 rfl) (by rw [List.length_range]; omega) fun P x _ => by
    simp [inner]
  rw [List.length_range] at lp
  simp only [map_const_range] at lp
  unfold sem_law_zeros_at_o t_law_zeros_at_o
  simp [lp]
/-! ### the law's product -/
theorem uIx_nest {F : Mat} {k : Nat} (h : k < F.length) : uIx (.o (O.length + F.length)) (.d (.int (k : Int))) (nest O F) = some (.o (O.length + k), nest O F) :=
  uIx_o nest_out (by rw [List.getElem?_map, List.getElem?_range h]; rfl)
theorem uIx_nrow {F : Mat} {k j : Nat} (h : k < F.length) (hj : j < (rw_ F k).length) : uIx (.o (O.length + k)) (.d (.int (j : Int))) (nest O F) = some (wR (gt F k j), nest O F) :=
  uIx_o (nest_row h) (by rw [List.getElem?_map, List.getElem?_eq_getElem hj]; show some (wR _) = some (wR ((rw_ F k)[j]?.getD 0)); rw [List.getElem?_eq_getElem hj]; rfl)
theorem kSet_nrow {F : Mat} {k j : Nat} (h : k < F.length) (hj : j < (rw_ F k).length) (x : Rat) : kSet (.o (O.length + k)) (.d (.int (j : Int))) (wR x) (nest O F) = some (nest O (F.set k ((rw_ F k).set j x))) := by
  show (match (nest O F)[O.length + k]? with | some (.lst ws) => (ixN ws.length (j : Int)).map fun m => (nest O F).set (O.length + k) (.lst (ws.set m (wR x))) | _ => none) = _
  rw [nest_row h]
  have : ixN ((rw_ F k).map wR).length (j : Int) = some j := by
    unfold ixN
    rw [if_pos (Int.natCast_nonneg j), if_pos (by rw [List.length_map]; omega)]
    rfl
  dsimp only
  rw [this, Option.map_some, ← List.map_set, nest_set h]
def mix (r s : List Rat) (x : Rat) (i : Nat) : List Rat := (List.range r.length).map fun c => if c < i then r[c]?.getD 0 + x * s[c]?.getD 0 else r[c]?.getD 0
theorem mix_0 {r s : List Rat} {x : Rat} : mix r s x 0 = r := by
  unfold mix
  conv => rhs; rw [list_range r 0 rfl]
  apply List.map_congr_left
  intro c _
  rw [if_neg (Nat.not_lt_zero c)]
theorem mix_all {r s : List Rat} {x : Rat} (h : r.length = s.length) : mix r s x r.length = rstep r (x, s) := by
  unfold mix rstep
  apply List.ext_getElem
  · simp [h]
  · intro c h1 h2
    have hc : c < r.length := by simpa using h1
    have hc2 : c < s.length := by omega
    simp [hc, List.getElem?_eq_getElem hc, List.getElem?_eq_getElem hc2]
theorem mix_len {r s : List Rat} {x : Rat} {i : Nat} : (mix r s x i).length = r.length := by unfold mix; rw [List.length_map, List.length_range]
theorem mix_get {r s : List Rat} {x : Rat} {i : Nat} (h : i < r.length) : (mix r s x i)[i]?.getD 0 = r[i]?.getD 0 := by
  unfold mix
  rw [List.getElem?_map, List.getElem?_range h]
  simp
theorem mix_el {r s : List Rat} {x : Rat} {i c : Nat} (hc : c < (mix r s x i).length) : (mix r s x i)[c] = if c < i then r[c]?.getD 0 + x * s[c]?.getD 0 else r[c]?.getD 0 := by
  simp only [mix, List.getElem_map, List.getElem_range]
theorem mix_set {r s : List Rat} {x : Rat} {i : Nat} (h : i < r.length) : (mix r s x i).set i (r[i]?.getD 0 + x * s[i]?.getD 0) = mix r s x (i + 1) := by
  apply List.ext_getElem
  · rw [List.length_set, mix_len, mix_len]
  · intro c h1 h2
    rw [List.getElem_set]
    by_cases hc : i = c
    · subst hc
      rw [if_pos rfl, mix_el, if_pos (Nat.lt_succ_self _)]
    · rw [if_neg hc, mix_el, mix_el]
      by_cases h3 : c < i
      · rw [if_pos h3, if_pos (by omega)]
      · rw [if_neg h3, if_neg (by omega)]
theorem rw_set {F : Mat} {k : Nat} (h : k < F.length) (r : List Rat) : rw_ (F.set k r) k = r := by
  show (F.set k r)[k]?.getD [] = r
  rw [List.getElem?_set_self h]; rfl
theorem set_same {F : Mat} {k : Nat} (h : k < F.length) : F.set k (rw_ F k) = F := by
  apply List.ext_getElem
  · simp
  · intro c h1 h2
    rw [List.getElem_set]
    by_cases hc : k = c
    · subst hc
      rw [if_pos rfl]
      show F[k]?.getD [] = F[k]
      rw [List.getElem?_eq_getElem h]; rfl
    · rw [if_neg hc]
section
variable {a b F : Mat} {p q k j n m c : Nat} {r : List Rat}
/-- the innermost loop -/
theorem mmul_1 (db : Dim b p q) (hk : k < F.length) (lF : (rw_ F k).length = q) (hka : k < a.length) (hja : j < (rw_ a k).length) (hj : j < p) (sa : sz (gt a k j) n) (hb : MB b m) (sF : ∀ x ∈ rw_ F k, sz x c) (h : c + (n + m) ≤ 9000) (lq : q ≤ 1000000) :
    forV (hNm 5) b_law_mmul_1 [] ((List.range q).map fun i : Nat => W.d (.int (0 + (i : Int)))) [some (wM a), some (wM b), some (.o (O.length + F.length)), some (.d (.int (k : Int))), some (.d (.int (j : Int))), none] (nest O F)
      = .nx [some (wM a), some (wM b), some (.o (O.length + F.length)), some (.d (.int (k : Int))), some (.d (.int (j : Int))), none] (nest O (F.set k (rstep (rw_ F k) (gt a k j, rw_ b j)))) := by
  have hjb : j < b.length := by rw [db.len]; exact hj
  have lb : (rw_ b j).length = q := db.at hj
  have := (forV_foldI (g := hNm 5) (b := b_law_mmul_1) (chk := []) (fun i : Nat => W.d (.int (0 + (i : Int)))) (fun _ : Nat => [some (wM a), some (wM b), some (.o (O.length + F.length)), some (.d (.int (k : Int))), some (.d (.int (j : Int))), none]) (fun i => nest O (F.set k (mix (rw_ F k) (rw_ b j) (gt a k j) i))) (fun i _ => i + 1)
    (fun t i => i = t) (fun _ _ _ => chkOf_nil.mpr trivial) (List.range q) 0 0 rfl (fun t i x hx hI => by
      have hI : i = 0 + t := hI
      have hl := (List.getElem?_eq_some_iff.mp hx).1
      rw [List.length_range] at hl
      rw [List.getElem?_range hl] at hx
      have hxt : t = x := by simpa using hx
      have hix : i = x := by omega
      subst hix
      refine ⟨by omega, .inl ?_⟩
      have hiq : i < q := by omega
      have hi1 : i < (rw_ F k).length := by omega
      have hk' : k < (F.set k (mix (rw_ F k) (rw_ b j) (gt a k j) i)).length := by rw [List.length_set]; exact hk
      have er : rw_ (F.set k (mix (rw_ F k) (rw_ b j) (gt a k j) i)) k = mix (rw_ F k) (rw_ b j) (gt a k j) i := rw_set hk _
      have hi2 : i < (rw_ (F.set k (mix (rw_ F k) (rw_ b j) (gt a k j) i)) k).length := by rw [er, mix_len]; exact hi1
      have u1 := uIx_nest (O := O) hk'
      rw [List.length_set] at u1
      have u2 := uIx_nrow (O := O) hk' hi2
      have eg : gt (F.set k (mix (rw_ F k) (rw_ b j) (gt a k j) i)) k i = gt F k i := by
        show (rw_ (F.set k (mix (rw_ F k) (rw_ b j) (gt a k j) i)) k)[i]?.getD 0 = _
        rw [er, mix_get hi1]
      rw [eg] at u2
      have u3 := uIx_M (O := nest O (F.set k (mix (rw_ F k) (rw_ b j) (gt a k j) i))) hjb
      have u4 := uIx_R (O := nest O (F.set k (mix (rw_ F k) (rw_ b j) (gt a k j) i))) (show i < (rw_ b j).length by omega)
      have u5 := uIx_M (O := nest O (F.set k (mix (rw_ F k) (rw_ b j) (gt a k j) i))) hka
      have u6 := uIx_R (O := nest O (F.set k (mix (rw_ F k) (rw_ b j) (gt a k j) i))) hja
      have sb := hb.at db hj hiq
      have t1 := r_law_mul (O := nest O (F.set k (mix (rw_ F k) (rw_ b j) (gt a k j) i))) sa sb (by omega)
      have t2 := r_law_add (O := nest O (F.set k (mix (rw_ F k) (rw_ b j) (gt a k j) i))) (sF _ (getD_mem (d := 0) hi1)) (sz_mul sa sb) (by omega)
      have ks := kSet_nrow (O := O) hk' hi2 (gt F k i + gt a k j * gt b j i)
      rw [er, List.set_set, mix_set hi1] at ks
      by_cases hz : gt b j i = 0
      · have e0 : (gt b j i).num = 0 := num0.mpr hz
        have es : mix (rw_ F k) (rw_ b j) (gt a k j) (i + 1) = mix (rw_ F k) (rw_ b j) (gt a k j) i := by
          rw [← mix_set hi1]
          show (mix (rw_ F k) (rw_ b j) (gt a k j) i).set i (gt F k i + gt a k j * gt b j i) = _
          rw [hz, Rat.mul_zero, Rat.add_zero]
          apply List.ext_getElem
          · simp
          · intro c h1 h2
            rw [List.getElem_set]
            by_cases hc : i = c
            · subst hc
              rw [if_pos rfl]
              have := mix_get (r := rw_ F k) (s := rw_ b j) (x := gt a k j) hi1
              rw [List.getElem?_eq_getElem h2] at this
              exact this.symm
            · rw [if_neg hc]
        rw [es]
        generalize nest O (F.set k (mix (rw_ F k) (rw_ b j) (gt a k j) i)) = P at *
        simp [stepV, b_law_mmul_1, u3, u4, e0]
      · have e0 : ¬ (gt b j i).num = 0 := fun z => hz (num0.mp z)
        generalize nest O (F.set k (mix (rw_ F k) (rw_ b j) (gt a k j) i)) = P at *
        simp [stepV, b_law_mmul_1, u1, u2, u3, u4, u5, u6, t1, t2, e0, ks])).1
  have cnt : ∀ (l : List Nat) (s : Nat), l.foldl (fun i _ => i + 1) s = s + l.length := by
    intro l
    induction l with
    | nil => intro s; rfl
    | cons x l ih => intro s; rw [List.foldl_cons, ih, List.length_cons]; omega
  rw [cnt, List.length_range, Nat.zero_add] at this
  rw [mix_0, set_same hk, show mix (rw_ F k) (rw_ b j) (gt a k j) q = rstep (rw_ F k) (gt a k j, rw_ b j) by rw [← lF, mix_all (by omega)]] at this
  exact this
/-- the sum after j rows -/
def pre (r : List Rat) (b : Mat) (q j : Nat) : List Rat := ((r.zip b).take j).foldl rstep (List.replicate q 0)
theorem pre_0 : pre r b q 0 = List.replicate q 0 := rfl
theorem pre_succ (h1 : j < r.length) (h2 : j < b.length) : pre r b q (j + 1) = rstep (pre r b q j) (r[j]?.getD 0, rw_ b j) := by
  unfold pre
  have hl : j < (r.zip b).length := by rw [List.length_zip]; omega
  rw [List.take_succ, List.foldl_append, List.getElem?_eq_getElem hl]
  show rstep _ (r.zip b)[j] = _
  rw [List.getElem_zip]
  show _ = rstep _ (r[j]?.getD 0, b[j]?.getD [])
  rw [List.getElem?_eq_getElem h1, List.getElem?_eq_getElem h2]; rfl
theorem pre_all (h : r.length = b.length) : pre r b q b.length = rsum r b q := by
  unfold pre rsum
  rw [List.take_of_length_le (by rw [List.length_zip]; omega)]
theorem pre_ok (db : Dim b p q) (hr : ∀ x ∈ r, sz x n) (hb : MB b m) (lr : r.length = p) : ∀ j, j ≤ p → (pre r b q j).length = q ∧ ∀ x ∈ pre r b q j, sz x (1 + j * (n + m + 1)) := by
  intro j
  induction j with
  | zero => intro _; exact ⟨List.length_replicate, fun x hx => by rw [List.eq_of_mem_replicate hx]; exact sz_0 (by omega)⟩
  | succ j ih =>
    intro hj
    obtain ⟨h1, h2⟩ := ih (by omega)
    rw [pre_succ (by omega) (by rw [db.len]; omega)]
    refine ⟨rstep_len h1 (db.at (by omega)), fun x hx => ?_⟩
    have := sz_list h2 (hr _ (getD_mem (d := 0) (show j < r.length by omega))) (hb _ (getD_mem (d := []) (show j < b.length by rw [db.len]; omega))) x hx
    refine this.mono ?_
    rw [show (j + 1) * (n + m + 1) = j * (n + m + 1) + (n + m + 1) by rw [Nat.add_mul _ 1, Nat.one_mul]]; omega
theorem cnt : ∀ (l : List Nat) (s : Nat), l.foldl (fun i _ => i + 1) s = s + l.length := by
  intro l
  induction l with
  | nil => intro s; rfl
  | cons x l ih => intro s; rw [List.foldl_cons, ih, List.length_cons]; omega
/-- the loop over the rows of the second -/
theorem mmul_2 (db : Dim b p q) (hp : 0 < p) (hk : k < F.length) (eF : rw_ F k = List.replicate q 0) (hka : k < a.length) (lka : (rw_ a k).length = p) (ha : MB a n) (hb : MB b m) (h : p * (n + m + 1) + (n + m) ≤ 8000) (lp_ : p ≤ 1000000) (lq : q ≤ 1000000) :
    forV (hNm 4) b_law_mmul_2 [] ((List.range p).map fun i : Nat => W.d (.int (0 + (i : Int)))) [some (wM a), some (wM b), some (.o (O.length + F.length)), some (.d (.int (k : Int))), none, none] (nest O F)
      = .nx [some (wM a), some (wM b), some (.o (O.length + F.length)), some (.d (.int (k : Int))), none, none] (nest O (F.set k (rsum (rw_ a k) b q))) := by
  have b0 : 0 < b.length := by rw [db.len]; exact hp
  have l0 : (rw_ b 0).length = q := db.at hp
  have sr : ∀ x ∈ rw_ a k, sz x n := fun x hx => ha _ (getD_mem (d := []) hka) x hx
  have := (forV_foldI (g := hNm 4) (b := b_law_mmul_2) (chk := []) (fun i : Nat => W.d (.int (0 + (i : Int)))) (fun _ : Nat => [some (wM a), some (wM b), some (.o (O.length + F.length)), some (.d (.int (k : Int))), none, none]) (fun j => nest O (F.set k (pre (rw_ a k) b q j))) (fun i _ => i + 1)
    (fun t i => i = t) (fun _ _ _ => chkOf_nil.mpr trivial) (List.range p) 0 0 rfl (fun t j x hx hI => by
      have hI : j = 0 + t := hI
      have hl := (List.getElem?_eq_some_iff.mp hx).1
      rw [List.length_range] at hl
      rw [List.getElem?_range hl] at hx
      have hxt : t = x := by simpa using hx
      have hjx : j = x := by omega
      subst hjx
      refine ⟨by omega, .inl ?_⟩
      have hjp : j < p := by omega
      have hja : j < (rw_ a k).length := by omega
      obtain ⟨p1, p2⟩ := pre_ok db sr hb lka j (by omega)
      have hk' : k < (F.set k (pre (rw_ a k) b q j)).length := by rw [List.length_set]; exact hk
      have er : rw_ (F.set k (pre (rw_ a k) b q j)) k = pre (rw_ a k) b q j := rw_set hk _
      have hmul : j * (n + m + 1) ≤ p * (n + m + 1) := Nat.mul_le_mul_right _ (by omega)
      have lp1 := mmul_1 (O := O) (F := F.set k (pre (rw_ a k) b q j)) (c := 1 + j * (n + m + 1)) db hk' (by rw [er]; exact p1) hka hja hjp (sr _ (getD_mem (d := 0) hja)) hb (by rw [er]; exact p2) (by omega) lq
      rw [er, List.length_set, List.set_set] at lp1
      have ps := pre_succ (q := q) hja (show j < b.length by rw [db.len]; exact hjp)
      have u5 := uIx_M (O := nest O (F.set k (pre (rw_ a k) b q j))) hka
      have u6 := uIx_R (O := nest O (F.set k (pre (rw_ a k) b q j))) hja
      have u7 := uIx_M0 (O := nest O (F.set k (pre (rw_ a k) b q j))) b0
      rw [ps]
      have hs : smI (q : Int) := smI_nat (by omega)
      by_cases hz : gt a k j = 0
      · have e0 : (gt a k j).num = 0 := num0.mpr hz
        have es : rstep (pre (rw_ a k) b q j) ((rw_ a k)[j]?.getD 0, rw_ b j) = pre (rw_ a k) b q j := by
          have hz : (rw_ a k)[j]?.getD 0 = 0 := hz
          rw [hz]; exact rstep_0 (by rw [p1]; exact (db.at hjp).symm)
        rw [es]
        generalize nest O (F.set k (pre (rw_ a k) b q j)) = P at *
        simp [stepV, b_law_mmul_2, u5, u6, e0]
      · have e0 : ¬ (gt a k j).num = 0 := fun z => hz (num0.mp z)
        have lp1' : forV (hNm 5) b_law_mmul_1 [] (rng 0 q) _ _ = _ := lp1
        generalize nest O (F.set k (pre (rw_ a k) b q j)) = P at *
        simp [stepV, b_law_mmul_2, u5, u6, u7, l0, hs, e0, lp1'])).1
  rw [cnt, List.length_range, Nat.zero_add] at this
  rw [pre_0, ← eF, set_same hk, ← db.len, pre_all (by rw [lka, db.len])] at this
  rw [← db.len]
  exact this
theorem r_law_mmul {p1 : Nat} (da : Dim a p1 p) (db : Dim b p q) (hp : 0 < p) (ha : MB a n) (hb : MB b m) (h : p * (n + m + 1) + (n + m) ≤ 8000) (lp1 : p1 ≤ 1000000) (lp_ : p ≤ 1000000) (lq : q ≤ 1000000) : sem_law_mmul [wM a, wM b] O = .ok (wM (mmul a b q)) O := by
  have b0 : 0 < b.length := by rw [db.len]; exact hp
  have l0 : (rw_ b 0).length = q := db.at hp
  have hz := r_law_zeros_o (O := O) lp1 lq
  have hs1 : smI (p1 : Int) := smI_nat (by omega)
  have hs2 : smI (p : Int) := smI_nat (by omega)
  let st := fun k : Nat => ((a.take k).map fun r => rsum r b q) ++ List.replicate (p1 - k) (List.replicate q (0 : Rat))
  have stl : ∀ k, k ≤ p1 → (st k).length = p1 := fun k hk => by
    show (((a.take k).map fun r => rsum r b q) ++ List.replicate (p1 - k) (List.replicate q (0 : Rat))).length = p1
    rw [List.length_append, List.length_map, List.length_take, List.length_replicate, da.len]; omega
  have this := (forV_foldI (g := hNm 3) (b := b_law_mmul_3) (chk := []) (fun i : Nat => W.d (.int (0 + (i : Int)))) (fun _ : Nat => [some (wM a), some (wM b), some (.o (O.length + p1)), none, none, none]) (fun k => nest O (st k)) (fun i _ => i + 1)
    (fun t i => i = t) (fun _ _ _ => chkOf_nil.mpr trivial) (List.range p1) 0 0 rfl (fun t k x hx hI => by
      have hI : k = 0 + t := hI
      have hl := (List.getElem?_eq_some_iff.mp hx).1
      rw [List.length_range] at hl
      rw [List.getElem?_range hl] at hx
      have hxt : t = x := by simpa using hx
      have hkx : k = x := by omega
      subst hkx
      refine ⟨by omega, .inl ?_⟩
      have hkp : k < p1 := by omega
      have hka : k < a.length := by rw [da.len]; exact hkp
      have hF := stl k (by omega)
      have htl : ((a.take k).map fun r => rsum r b q).length = k := by rw [List.length_map, List.length_take, da.len]; omega
      have eF : rw_ (st k) k = List.replicate q 0 := by
        show (((a.take k).map fun r => rsum r b q) ++ List.replicate (p1 - k) (List.replicate q (0 : Rat)))[k]?.getD [] = _
        rw [List.getElem?_append_right (by omega), htl, Nat.sub_self, List.getElem?_replicate, if_pos (by omega)]; rfl
      have lp2 := mmul_2 (O := O) (F := st k) (a := a) (k := k) db hp (by rw [hF]; exact hkp) eF hka (da.at hkp) ha hb h lp_ lq
      have es : (st k).set k (rsum (rw_ a k) b q) = st (k + 1) := by
        show (((a.take k).map fun r => rsum r b q) ++ List.replicate (p1 - k) (List.replicate q (0 : Rat))).set k _ = ((a.take (k + 1)).map fun r => rsum r b q) ++ List.replicate (p1 - (k + 1)) (List.replicate q (0 : Rat))
        rw [List.set_append_right _ _ (by omega), htl, Nat.sub_self, show p1 - k = (p1 - (k + 1)) + 1 by omega, List.replicate_succ, List.set_cons_zero, List.take_succ, List.map_append, List.append_assoc, List.getElem?_eq_getElem hka]
        show _ ++ rsum (a[k]?.getD []) b q :: _ = _ ++ (rsum a[k] b q :: _)
        rw [List.getElem?_eq_getElem hka]; rfl
      rw [es, hF] at lp2
      have lp2' : forV (hNm 4) b_law_mmul_2 [] (rng 0 p) _ _ = _ := lp2
      simp [stepV, b_law_mmul_3, db.len, hs2, lp2'])).1
  rw [cnt, List.length_range, Nat.zero_add] at this
  have e0 : st 0 = List.replicate p1 (List.replicate q 0) := rfl
  have e1 : st p1 = mmul a b q := by
    show ((a.take p1).map fun r => rsum r b q) ++ List.replicate (p1 - p1) (List.replicate q (0 : Rat)) = _
    rw [Nat.sub_self, List.replicate_zero, List.append_nil, List.take_of_length_le (by rw [da.len]; exact Nat.le_refl _)]; rfl
  rw [e0, e1] at this
  have this' : forV (hNm 3) b_law_mmul_3 [] (rng 0 p1) _ _ = _ := this
  have fin := fin_nest (O := O) (F := mmul a b q)
  have lm : (mmul a b q).length = p1 := by unfold mmul; rw [List.length_map, da.len]
  rw [lm] at fin
  unfold sem_law_mmul t_law_mmul
  simp [da.len, uIx_M0 b0, l0, hz, hs1, this', fin]
end
/-! ### Kronecker products -/
def krow (l r : List Rat) : List Rat := (l.map fun x => r.map fun y => x * y).flatten
def kron (a b : Mat) : Mat := (a.map fun l => b.map fun r => krow l r).flatten
def krO (O : List Ob) (F : Mat) : List Ob := O ++ Ob.lst ((List.range F.length).map fun i => .o (O.length + 1 + i)) :: F.map fun r => Ob.lst (r.map wR)
theorem krO_len {F : Mat} : (krO O F).length = O.length + 1 + F.length := by
  unfold krO; rw [List.length_append, List.length_cons, List.length_map]; omega
theorem krO_out {F : Mat} (X : List Ob) : (krO O F ++ X)[O.length]? = some (.lst ((List.range F.length).map fun i => W.o (O.length + 1 + i))) := by
  unfold krO
  rw [List.append_assoc, List.getElem?_append_right (Nat.le_refl _), Nat.sub_self]; rfl
theorem krO_app {F : Mat} {r : List Rat} : (krO O F ++ [Ob.lst (r.map wR)]).set O.length (Ob.lst (((List.range F.length).map fun i => W.o (O.length + 1 + i)) ++ [W.o (O.length + 1 + F.length)])) = krO O (F ++ [r]) := by
  unfold krO
  rw [List.append_assoc, List.set_append_right _ _ (Nat.le_refl _), Nat.sub_self, List.cons_append, List.set_cons_zero, List.length_append, List.length_singleton, List.range_succ, List.map_append, List.map_append]
  rfl
theorem krO_row {F : Mat} {k : Nat} (h : k < F.length) : (krO O F)[O.length + 1 + k]? = some (.lst ((rw_ F k).map wR)) := by
  unfold krO
  rw [List.getElem?_append_right (by omega), show O.length + 1 + k - O.length = k + 1 by omega, List.getElem?_cons_succ, List.getElem?_map, List.getElem?_eq_getElem h]
  show some (Ob.lst (F[k].map wR)) = some (.lst ((F[k]?.getD []).map wR))
  rw [List.getElem?_eq_getElem h]; rfl
theorem fin_krO {F : Mat} : finW O (.o O.length) (krO O F) = .ok (wM F) O := by
  have h0 := krO_out (O := O) (F := F) []
  rw [List.append_nil] at h0
  have e : rsW O.length (krO O F) 8 (.o O.length) = some (dM F) := by
    rw [rsW_o (Nat.le_refl _) h0, mapO_ex (f := rsW O.length (krO O F) 7) (fun i => W.o (O.length + 1 + i)) (fun i => dRow (rw_ F i)) (List.range F.length) fun i hi => by
      rw [List.mem_range] at hi
      exact rsW_row (n := 5) (by omega) (krO_row hi)]
    show some (PyData.list _) = some (PyData.list _)
    rw [show F.map dRow = (List.range F.length).map fun i => dRow (rw_ F i) by
      conv => lhs; rw [list_range F [] rfl]
      rw [List.map_map]; rfl]
  unfold finW
  rw [e]
  dsimp only
  rw [if_pos (by unfold krO; exact OkTake.app _ _), show (krO O F).take O.length = O by unfold krO; rw [List.take_left' rfl]]
section
variable {a b : Mat} {n m : Nat}
theorem kron_fold {α : Type} (f : α → List Rat) : ∀ (l : List α) (s : List Rat), l.foldl (fun s x => s ++ f x) s = s ++ (l.map f).flatten
  | [], s => by simp
  | x :: l, s => by rw [List.foldl_cons, kron_fold f l, List.map_cons, List.flatten_cons, List.append_assoc]
theorem kron_fold2 {α : Type} (f : α → Mat) : ∀ (l : List α) (s : Mat), l.foldl (fun s x => s ++ f x) s = s ++ (l.map f).flatten
  | [], s => by simp
  | x :: l, s => by rw [List.foldl_cons, kron_fold2 f l, List.map_cons, List.flatten_cons, List.append_assoc]
theorem kron_1 {l r : List Rat} {F : Mat} {w3 w4 : W} (hl : ∀ x ∈ l, sz x n) (hr : ∀ x ∈ r, sz x m) (h : n + m ≤ 9000) (ll : l.length ≤ 1000) (lr : r.length ≤ 1000) {wa wb : W} :
    forV (hNm 6) b_kronecker_1 [] (l.map wR) [some wa, some wb, some (.o O.length), some w3, some (.d (dRow r)), some (.o (O.length + 1 + F.length)), none, none] (krO O F ++ [.lst []])
      = .nx [some wa, some wb, some (.o O.length), some w3, some (.d (dRow r)), some (.o (O.length + 1 + F.length)), none, none] (krO O F ++ [.lst ((krow l r).map wR)]) := by
  have this := (forV_foldI (g := hNm 6) (b := b_kronecker_1) (chk := []) wR (fun _ : List Rat => [some wa, some wb, some (.o O.length), some w3, some (.d (dRow r)), some (.o (O.length + 1 + F.length)), none, none]) (fun cur => krO O F ++ [.lst (cur.map wR)]) (fun cur x => cur ++ r.map fun y => x * y)
    (fun t cur => t ≤ l.length ∧ cur.length = t * r.length) (fun _ _ _ => chkOf_nil.mpr trivial) l 0 [] ⟨by omega, by simp⟩ (fun i cur x hx hI => by
      obtain ⟨h1, h2⟩ := hI
      have hi := (List.getElem?_eq_some_iff.mp hx).1
      have hm := List.mem_of_getElem? hx
      refine ⟨⟨by omega, by rw [List.length_append, List.length_map, h2, Nat.add_mul _ 1, Nat.one_mul]⟩, .inl ?_⟩
      have lp : ∀ P : List Ob, vLc (iSq (vV 4)) (.one 7) vYes (vCall 2 sem_times (vCons (vV 6) (vCons (vV 7) vNil))) [7] [some wa, some wb, some (.o O.length), some w3, some (.d (dRow r)), some (.o (O.length + 1 + F.length)), some (wR x), none] P = .ok (.d (.list (r.map fun y => dR (x * y)))) P := fun P =>
        lc_map r (fun y => wR y) _ (O1 := P) (chk := []) (by simp) (chkOf_nil.mpr trivial) (by omega) fun y hy => by
          have e := r_times (O := P) (hl _ hm) (hr _ hy) h
          simp [e]
      have hk : (krO O F ++ [Ob.lst (cur.map wR)])[O.length + 1 + F.length]? = some (.lst (cur.map wR)) := by
        rw [List.getElem?_append_right (by rw [krO_len]; exact Nat.le_refl _), krO_len, Nat.sub_self]; rfl
      have hlo : lstO (krO O F ++ [Ob.lst (cur.map wR)]) (.o (O.length + 1 + F.length)) = some (O.length + 1 + F.length, cur.map wR) := by
        show (match (krO O F ++ [Ob.lst (cur.map wR)])[O.length + 1 + F.length]? with | some (.lst ws) => some (O.length + 1 + F.length, ws) | _ => none) = _
        rw [hk]
      have hb : cur.length + r.length ≤ 16777216 := by
        have : (0 + i) * r.length ≤ 1000 * 1000 := Nat.mul_le_mul (by omega) lr
        omega
      have hext : uExtend (krO O F ++ [Ob.lst (cur.map wR)]) (cur.map wR) [.d (.list (r.map fun y => dR (x * y)))] = some (.d .none, cur.map wR ++ (r.map fun y => dR (x * y)).map W.d) := by
        show (match lvS (krO O F ++ [Ob.lst (cur.map wR)]) (W.d (.list (r.map fun y => dR (x * y)))) with | some zs => if (cur.map wR).length + zs.length ≤ sizeLine then some (W.d .none, cur.map wR ++ zs) else none | none => none) = _
        rw [lvS_l]
        dsimp only
        rw [if_pos (by simpa using hb)]
      have hset : (krO O F ++ [Ob.lst (cur.map wR)]).set (O.length + 1 + F.length) (.lst (cur.map wR ++ (r.map fun y => dR (x * y)).map W.d)) = krO O F ++ [.lst ((cur ++ r.map fun y => x * y).map wR)] := by
        rw [List.set_append_right _ _ (by rw [krO_len]; exact Nat.le_refl _), krO_len, Nat.sub_self, List.set_cons_zero, List.map_append, List.map_map, List.map_map]
        rfl
      simp only [stepV, b_kronecker_1, e_Wipe, e_Drop, e_Mt, e_hNm, e_V, e_Cons, e_Nil, List.set_cons_succ, List.set_cons_zero, List.getElem?_cons_succ, List.getElem?_cons_zero, R.bind_ok, hlo, lp, hext, hset, R.toS_ok, SR.wipe_nx, e_wipe1, e_wipe0])).1
  rw [kron_fold] at this
  exact this
theorem kron_2 {l : List Rat} {F : Mat} {wa : W} (hl : ∀ x ∈ l, sz x n) (hb : MB b m) (h : n + m ≤ 9000) (ll : l.length ≤ 1000) (lr : ∀ r ∈ b, r.length ≤ 1000) (lF : F.length + b.length ≤ 1000000) :
    forV (hNm 4) b_kronecker_2 [] (b.map fun r => .d (dRow r)) [some wa, some (wM b), some (.o O.length), some (.d (dRow l)), none, none, none, none] (krO O F)
      = .nx [some wa, some (wM b), some (.o O.length), some (.d (dRow l)), none, none, none, none] (krO O (F ++ b.map fun r => krow l r)) := by
  have this := (forV_foldI (g := hNm 4) (b := b_kronecker_2) (chk := []) (fun r => W.d (dRow r)) (fun _ : Mat => [some wa, some (wM b), some (.o O.length), some (.d (dRow l)), none, none, none, none]) (fun F => krO O F) (fun F r => F ++ [krow l r])
    (fun t G => t ≤ b.length ∧ G.length = F.length + t) (fun _ _ _ => chkOf_nil.mpr trivial) b 0 F ⟨by omega, rfl⟩ (fun i G r hx hI => by
      obtain ⟨h1, h2⟩ := hI
      have hi := (List.getElem?_eq_some_iff.mp hx).1
      have hm := List.mem_of_getElem? hx
      refine ⟨⟨by omega, by rw [List.length_append, h2]; rfl⟩, .inl ?_⟩
      have lp := kron_1 (O := O) (F := G) (w3 := .d (dRow l)) (w4 := .d .none) hl (hb r hm) h ll (lr r hm) (wa := wa) (wb := wM b)
      have h0 : (krO O G ++ [Ob.lst ((krow l r).map wR)])[O.length]? = _ := krO_out _
      have hlo : lstO (krO O G ++ [Ob.lst ((krow l r).map wR)]) (.o O.length) = some (O.length, (List.range G.length).map fun i => W.o (O.length + 1 + i)) := by
        show (match (krO O G ++ [Ob.lst ((krow l r).map wR)])[O.length]? with | some (.lst ws) => some (O.length, ws) | _ => none) = _
        rw [h0]
      have happ : uAppend (krO O G ++ [Ob.lst ((krow l r).map wR)]) ((List.range G.length).map fun i => W.o (O.length + 1 + i)) [.o (O.length + 1 + G.length)] = some (.d .none, ((List.range G.length).map fun i => W.o (O.length + 1 + i)) ++ [.o (O.length + 1 + G.length)]) := by
        show (if ((List.range G.length).map fun i => W.o (O.length + 1 + i)).length < sizeLine then some (W.d .none, _) else none) = _
        rw [if_pos (by rw [List.length_map, List.length_range, sizeLine_val]; omega)]
      have hset := krO_app (O := O) (F := G) (r := krow l r)
      have lp' := lp
      simp only [stepV, b_kronecker_2, e_Wipe, e_Seq, e_Set, e_LstO, e_For, e_iSq, e_Drop, e_Mt, e_hNm, e_V, e_Cons, e_Nil, List.set_cons_succ, List.set_cons_zero, List.getElem?_cons_succ, List.getElem?_cons_zero, R.bind_ok, mkO_e, krO_len, R.toS_ok, SR.seq_nx, wk_l, List.map_map, List.length_nil, Nat.zero_le, if_true, sizeLine_val]
      have lp2 : forV (hNm 6) b_kronecker_1 [] (List.map (W.d ∘ dR) l) [some wa, some (wM b), some (.o O.length), some (.d (dRow l)), some (.d (dRow r)), some (.o (O.length + 1 + G.length)), none, none] (krO O G ++ [.lst []]) = _ := lp'
      rw [lp2]
      simp only [SR.wipe_nx, e_wipe1, e_wipe0, SR.seq_nx, e_Drop, e_Mt, e_V, e_Cons, e_Nil, List.set_cons_succ, List.set_cons_zero, List.getElem?_cons_succ, List.getElem?_cons_zero, R.bind_ok, hlo, happ, hset, R.toS_ok])).1
  have ff : ∀ (l2 : Mat) (s : Mat), l2.foldl (fun F r => F ++ [krow l r]) s = s ++ l2.map fun r => krow l r := by
    intro l2
    induction l2 with
    | nil => intro s; simp
    | cons x l2 ih => intro s; rw [List.foldl_cons, ih, List.map_cons, List.append_assoc]; rfl
  rw [ff] at this
  exact this
theorem r_kronecker (ha : MB a n) (hb : MB b m) (h : n + m ≤ 9000) (la : a.length * b.length + b.length ≤ 1000000) (lra : ∀ r ∈ a, r.length ≤ 1000) (lrb : ∀ r ∈ b, r.length ≤ 1000) : sem_kronecker [wM a, wM b] O = .ok (wM (kron a b)) O := by
  have this := (forV_foldI (g := hNm 3) (b := b_kronecker_3) (chk := []) (fun r => W.d (dRow r)) (fun _ : Mat => [some (wM a), some (wM b), some (.o O.length), none, none, none, none, none]) (fun F => krO O F) (fun F l => F ++ b.map fun r => krow l r)
    (fun t G => t ≤ a.length ∧ G.length = t * b.length) (fun _ _ _ => chkOf_nil.mpr trivial) a 0 [] ⟨by omega, by simp⟩ (fun i G l hx hI => by
      obtain ⟨h1, h2⟩ := hI
      have hi := (List.getElem?_eq_some_iff.mp hx).1
      have hm := List.mem_of_getElem? hx
      refine ⟨⟨by omega, by rw [List.length_append, List.length_map, h2, Nat.add_mul _ 1, Nat.one_mul]⟩, .inl ?_⟩
      have hlen : G.length + b.length ≤ 1000000 := by
        have : (0 + i) * b.length ≤ a.length * b.length := Nat.mul_le_mul_right _ (by omega)
        omega
      have lp := kron_2 (O := O) (F := G) (wa := wM a) (ha l hm) hb h (lra l hm) lrb hlen
      have lp2 : forV (hNm 4) b_kronecker_2 [] (List.map (W.d ∘ dRow) b) [some (wM a), some (wM b), some (.o O.length), some (.d (dRow l)), none, none, none, none] (krO O G) = _ := lp
      simp only [stepV, b_kronecker_3, e_Wipe, e_For, e_iSq, e_hNm, e_V, List.set_cons_succ, List.set_cons_zero, List.getElem?_cons_succ, List.getElem?_cons_zero, R.bind_ok, R.toS_ok, wk_l, List.map_map, lp2, SR.wipe_nx, e_wipe1, e_wipe0])).1
  rw [kron_fold2] at this
  have this2 : forV (hNm 3) b_kronecker_3 [] (List.map (W.d ∘ dRow) a) [some (wM a), some (wM b), some (.o O.length), none, none, none, none, none] (O ++ [.lst []]) = SR.nx [some (wM a), some (wM b), some (.o O.length), none, none, none, none, none] (krO O (kron a b)) := this
  have fin := fin_krO (O := O) (F := kron a b)
  unfold sem_kronecker t_kronecker
  simp [this2, fin]
/-! the law's -/
def lkO (O : List Ob) (F : Mat) : List Ob := O ++ [.lst (F.map fun r => W.d (dRow r))]
theorem lkron_1 {l r : List Rat} {w2 w3 wa wb : W} (hl : ∀ x ∈ l, sz x n) (hr : ∀ x ∈ r, sz x m) (h : n + m ≤ 9000) (ll : l.length ≤ 1000) (lr : r.length ≤ 1000) :
    forV (hNm 6) b_law_kron_1 [] (l.map wR) [some wa, some wb, some w2, some w3, some (.d (dRow r)), some (.d (.list [])), none, none] O
      = .nx [some wa, some wb, some w2, some w3, some (.d (dRow r)), some (.d (dRow (krow l r))), none, none] O := by
  have this := (forV_foldI (g := hNm 6) (b := b_law_kron_1) (chk := []) wR (fun cur : List Rat => [some wa, some wb, some w2, some w3, some (.d (dRow r)), some (.d (dRow cur)), none, none]) (fun _ => O) (fun cur x => cur ++ r.map fun y => x * y)
    (fun t cur => t ≤ l.length ∧ cur.length = t * r.length) (fun _ _ _ => chkOf_nil.mpr trivial) l 0 [] ⟨by omega, by simp⟩ (fun i cur x hx hI => by
      obtain ⟨h1, h2⟩ := hI
      have hi := (List.getElem?_eq_some_iff.mp hx).1
      have hm := List.mem_of_getElem? hx
      refine ⟨⟨by omega, by rw [List.length_append, List.length_map, h2, Nat.add_mul _ 1, Nat.one_mul]⟩, .inl ?_⟩
      have lp : vLc (iSq (vV 4)) (.one 7) vYes (vCall 2 sem_law_mul (vCons (vV 6) (vCons (vV 7) vNil))) [7] [some wa, some wb, some w2, some w3, some (.d (dRow r)), some (.d (dRow cur)), some (wR x), none] O = .ok (.d (.list (r.map fun y => dR (x * y)))) O :=
        lc_map r (fun y => wR y) _ (O1 := O) (chk := []) (by simp) (chkOf_nil.mpr trivial) (by omega) fun y hy => by
          have e := r_law_mul (O := O) (hl _ hm) (hr _ hy) h
          simp [e]
      have hb : cur.length + r.length ≤ 16777216 := by
        have : (0 + i) * r.length ≤ 1000 * 1000 := Nat.mul_le_mul (by omega) lr
        omega
      have ad := uAdd_l (O := O) (xs := cur.map dR) (ys := r.map fun y => dR (x * y)) (by simpa using hb)
      have ad2 : uAdd (.d (dRow cur)) (.d (.list (r.map fun y => dR (x * y)))) O = some (.d (dRow (cur ++ r.map fun y => x * y)), O) := by
        rw [ad]
        show some (W.d (.list _), O) = some (W.d (.list _), O)
        rw [List.map_append, List.map_map]; rfl
      simp only [stepV, b_law_kron_1, e_Wipe, e_Set, e_Op, e_hNm, e_V, List.set_cons_succ, List.set_cons_zero, List.getElem?_cons_succ, List.getElem?_cons_zero, R.bind_ok, lp, ad2, R.ofO_some, R.toS_ok, SR.wipe_nx, e_wipe1, e_wipe0])).1
  rw [kron_fold] at this
  exact this
theorem lkron_2 {l : List Rat} {F : Mat} {wa : W} (hl : ∀ x ∈ l, sz x n) (hb : MB b m) (h : n + m ≤ 9000) (ll : l.length ≤ 1000) (lr : ∀ r ∈ b, r.length ≤ 1000) (lF : F.length + b.length ≤ 1000000) :
    forV (hNm 4) b_law_kron_2 [] (b.map fun r => .d (dRow r)) [some wa, some (wM b), some (.o O.length), some (.d (dRow l)), none, none, none, none] (lkO O F)
      = .nx [some wa, some (wM b), some (.o O.length), some (.d (dRow l)), none, none, none, none] (lkO O (F ++ b.map fun r => krow l r)) := by
  have this := (forV_foldI (g := hNm 4) (b := b_law_kron_2) (chk := []) (fun r => W.d (dRow r)) (fun _ : Mat => [some wa, some (wM b), some (.o O.length), some (.d (dRow l)), none, none, none, none]) (fun F => lkO O F) (fun F r => F ++ [krow l r])
    (fun t G => t ≤ b.length ∧ G.length = F.length + t) (fun _ _ _ => chkOf_nil.mpr trivial) b 0 F ⟨by omega, rfl⟩ (fun i G r hx hI => by
      obtain ⟨h1, h2⟩ := hI
      have hi := (List.getElem?_eq_some_iff.mp hx).1
      have hm := List.mem_of_getElem? hx
      refine ⟨⟨by omega, by rw [List.length_append, h2]; rfl⟩, .inl ?_⟩
      have lp : forV (hNm 6) b_law_kron_1 [] (List.map (W.d ∘ dR) l) _ _ = _ := lkron_1 (O := lkO O G) (w2 := .o O.length) (w3 := .d (dRow l)) (wa := wa) (wb := wM b) hl (hb r hm) h ll (lr r hm)
      have h0 : (lkO O G)[O.length]? = some (.lst (G.map fun r => W.d (dRow r))) := by
        unfold lkO
        rw [List.getElem?_append_right (Nat.le_refl _), Nat.sub_self]; rfl
      have hlo : lstO (lkO O G) (.o O.length) = some (O.length, G.map fun r => W.d (dRow r)) := by
        show (match (lkO O G)[O.length]? with | some (.lst ws) => some (O.length, ws) | _ => none) = _
        rw [h0]
      have happ : uAppend (lkO O G) (G.map fun r => W.d (dRow r)) [.d (dRow (krow l r))] = some (.d .none, (G.map fun r => W.d (dRow r)) ++ [.d (dRow (krow l r))]) := by
        show (if (G.map fun r => W.d (dRow r)).length < sizeLine then some (W.d .none, _) else none) = _
        rw [if_pos (by rw [List.length_map, sizeLine_val]; omega)]
      have hset : (lkO O G).set O.length (.lst ((G.map fun r => W.d (dRow r)) ++ [.d (dRow (krow l r))])) = lkO O (G ++ [krow l r]) := by
        unfold lkO
        rw [List.set_append_right _ _ (Nat.le_refl _), Nat.sub_self, List.set_cons_zero, List.map_append]; rfl
      simp only [stepV, b_law_kron_2, e_Wipe, e_Seq, e_Set, e_Lst, e_For, e_iSq, e_Drop, e_Mt, e_hNm, e_V, e_Cons, e_Nil, mkL_nil, List.length_nil, Nat.zero_le, if_true, sizeLine_val, List.set_cons_succ, List.set_cons_zero, List.getElem?_cons_succ, List.getElem?_cons_zero, R.bind_ok, R.toS_ok, SR.seq_nx, wk_l, List.map_map]
      rw [lp]
      simp only [SR.wipe_nx, e_wipe1, e_wipe0, SR.seq_nx, e_Drop, e_Mt, e_V, e_Cons, e_Nil, List.set_cons_succ, List.set_cons_zero, List.getElem?_cons_succ, List.getElem?_cons_zero, R.bind_ok, hlo, happ, hset, R.toS_ok])).1
  have ff : ∀ (l2 : Mat) (s : Mat), l2.foldl (fun F r => F ++ [krow l r]) s = s ++ l2.map fun r => krow l r := by
    intro l2
    induction l2 with
    | nil => intro s; simp
    | cons x l2 ih => intro s; rw [List.foldl_cons, ih, List.map_cons, List.append_assoc]; rfl
  rw [ff] at this
  exact this
theorem r_law_kron (ha : MB a n) (hb : MB b m) (h : n + m ≤ 9000) (la : a.length * b.length + b.length ≤ 1000000) (lra : ∀ r ∈ a, r.length ≤ 1000) (lrb : ∀ r ∈ b, r.length ≤ 1000) : sem_law_kron [wM a, wM b] O = .ok (wM (kron a b)) O := by
  have this := (forV_foldI (g := hNm 3) (b := b_law_kron_3) (chk := []) (fun r => W.d (dRow r)) (fun _ : Mat => [some (wM a), some (wM b), some (.o O.length), none, none, none, none, none]) (fun F => lkO O F) (fun F l => F ++ b.map fun r => krow l r)
    (fun t G => t ≤ a.length ∧ G.length = t * b.length) (fun _ _ _ => chkOf_nil.mpr trivial) a 0 [] ⟨by omega, by simp⟩ (fun i G l hx hI => by
      obtain ⟨h1, h2⟩ := hI
      have hi := (List.getElem?_eq_some_iff.mp hx).1
      have hm := List.mem_of_getElem? hx
      refine ⟨⟨by omega, by rw [List.length_append, List.length_map, h2, Nat.add_mul _ 1, Nat.one_mul]⟩, .inl ?_⟩
      have hlen : G.length + b.length ≤ 1000000 := by
        have : (0 + i) * b.length ≤ a.length * b.length := Nat.mul_le_mul_right _ (by omega)
        omega
      have lp2 : forV (hNm 4) b_law_kron_2 [] (List.map (W.d ∘ dRow) b) [some (wM a), some (wM b), some (.o O.length), some (.d (dRow l)), none, none, none, none] (lkO O G) = _ := lkron_2 (O := O) (F := G) (wa := wM a) (ha l hm) hb h (lra l hm) lrb hlen
      simp only [stepV, b_law_kron_3, e_Wipe, e_For, e_iSq, e_hNm, e_V, List.set_cons_succ, List.set_cons_zero, List.getElem?_cons_succ, List.getElem?_cons_zero, R.bind_ok, R.toS_ok, wk_l, List.map_map, lp2, SR.wipe_nx, e_wipe1, e_wipe0])).1
  rw [kron_fold2] at this
  have this2 : forV (hNm 3) b_law_kron_3 [] (List.map (W.d ∘ dRow) a) [some (wM a), some (wM b), some (.o O.length), none, none, none, none, none] (O ++ [.lst []]) = SR.nx [some (wM a), some (wM b), some (.o O.length), none, none, none, none, none] (lkO O (kron a b)) := this
  have fin : finW O (.o O.length) (lkO O (kron a b)) = .ok (wM (kron a b)) O := by
    have h0 : (lkO O (kron a b))[O.length]? = some (.lst ((kron a b).map fun r => W.d (dRow r))) := by
      unfold lkO
      rw [List.getElem?_append_right (Nat.le_refl _), Nat.sub_self]; rfl
    have e : rsW O.length (lkO O (kron a b)) 8 (.o O.length) = some (dM (kron a b)) := by
      rw [rsW_o (Nat.le_refl _) h0, mapO_ex (f := rsW O.length (lkO O (kron a b)) 7) (fun r => W.d (dRow r)) dRow (kron a b) fun r _ => rsW_d]
      rfl
    unfold finW
    rw [e]
    dsimp only
    rw [if_pos (by unfold lkO; exact OkTake.app _ _), show (lkO O (kron a b)).take O.length = O by unfold lkO; rw [List.take_left' rfl]]
  unfold sem_law_kron t_law_kron
  simp [this2, fin]
end
/-! ### one above the other -/
theorem r_above_o {a b : Mat} (h : a.length + b.length ≤ 1000000) : sem_above_at_o [wM a, wM b] O = .ok (.o (O.length + (a ++ b).length)) (nest O (a ++ b)) := by
  have ad := uAdd_l (O := O) (xs := a.map dRow) (ys := b.map dRow) (by simp; omega)
  rw [← List.map_append] at ad
  have lp := lcO_nest (O := O) (it := iSq (vOp uAdd (vV 0) (vV 1))) (g := .one 2) (tt := vYes) (te := vCB uListO (vCons (vV 2) vNil)) (us := [2]) (Γ := [some (wM a), some (wM b), none]) (a ++ b) (fun r => W.d (dRow r)) id (by
    simp only [e_iSq, e_Op, e_V, List.getElem?_cons_succ, List.getElem?_cons_zero, R.bind_ok, ad, R.ofO_some, wk_l, List.map_map]; rfl) (by rw [List.length_append]; omega) fun P r _ => by
    have u : uListO [.d (dRow r)] P = some (.o P.length, P ++ [.lst (r.map wR)]) := by
      show some (mkO ((r.map dR).map W.d) P) = _
      rw [mkO_e, List.map_map]; rfl
    simp [u]
  rw [List.map_id] at lp
  unfold sem_above_at_o t_above_at_o
  simp only [e_fnK, e_start, e_Ret, N_above_at_o, List.length_cons, List.length_nil, List.map_cons, List.map_nil]
  show ((vLcO _ _ _ _ _ [some (wM a), some (wM b), none] O).toS _ _).finK O = _
  rw [lp]
  rfl
end
end UZ
/-! own objects sealed: from here on they are data and never changed again. -/
namespace UZ
open PySem PySem.Spec PyProof.Rows L2
/-- all objects from m on are dead -/
def kill (m : Nat) (O : List Ob) : List Ob := O.take m ++ List.replicate (O.length - m) .dead
theorem kill_len {m : Nat} {O : List Ob} : (kill m O).length = O.length := by
  unfold kill; rw [List.length_append, List.length_take, List.length_replicate]; omega
theorem kill_lt {m k : Nat} {O : List Ob} (h : k < m) : (kill m O)[k]? = O[k]? := by
  unfold kill
  by_cases hk : k < O.length
  · rw [List.getElem?_append_left (by rw [List.length_take]; omega), List.getElem?_take, if_pos h]
  · rw [List.getElem?_eq_none (by rw [List.length_append, List.length_take, List.length_replicate]; omega), List.getElem?_eq_none (by omega)]
theorem kill_ge {m k : Nat} {O : List Ob} {ob : Ob} (h : m ≤ k) (e : (kill m O)[k]? = some ob) : ob = .dead := by
  unfold kill at e
  have hl := (List.getElem?_eq_some_iff.mp e).1
  rw [List.length_append, List.length_take, List.length_replicate] at hl
  rw [List.getElem?_append_right (by rw [List.length_take]; omega), List.getElem?_replicate] at e
  split at e
  · cases e; rfl
  · cases e
def sealG (m : Nat) (O : List Ob) (Γ0 : Gm) : List Nat → Gm → Option Gm
  | [], Γ => some Γ
  | i :: is, Γ => match Γ0[i]? with
    | some (some w) => match rsW m O 8 w with
      | some x => sealG m O Γ0 is (Γ.set i (some (.d x)))
      | none => none
    | _ => none
def oAt (i : Nat) (Γ : Gm) (O : List Ob) : Nat := match Γ[i]? with
  | some (some (.o k)) => k
  | _ => O.length
def vSeal (m : Gm → List Ob → Nat) (is : List Nat) (t : VS) : VS := fun Γ O => match sealG (m Γ O) O Γ is Γ with
  | some Γ2 => t Γ2 (kill (m Γ O) O)
  | none => .bad
section
variable {K : PySem.W.Frag} {S : Hp} {ρ : Nat → Addr} {H : Hp} {O : List Ob}
theorem seal_wd (wd : Wd K S ρ O H) (m : Nat) : ∃ S2, Ext S ρ O.length H S2 ρ (kill m O).length H ∧ Wd K S2 ρ (kill m O) H ∧ SubH S S2 ∧ (∀ k ws vs, m ≤ k → O[k]? = some (.lst ws) → H (ρ k) = some (.lst vs) → S2 (ρ k) = some (.lst vs)) := by
  let P : Addr → Prop := fun a => ∃ k ob, m ≤ k ∧ O[k]? = some ob ∧ ob ≠ .dead ∧ ρ k = a
  have dec : ∀ a, Decidable (P a) := fun a => Classical.propDecidable _
  let S2 : Hp := fun a => @ite _ (P a) (dec a) (H a) (S a)
  have s2y : ∀ a, P a → S2 a = H a := fun a h => if_pos h
  have s2n : ∀ a, ¬ P a → S2 a = S a := fun a h => if_neg h
  have s12 : SubH S S2 := fun a o e => by
    by_cases p : P a
    · rw [s2y a p]; exact wd.sub a o e
    · rw [s2n a p]; exact e
  have low : ∀ k ob, (kill m O)[k]? = some ob → ob ≠ .dead → k < m ∧ O[k]? = some ob := fun k ob e hd => by
    by_cases hk : k < m
    · rw [kill_lt hk] at e; exact ⟨hk, e⟩
    · exact absurd (kill_ge (Nat.le_of_not_lt hk) e) hd
  refine ⟨S2, ⟨by rw [kill_len]; exact Nat.le_refl _, s12, fun _ _ => rfl, fun k h1 h2 => by rw [kill_len] at h2; omega, fun a o h => ⟨o, h⟩, fun a o h _ => h, fun a o h hs hk => ?_⟩, ⟨fun a o e => ?_, fun k ob e => ?_, fun k ob e hd => ?_, fun i j a b e1 e2 d1 d2 e => ?_, fun k hk => wd.th k (by rw [kill_len] at hk; exact hk)⟩, s12, fun k ws vs hk e h => ?_⟩
  · rw [s2n a]
    · exact hs
    · rintro ⟨k, ob, h1, h2, _, h4⟩
      exact hk k (Wd.lt h2) h4
  · by_cases p : P a
    · rw [s2y a p] at e; exact e
    · rw [s2n a p] at e; exact wd.sub a o e
  · by_cases hd : ob = .dead
    · subst hd; exact .dead
    · obtain ⟨hk, e⟩ := low k ob e hd
      rw [kill_len]
      exact (wd.own k ob e).mono s12 (fun _ _ => rfl) (Nat.le_refl _)
  · obtain ⟨hk, e⟩ := low k ob e hd
    rw [s2n]
    · exact wd.sep k ob e hd
    · rintro ⟨j, oj, h1, h2, h3, h4⟩
      have := wd.inj j k oj ob h2 e h3 hd h4
      omega
  · exact wd.inj i j a b (low _ _ e1 d1).2 (low _ _ e2 d2).2 d1 d2 e
  · rw [s2y (ρ k) ⟨k, _, hk, e, (fun z => nomatch z), rfl⟩]; exact h
theorem seal_rel {S2 : Hp} {m : Nat} (wd : Wd K S ρ O H) (s : SubH S S2) (g : ∀ k ws vs, m ≤ k → O[k]? = some (.lst ws) → H (ρ k) = some (.lst vs) → S2 (ρ k) = some (.lst vs)) {σ : L2.St} {Γ0 : Gm} (r0 : RelS K S ρ O.length σ Γ0) :
    ∀ (is : List Nat) {Γ Γ2 : Gm}, RelS K S2 ρ O.length σ Γ → sealG m O Γ0 is Γ = some Γ2 → RelS K S2 ρ O.length σ Γ2
  | [], _, _, r, e => by cases e; exact r
  | i :: is, Γ, Γ2, r, e => by
    unfold sealG at e
    split at e
    · rename_i w hw
      split at e
      · rename_i x hx
        refine seal_rel wd s g r0 is ?_ e
        obtain ⟨v, hv, rv⟩ := r0.2 i w hw
        refine ⟨by rw [List.length_set]; exact r.1, fun j u hj => ?_⟩
        by_cases z : j = i
        · subst z
          have hl := (List.getElem?_eq_some_iff.mp hj).1
          rw [List.length_set] at hl
          rw [List.getElem?_set_self hl] at hj
          cases hj
          exact ⟨v, hv, .d (RsN.rep wd s g (rsW_N _ _ _ hx) rv)⟩
        · rw [List.getElem?_set_ne (Ne.symm z)] at hj
          exact r.2 j u hj
      · cases e
    · cases e
end
section
variable {X : Cx} {Wx : WX} {r : List Stmt}
theorem v_seal {t : VS} (m : Gm → List Ob → Nat) (is : List Nat) (h : PVSs X Wx r t) : PVSs X Wx r (vSeal m is t) := L2.PSs.imp h fun D σ H ⟨Γ, O, S, ρ, D', st, h, k⟩ => by
  unfold oS vSeal at h
  split at h
  · rename_i Γ2 e
    obtain ⟨S2, x2, wd2, s12, g⟩ := seal_wd st.wd (m Γ O)
    exact ⟨Γ2, kill (m Γ O) O, S2, ρ, D', ⟨wd2, by rw [kill_len]; exact seal_rel st.wd s12 g st.rs is (by
      refine ⟨st.rs.1, fun j u hj => ?_⟩
      obtain ⟨v, hv, rv⟩ := st.rs.2 j u hj
      exact ⟨v, hv, rv.mono s12 (fun _ _ => rfl) (Nat.le_refl _)⟩) e⟩, h, k.ext x2⟩
  · exact h.elim
end
/-- the parts of a list: so many names -/
def gTpL (n : Nat) (gs : List W → Gm → List Ob → (Gm → List Ob → Prop) → Prop) : DG := fun w Γ O Q => ∃ ws, lv O w = some ws ∧ ws.length = n ∧ gs ws Γ O Q
theorem g_tpL {X : Cx} {pos : Pos} {es : List Expr} {k n : Nat} {gs : List W → Gm → List Ob → (Gm → List Ob → Prop) → Prop} (hc : X.calm = true) (h : PGs X es (iGs X.K gs)) (hn : (assignEach es X.env).length = n := by rfl) (hst : (assignEach es X.env).findIdx? (·.1) = none := by rfl) : PDG X (.Tuple es k pos) (gTpL n gs) :=
  L2.PG.imp (pg_lst hc h hn hst) fun v σ H Q ⟨w, Γ, O, S, ρ, Q', st, r, ⟨ws, e, hl, h⟩, kg⟩ => by
    obtain ⟨a, vs, rfl, h1, g1⟩ := lv_inv st.wd e r
    exact ⟨a, vs, rfl, h1, by rw [g1.length]; exact hl, ws, Γ, O, S, ρ, Q', st, g1, h, kg⟩
def hTpL (n : Nat) (gs : VGs) : VG := fun w Γ O => match lv O w with
  | some ws => if ws.length = n then gs ws Γ O else none
  | none => none
theorem h_tpL {X : Cx} {pos : Pos} {es : List Expr} {k n : Nat} {gs : VGs} (hc : X.calm = true) (h : PVGs X es gs) (hn : (assignEach es X.env).length = n := by rfl) (hst : (assignEach es X.env).findIdx? (·.1) = none := by rfl) : PVG X (.Tuple es k pos) (hTpL n gs) :=
  pdg_imp (g_tpL hc h hn hst) fun w Γ O Q ⟨Γ', O', e, q⟩ => by
    unfold hTpL at e
    split at e
    · rename_i ws ew
      split at e
      · rename_i hl
        exact ⟨ws, ew, hl, Γ', O', e, q⟩
      · cases e
    · cases e
@[simp] theorem e_hTpL {n : Nat} {gs : VGs} {xs : List PyData} {Γ : Gm} {O : List Ob} (h : xs.length = n) : hTpL n gs (.d (.list xs)) Γ O = gs (xs.map .d) Γ O := by
  have e : lv O (.d (.list xs)) = some (xs.map .d) := rfl
  unfold hTpL
  rw [e]
  dsimp only
  rw [if_pos (by rw [List.length_map]; exact h)]
/-! ### list(range(n)) -/
def rgD (n : Int) : List PyData := (List.range n.toNat).map fun i : Nat => .int (i : Int)
def smL (j : Int) : Prop := smI j ∧ j.toNat ≤ 16777216
theorem smL_nat {n : Nat} (h : n ≤ 1000000) : smL (n : Int) := ⟨⟨Int.le_trans (by decide) (Int.natCast_nonneg n), Int.lt_of_le_of_lt (Int.ofNat_le.mpr h) (by decide)⟩, by omega⟩
open Classical in
noncomputable def vListR (t : VE) : VE := fun Γ O => (t Γ O).bind fun w O1 => match w with
  | .d (.int j) => if smL j then .ok (.d (.list (rgD j))) O1 else .bad
  | _ => .bad
theorem rgV_rel {K : PySem.W.Frag} {S : Hp} {ρ : Nat → Addr} {n : Nat} {j : Int} : RelWs K S ρ n (rgV 0 j) ((rgD j).map .d) := by
  unfold rgV rgD
  rw [Int.sub_zero, List.map_map]
  generalize List.range j.toNat = l
  induction l with
  | nil => exact .nil
  | cons i l ih => exact .cons (.d (by show Rep K S (.int (0 + (i : Int))) (.int (i : Int)); rw [Int.zero_add]; exact .int _)) ih
theorem v_listR {X : Cx} {Wx : WX} {a : Expr} {p p2 pos pos2 : Pos} {t : VE} (bx : Bx X Wx) (hml : X.mg "list" = none) (hm : X.mg "range" = none) (ha : PVE X Wx a t) (hgl : Gl X "list" := by rfl) (hg : Gl X "range" := by rfl)
    (na : starEach [a] X.env = (false, eval a X.env) :: starEach [] X.env := by rfl) (nb : starEach [.Call (.Name "range" p2) [a] [] pos2] X.env = (false, eval (.Call (.Name "range" p2) [a] [] pos2) X.env) :: starEach [] X.env := by rfl) :
    PVE X Wx (.Call (.Name "list" p) [.Call (.Name "range" p2) [a] [] pos2] [] pos) (vListR t) :=
  (pe_listRg bx.calm hgl hml (prg_1 hg hm ha na) nb).imp fun σ H Q ⟨Γ, O, S, ρ, Q', E', st, h, kq, kx⟩ => by
    refine ⟨Γ, O, S, ρ, fun w O1 => ∃ j, w = .d (.int j) ∧ smL j ∧ Q' (.d (.list (rgD j))) O1, E', st, ?_, fun w O1 S1 ρ1 v H1 x1 wd1 r1 ⟨j, ew, ok, q⟩ => ?_, kx⟩
    · unfold oE vListR at h
      rw [R.run_bind] at h
      refine R.run_imp h (fun w O1 h => ?_) fun _ _ h => h
      split at h
      · split at h
        · rename_i c; exact ⟨_, rfl, c, h⟩
        · exact h.elim
      · exact h.elim
    · subst ew
      cases r1 with
      | d r =>
        cases r
        refine ⟨j, rfl, ⟨by decide, by decide, ok.1.1, ok.1.2, by rw [Int.sub_zero]; exact ok.2⟩, fun q0 np => (kq.ext x1).newL wd1 np rgV_rel (allD_map _) q⟩
open Classical in
@[simp] theorem e_listR {t : VE} {Γ : Gm} {O : List Ob} : vListR t Γ O = (t Γ O).bind fun w O1 => match w with
  | .d (.int j) => if smL j then .ok (.d (.list (rgD j))) O1 else .bad
  | _ => .bad := rfl
@[simp] theorem e_Seal {m : Gm → List Ob → Nat} {is : List Nat} {t : VS} {Γ : Gm} {O : List Ob} : vSeal m is t Γ O = match sealG (m Γ O) O Γ is Γ with
  | some Γ2 => t Γ2 (kill (m Γ O) O)
  | none => .bad := rfl
@[simp] theorem kill_app {O X : List Ob} : kill O.length (O ++ X) = O ++ List.replicate X.length .dead := by
  unfold kill
  rw [List.take_left' rfl, List.length_append, Nat.add_sub_cancel_left]
theorem kill_st {v : Int} {T : List Ob} {m : Nat} : kill (m + 1) (stO v T) = stO v (kill m T) := by
  unfold kill stO; simp
end UZ
/-! determinants over the fractions: along the first row. Plain: no kit in sight. -/
namespace UZ
def sumN : Nat → (Nat → Rat) → Rat
  | 0, _ => 0
  | n + 1, f => sumN n f + f n
theorem sumN_congr {n : Nat} {f g : Nat → Rat} (h : ∀ k, k < n → f k = g k) : sumN n f = sumN n g := by
  induction n with
  | zero => rfl
  | succ n ih =>
    show sumN n f + f n = sumN n g + g n
    rw [ih fun k hk => h k (by omega), h n (by omega)]
theorem sumN_add {n : Nat} {f g : Nat → Rat} : sumN n (fun k => f k + g k) = sumN n f + sumN n g := by
  induction n with
  | zero => show (0 : Rat) = 0 + 0; grind
  | succ n ih =>
    show sumN n (fun k => f k + g k) + (f n + g n) = (sumN n f + f n) + (sumN n g + g n)
    rw [ih]; grind
theorem sumN_mul {n : Nat} {f : Nat → Rat} {c : Rat} : sumN n (fun k => c * f k) = c * sumN n f := by
  induction n with
  | zero => show (0 : Rat) = c * 0; grind
  | succ n ih =>
    show sumN n (fun k => c * f k) + c * f n = c * (sumN n f + f n)
    rw [ih]; grind
theorem sumN_zero {n : Nat} {f : Nat → Rat} (h : ∀ k, k < n → f k = 0) : sumN n f = 0 := by
  induction n with
  | zero => rfl
  | succ n ih =>
    show sumN n f + f n = 0
    rw [ih fun k hk => h k (by omega), h n (by omega)]; grind
theorem sumN_swap {n m : Nat} {f : Nat → Nat → Rat} : sumN n (fun a => sumN m fun b => f a b) = sumN m fun b => sumN n fun a => f a b := by
  induction n with
  | zero => exact (sumN_zero fun _ _ => rfl).symm
  | succ n ih =>
    show sumN n (fun a => sumN m fun b => f a b) + sumN m (fun b => f n b) = sumN m fun b => (sumN n fun a => f a b) + f n b
    rw [ih, sumN_add]
theorem sumN_one {n a : Nat} {f : Nat → Rat} (ha : a < n) (h : ∀ k, k < n → k ≠ a → f k = 0) : sumN n f = f a := by
  induction n with
  | zero => omega
  | succ n ih =>
    show sumN n f + f n = f a
    by_cases e : a = n
    · rw [sumN_zero fun k hk => h k (by omega) (by omega), e]; grind
    · rw [ih (by omega) fun k hk hn => h k (by omega) hn, h n (by omega) (by omega)]; grind
def skip (k j : Nat) : Nat := if j < k then j else j + 1
theorem sumN_skip {n a : Nat} {f : Nat → Rat} (ha : a ≤ n) : sumN (n + 1) f = sumN n (fun l => f (skip a l)) + f a := by
  induction n with
  | zero =>
    have : a = 0 := by omega
    subst this
    rfl
  | succ n ih =>
    by_cases e : a = n + 1
    · subst e
      have : sumN (n + 1) (fun l => f (skip (n + 1) l)) = sumN (n + 1) f := sumN_congr fun k hk => by simp [skip, hk]
      rw [this]; rfl
    · show sumN (n + 1) f + f (n + 1) = sumN n (fun l => f (skip a l)) + f (skip a n) + f a
      rw [ih (by omega), show skip a n = n + 1 by simp [skip]; omega]
      grind
def sg (k : Nat) : Rat := if k % 2 = 1 then -1 else 1
theorem sg_succ (k : Nat) : sg (k + 1) = - sg k := by
  unfold sg
  by_cases h : k % 2 = 1
  · rw [if_pos h, if_neg (by omega)]; decide
  · rw [if_neg h, if_pos (by omega)]
def det : Nat → (Nat → Nat → Rat) → Rat
  | 0, _ => 1
  | n + 1, A => sumN (n + 1) fun k => sg k * A 0 k * det n fun i j => A (i + 1) (skip k j)
theorem det_congr : ∀ {n : Nat} {A B : Nat → Nat → Rat}, (∀ i j, i < n → j < n → A i j = B i j) → det n A = det n B
  | 0, _, _, _ => rfl
  | n + 1, A, B, h => by
    refine sumN_congr fun k hk => ?_
    rw [h 0 k (by omega) hk, det_congr (n := n) (B := fun i j => B (i + 1) (skip k j)) fun i j hi hj => h _ _ (by omega) (by unfold skip; split <;> omega)]
def upd (A : Nat → Nat → Rat) (i : Nat) (r : Nat → Rat) : Nat → Nat → Rat := fun a => if a = i then r else A a
theorem upd_self {A : Nat → Nat → Rat} {i : Nat} : upd A i (A i) = A := by
  funext a; unfold upd; split <;> simp_all
theorem upd_inner {A : Nat → Nat → Rat} {i k : Nat} {r : Nat → Rat} : (fun a j => upd A (i + 1) r (a + 1) (skip k j)) = upd (fun a j => A (a + 1) (skip k j)) i (fun j => r (skip k j)) := by
  funext a j; unfold upd
  by_cases h : a = i
  · simp [h]
  · simp [h]
theorem det_lin : ∀ {n i : Nat} {A : Nat → Nat → Rat} {r s : Nat → Rat} {c : Rat}, i < n → det n (upd A i fun j => r j + c * s j) = det n (upd A i r) + c * det n (upd A i s)
  | 0, _, _, _, _, _, h => by omega
  | n + 1, 0, A, r, s, c, h => by
    show sumN (n + 1) _ = sumN (n + 1) _ + c * sumN (n + 1) _
    rw [← sumN_mul, ← sumN_add]
    refine sumN_congr fun k _ => ?_
    have e : ∀ t : Nat → Rat, (fun a j => upd A 0 t (a + 1) (skip k j)) = fun a j => A (a + 1) (skip k j) := fun t => by funext a j; simp [upd]
    rw [e, e, e]
    simp only [upd, if_true]
    grind
  | n + 1, i + 1, A, r, s, c, h => by
    show sumN (n + 1) _ = sumN (n + 1) _ + c * sumN (n + 1) _
    rw [← sumN_mul, ← sumN_add]
    refine sumN_congr fun k _ => ?_
    have e : ∀ t : Nat → Rat, upd A (i + 1) t 0 k = A 0 k := fun t => by simp [upd]
    rw [e, e, e, upd_inner, upd_inner, upd_inner, det_lin (n := n) (i := i) (by omega)]
    grind
/-- rows i and i + 1 exchanged -/
def swp (i : Nat) (A : Nat → Nat → Rat) : Nat → Nat → Rat := fun a => if a = i then A (i + 1) else if a = i + 1 then A i else A a
def sk2 (a b j : Nat) : Nat := if j < min a b then j else if j + 1 < max a b then j + 1 else j + 2
theorem sk2_comm (a b j : Nat) : sk2 a b j = sk2 b a j := by unfold sk2; rw [Nat.min_comm, Nat.max_comm]
def dT (m : Nat) (A : Nat → Nat → Rat) (a b : Nat) : Rat := if a = b then 0 else sg a * sg (if a < b then b - 1 else b) * A 0 a * A 1 b * det m fun i j => A (i + 2) (sk2 a b j)
theorem det_two {m : Nat} {A : Nat → Nat → Rat} : det (m + 2) A = sumN (m + 2) fun a => sumN (m + 2) fun b => dT m A a b := by
  show sumN (m + 2) _ = _
  refine sumN_congr fun a ha => ?_
  rw [sumN_skip (n := m + 1) (a := a) (by omega)]
  show sg a * A 0 a * sumN (m + 1) _ = _
  rw [← sumN_mul, show dT m A a a = 0 by simp [dT]]
  have : sumN (m + 1) (fun l => dT m A a (skip a l)) = sumN (m + 1) fun k => sg a * A 0 a * (sg k * A (0 + 1) (skip a k) * det m fun i j => A (i + 1 + 1) (skip a (skip k j))) := by
    refine sumN_congr fun l _ => ?_
    have hne : a ≠ skip a l := by unfold skip; split <;> omega
    have hl : (if a < skip a l then skip a l - 1 else skip a l) = l := by unfold skip; split <;> split <;> omega
    have hs : (fun i j => A (i + 2) (sk2 a (skip a l) j)) = fun i j => A (i + 1 + 1) (skip a (skip l j)) := by
      funext i j
      congr 1
      unfold sk2 skip
      by_cases h1 : l < a
      · simp only [h1, if_true]
        rw [Nat.min_eq_right (by omega), Nat.max_eq_left (by omega)]
        split <;> split <;> (try split) <;> omega
      · simp only [h1, if_false]
        rw [Nat.min_eq_left (by omega), Nat.max_eq_right (by omega)]
        split <;> split <;> (try split) <;> (try split) <;> omega
    unfold dT
    rw [if_neg hne, hl, hs]
    grind
  rw [this]; grind
theorem det_swp : ∀ {n i : Nat} {A : Nat → Nat → Rat}, i + 1 < n → det n (swp i A) = - det n A
  | 0, _, _, h => by omega
  | 1, _, _, h => by omega
  | m + 2, 0, A, h => by
    rw [det_two, det_two, sumN_swap]
    have : ∀ x : Rat, -x = -1 * x := fun x => by grind
    rw [this, ← sumN_mul]
    refine sumN_congr fun b _ => ?_
    rw [← sumN_mul]
    refine sumN_congr fun a _ => ?_
    unfold dT
    by_cases e : a = b
    · simp [e]
    · rw [if_neg e, if_neg (Ne.symm e)]
      have hd : (fun i j => swp 0 A (i + 2) (sk2 a b j)) = fun i j => A (i + 2) (sk2 b a j) := by
        funext i j; rw [sk2_comm]; simp [swp]
      rw [hd, show swp 0 A 0 a = A 1 a by simp [swp], show swp 0 A 1 b = A 0 b by simp [swp]]
      by_cases h1 : a < b
      · rw [if_pos h1, if_neg (by omega)]
        obtain ⟨c, rfl⟩ : ∃ c, b = c + 1 := ⟨b - 1, by omega⟩
        rw [Nat.add_sub_cancel, sg_succ]; grind
      · rw [if_neg h1, if_pos (by omega)]
        obtain ⟨c, rfl⟩ : ∃ c, a = c + 1 := ⟨a - 1, by omega⟩
        rw [Nat.add_sub_cancel, sg_succ]; grind
  | n + 2, i + 1, A, h => by
    show sumN (n + 2) _ = - sumN (n + 2) _
    have : ∀ x : Rat, -x = -1 * x := fun x => by grind
    rw [this, ← sumN_mul]
    refine sumN_congr fun k _ => ?_
    have e : (fun a j => swp (i + 1) A (a + 1) (skip k j)) = swp i fun a j => A (a + 1) (skip k j) := by
      funext a j
      unfold swp
      by_cases h1 : a = i
      · simp [h1]
      · by_cases h2 : a = i + 1
        · simp [h2]
        · simp [h1, h2]
    rw [e, det_swp (n := n + 1) (by omega), show swp (i + 1) A 0 k = A 0 k by simp [swp]]
    grind
/-- rows 0 and p exchanged -/
def sw0 (p : Nat) (A : Nat → Nat → Rat) : Nat → Nat → Rat := fun a => if a = 0 then A p else if a = p then A 0 else A a
theorem det_sw0 {n : Nat} : ∀ {p : Nat} {A : Nat → Nat → Rat}, 0 < p → p < n → det n (sw0 p A) = - det n A
  | 0, _, h, _ => by omega
  | 1, A, _, h => by
    rw [← det_swp (i := 0) h]
    congr 1
  | p + 2, A, _, h => by
    have e : sw0 (p + 2) A = swp (p + 1) (sw0 (p + 1) (swp (p + 1) A)) := by
      funext a
      unfold sw0 swp
      by_cases h0 : a = 0
      · simp [h0]
      · by_cases h1 : a = p + 1
        · simp [h1]
        · by_cases h2 : a = p + 2
          · simp [h2]
          · simp [h0, h1, h2]
    rw [e, det_swp h, det_sw0 (by omega) (by omega), det_swp h]
    grind
theorem det_eq0 {n p : Nat} {A : Nat → Nat → Rat} (h0 : 0 < p) (h : p < n) (e : A p = A 0) : det n A = 0 := by
  have : sw0 p A = A := by
    funext a
    unfold sw0
    by_cases h0 : a = 0
    · simp [h0, e]
    · by_cases h1 : a = p
      · simp [h1, e]
      · simp [h0, h1]
  have h1 := det_sw0 (A := A) h0 h
  rw [this] at h1
  grind
theorem det_sub {n p : Nat} {A : Nat → Nat → Rat} {f : Rat} (h0 : 0 < p) (h : p < n) : det n (upd A p fun j => A p j - f * A 0 j) = det n A := by
  have e : (fun j => A p j - f * A 0 j) = fun j => A p j + -f * A 0 j := by funext j; grind
  rw [e, det_lin h, upd_self, det_eq0 (A := upd A p (A 0)) h0 h (by
    funext j; simp [upd, show ¬ (0 = p) by omega])]
  grind
/-- multiples of row 0 taken from all others -/
theorem det_subs {n : Nat} {A : Nat → Nat → Rat} {f : Nat → Rat} : ∀ m, m ≤ n → det n (fun a j => if 0 < a ∧ a < m then A a j - f a * A 0 j else A a j) = det n A
  | 0, _ => by simp
  | m + 1, hm => by
    rw [← det_subs (f := f) (A := A) m (by omega)]
    by_cases h : m = 0
    · subst h
      congr 1
      funext a j
      rw [if_neg (by omega), if_neg (by omega)]
    · rw [← det_sub (p := m) (f := f m) (A := fun a j => if 0 < a ∧ a < m then A a j - f a * A 0 j else A a j) (by omega) (by omega)]
      congr 1
      funext a j
      unfold upd
      by_cases e : a = m
      · subst e
        simp [show 0 < a by omega]
      · simp [e, show (a < m + 1) = (a < m) by apply propext; omega]
theorem det_z {A : Nat → Nat → Rat} : ∀ {n : Nat}, 0 < n → (∀ i, i < n → A i 0 = 0) → det n A = 0 := by
  intro n
  induction n generalizing A with
  | zero => intro h; omega
  | succ n ih =>
    intro _ h
    refine sumN_zero fun k hk => ?_
    by_cases h0 : k = 0
    · subst h0; rw [h 0 (by omega)]; grind
    · rw [ih (A := fun i j => A (i + 1) (skip k j)) (by omega) fun i hi => by
        show A (i + 1) (skip k 0) = 0
        rw [show skip k 0 = 0 by simp [skip]; omega]; exact h _ (by omega)]
      grind
theorem det_p {n : Nat} {A : Nat → Nat → Rat} (h : ∀ i, i < n → A (i + 1) 0 = 0) : det (n + 1) A = A 0 0 * det n fun i j => A (i + 1) (j + 1) := by
  show sumN (n + 1) _ = _
  rw [sumN_one (a := 0) (by omega) fun k hk h0 => by
    rw [det_z (n := n) (by omega) fun i hi => by
      show A (i + 1) (skip k 0) = 0
      rw [show skip k 0 = 0 by simp [skip]; omega]; exact h _ hi]
    grind]
  show sg 0 * A 0 0 * det n (fun i j => A (i + 1) (skip 0 j)) = _
  have : (fun i j => A (i + 1) (skip 0 j)) = fun i j => A (i + 1) (j + 1) := by funext i j; simp [skip]
  rw [this, show sg 0 = 1 by rfl]
  grind
end UZ
/-! elimination of matrices of fractions, plain: places are numbers, a matrix is a function of two places. -/
namespace UZ
abbrev Fm := Nat → Nat → Rat
def sw (f : Fm) (d pl : Nat) : Fm := fun k => if k = d then f pl else if k = pl then f d else f k
def nrm (f : Fm) (d c : Nat) : Fm := fun k j => if k = d then f d j / f d c else f k j
def gj (f : Fm) (d c : Nat) : Fm := fun k j => if k = d then f d j else f k j - f k c * f d j
def stp (f : Fm) (d c pl : Nat) : Fm := gj (nrm (sw f d pl) d c) d c
/-- the first row from d on with an entry in column c -/
def piv (p : Nat) (f : Fm) (d c : Nat) : Option Nat := ((List.range (p - d)).map (d + ·)).find? fun k => decide (f k c ≠ 0)
theorem piv_some {p d c pl : Nat} {f : Fm} (h : piv p f d c = some pl) : d ≤ pl ∧ pl < p ∧ f pl c ≠ 0 := by
  have h1 := List.find?_some h
  have h2 := List.mem_of_find?_eq_some h
  rw [List.mem_map] at h2
  obtain ⟨i, hi, rfl⟩ := h2
  rw [List.mem_range] at hi
  exact ⟨by omega, by omega, by simpa using h1⟩
theorem piv_none {p d c : Nat} {f : Fm} (h : piv p f d c = none) : ∀ k, d ≤ k → k < p → f k c = 0 := fun k h1 h2 => by
  have := List.find?_eq_none.mp h k (List.mem_map.mpr ⟨k - d, List.mem_range.mpr (by omega), by omega⟩)
  simpa using this
theorem piv_ge {p d c : Nat} {f : Fm} (h : p ≤ d) : piv p f d c = none := by
  unfold piv; rw [Nat.sub_eq_zero_of_le h]; rfl
theorem piv_congr {p d c : Nat} {f g : Fm} (h : ∀ k, d ≤ k → k < p → f k c = g k c) : piv p f d c = piv p g d c := by
  unfold piv
  have : ∀ l : List Nat, (∀ k ∈ l, f k c = g k c) → l.find? (fun k => decide (f k c ≠ 0)) = l.find? fun k => decide (g k c ≠ 0) := fun l => by
    induction l with
    | nil => intro _; rfl
    | cons x l ih =>
      intro h
      rw [List.find?_cons, List.find?_cons, h x (List.mem_cons_self ..), ih fun k hk => h k (List.mem_cons_of_mem _ hk)]
  refine this _ fun k hk => ?_
  rw [List.mem_map] at hk
  obtain ⟨i, hi, rfl⟩ := hk
  rw [List.mem_range] at hi
  exact h _ (by omega) (by omega)

/-! ### the law's elimination: column after column -/
structure LS where
  f : Fm
  done : Nat
  pl : List Nat
def lst1 (p : Nat) (s : LS) (c : Nat) : LS := match piv p s.f s.done c with
  | some k => ⟨stp s.f s.done c k, s.done + 1, s.pl ++ [c]⟩
  | none => s
def lstp (p : Nat) (f : Fm) (cs : List Nat) : LS := cs.foldl (lst1 p) ⟨f, 0, []⟩
/-- the program's: one pivot in each column, or none is told -/
def invG (n : Nat) : Nat → Nat → Fm → Option Fm
  | 0, _, f => some f
  | r + 1, a, f => match piv n f a a with
    | none => none
    | some pl => invG n r (a + 1) (stp f a a pl)
/-- places that lack a -/
def Lack (a : Nat) (s : LS) : Prop := ∃ m, s.pl = List.range a ++ m ∧ ∀ x ∈ m, a < x
theorem lack_1 {p a c : Nat} {s : LS} (h : Lack a s) (hc : a < c) : Lack a (lst1 p s c) := by
  obtain ⟨m, e, hm⟩ := h
  unfold lst1
  split
  · refine ⟨m ++ [c], by show s.pl ++ [c] = _; rw [e, List.append_assoc], fun x hx => ?_⟩
    rw [List.mem_append, List.mem_singleton] at hx
    rcases hx with hx | rfl
    · exact hm x hx
    · exact hc
  · exact ⟨m, e, hm⟩
theorem lack_fold {p a : Nat} : ∀ (cs : List Nat) (s : LS), Lack a s → (∀ c ∈ cs, a < c) → Lack a (cs.foldl (lst1 p) s)
  | [], _, h, _ => h
  | c :: cs, s, h, hc => lack_fold cs _ (lack_1 h (hc c (List.mem_cons_self ..))) fun x hx => hc x (List.mem_cons_of_mem _ hx)
theorem lack_ne {n a : Nat} {s : LS} (h : Lack a s) (ha : a < n) : s.pl.take n ≠ List.range n := by
  obtain ⟨m, e, hm⟩ := h
  intro z
  have h1 : (s.pl.take n)[a]? = some a := by rw [z, List.getElem?_range ha]
  rw [List.getElem?_take, if_pos ha, e, List.getElem?_append_right (by rw [List.length_range]; exact Nat.le_refl _), List.length_range, Nat.sub_self] at h1
  have := hm a (List.mem_of_getElem? h1)
  omega
theorem lst_inv {n : Nat} : ∀ (r a : Nat) (f : Fm), a + r = n →
    (∀ g, invG n r a f = some g → (List.range' a r).foldl (lst1 n) ⟨f, a, List.range a⟩ = ⟨g, n, List.range n⟩) ∧ (invG n r a f = none → ∃ b, b < n ∧ Lack b ((List.range' a r).foldl (lst1 n) ⟨f, a, List.range a⟩))
  | 0, a, f, h => by
    have : a = n := by omega
    subst this
    unfold invG
    exact ⟨fun g e => (by injection e with e; subst e; rfl), fun e => (by cases e)⟩
  | r + 1, a, f, h => by
    rw [List.range'_succ, List.foldl_cons]
    unfold invG
    cases e : piv n f a a with
    | none =>
      refine ⟨fun g e => (by cases e), fun _ => ⟨a, by omega, ?_⟩⟩
      have : lst1 n ⟨f, a, List.range a⟩ a = ⟨f, a, List.range a⟩ := by unfold lst1; dsimp only; rw [e]
      rw [this]
      refine lack_fold _ _ ⟨[], by rw [List.append_nil], fun _ h => by cases h⟩ fun c hc => ?_
      rw [List.mem_range'] at hc
      omega
    | some pl =>
      have : lst1 n ⟨f, a, List.range a⟩ a = ⟨stp f a a pl, a + 1, List.range (a + 1)⟩ := by unfold lst1; dsimp only; rw [e, List.range_succ]
      rw [this]
      exact lst_inv r (a + 1) _ (by omega)
theorem lst_full {n : Nat} : ∀ (cs : List Nat) (s : LS), s.done = n → cs.foldl (lst1 n) s = s
  | [], _, _ => rfl
  | c :: cs, s, h => by
    have : lst1 n s c = s := by unfold lst1; rw [h, piv_ge (Nat.le_refl _)]
    rw [List.foldl_cons, this]
    exact lst_full cs s h
theorem range_split (n m : Nat) : List.range (n + m) = List.range' 0 n ++ List.range' n m := by
  rw [List.range_eq_range', ← List.range'_append_1, Nat.zero_add]
/-- both ways of elimination agree -/
theorem lstp_inv {n m : Nat} {f : Fm} : (∀ g, invG n n 0 f = some g → lstp n f (List.range (n + m)) = ⟨g, n, List.range n⟩) ∧ (invG n n 0 f = none → (lstp n f (List.range (n + m))).pl.take n ≠ List.range n) := by
  have h := lst_inv (n := n) n 0 f (by omega)
  unfold lstp
  rw [range_split, List.foldl_append]
  refine ⟨fun g e => ?_, fun e => ?_⟩
  · have := h.1 g e
    rw [show (⟨f, 0, []⟩ : LS) = ⟨f, 0, List.range 0⟩ from rfl, this, lst_full (n := n) _ _ rfl]
  · obtain ⟨b, hb, hl⟩ := h.2 e
    refine lack_ne (lack_fold _ _ hl fun c hc => ?_) hb
    rw [List.mem_range'] at hc
    omega

/-! ### how great the numbers grow: rows with one denominator -/
def RB (f : Fm) (p q c : Nat) : Prop := ∀ k, k < p → ∃ (D : Int) (N : Nat → Int), D ≠ 0 ∧ D.natAbs < 2 ^ c ∧ ∀ j, j < q → (N j).natAbs < 2 ^ c ∧ f k j * (D : Rat) = (N j : Rat)
theorem RB.mono {f : Fm} {p q c c' : Nat} (h : RB f p q c) (hl : c ≤ c') : RB f p q c' := fun k hk => by
  obtain ⟨D, N, h0, h1, h2⟩ := h k hk
  have := Nat.pow_le_pow_right (n := 2) (by decide) hl
  exact ⟨D, N, h0, by omega, fun j hj => ⟨by have := (h2 j hj).1; omega, (h2 j hj).2⟩⟩
theorem RB.sw {f : Fm} {p q c d pl : Nat} (h : RB f p q c) (hd : d < p) (hp : pl < p) : RB (sw f d pl) p q c := fun k hk => by
  by_cases h1 : k = d
  · obtain ⟨D, N, r⟩ := h pl hp
    exact ⟨D, N, by unfold UZ.sw; simp only [h1, if_true]; exact r⟩
  · by_cases h2 : k = pl
    · obtain ⟨D, N, r⟩ := h d hd
      exact ⟨D, N, by unfold UZ.sw; simp only [if_neg h1, if_pos h2]; exact r⟩
    · obtain ⟨D, N, r⟩ := h k hk
      exact ⟨D, N, by unfold UZ.sw; simp only [if_neg h1, if_neg h2]; exact r⟩
theorem ratI_ne {D : Int} (h : D ≠ 0) : (D : Rat) ≠ 0 := fun z => h (by exact_mod_cast z)
theorem RB.nrm {f : Fm} {p q c d col : Nat} (h : RB f p q c) (hd : d < p) (hc : col < q) (h0 : f d col ≠ 0) : RB (nrm f d col) p q c := fun k hk => by
  by_cases h1 : k = d
  · subst h1
    obtain ⟨D, N, hD, hl, hN⟩ := h k hk
    have hcol := hN col hc
    have hD' := ratI_ne hD
    have hz : N col ≠ 0 := fun z => by
      rw [z] at hcol
      have e := hcol.2
      have : f k col = 0 := by
        have : (((0 : Int) : Rat)) = 0 := rfl
        rw [this] at e
        grind
      exact h0 this
    refine ⟨N col, N, hz, hcol.1, fun j hj => ⟨(hN j hj).1, ?_⟩⟩
    have e1 := (hN j hj).2
    have e2 := hcol.2
    unfold UZ.nrm
    rw [if_pos rfl]
    grind
  · obtain ⟨D, N, r⟩ := h k hk
    exact ⟨D, N, by unfold UZ.nrm; simp only [if_neg h1]; exact r⟩
theorem RB.gj {f : Fm} {p q c d col : Nat} (h : RB f p q c) (hd : d < p) (hc : col < q) : RB (gj f d col) p q (2 * c + 1) := fun k hk => by
  have hp : (2 : Nat) ^ (2 * c + 1) = 2 ^ c * 2 ^ c * 2 := by rw [Nat.pow_succ, Nat.two_mul, Nat.pow_add]
  have hq : (2 : Nat) ^ c ≤ 2 ^ c * 2 ^ c := Nat.le_mul_of_pos_left _ (Nat.two_pow_pos c)
  by_cases h1 : k = d
  · obtain ⟨D, N, hD, hl, hN⟩ := h d hd
    refine ⟨D, N, hD, by rw [hp]; omega, fun j hj => ⟨by have := (hN j hj).1; rw [hp]; omega, ?_⟩⟩
    unfold UZ.gj; rw [if_pos h1]; exact (hN j hj).2
  · obtain ⟨D, N, hD, hl, hN⟩ := h k hk
    obtain ⟨E, M, hE, hm, hM⟩ := h d hd
    have lt : ∀ {a b : Int}, a.natAbs < 2 ^ c → b.natAbs < 2 ^ c → (a * b).natAbs < 2 ^ c * 2 ^ c := fun {a b} ha hb => by
      rw [Int.natAbs_mul]; exact Nat.mul_lt_mul'' ha hb
    refine ⟨D * E, fun j => N j * E - N col * M j, Int.mul_ne_zero hD hE, by have := lt hl hm; rw [hp]; omega, fun j hj => ⟨?_, ?_⟩⟩
    · have a1 := lt (hN j hj).1 hm
      have a2 := lt (hN col hc).1 (hM j hj).1
      rw [hp]; show (N j * E - N col * M j).natAbs < _
      omega
    · unfold UZ.gj; rw [if_neg h1]
      have e1 := (hN j hj).2
      have e2 := (hN col hc).2
      have e3 := (hM j hj).2
      have : ((N j * E - N col * M j : Int) : Rat) = (N j : Rat) * (E : Rat) - (N col : Rat) * (M j : Rat) := by rw [Rat.intCast_sub, Rat.intCast_mul, Rat.intCast_mul]
      rw [this, Rat.intCast_mul, ← e1, ← e2, ← e3]
      grind
theorem RB.stp {f : Fm} {p q c d col pl : Nat} (h : RB f p q c) (hd : d < p) (hp : pl < p) (hc : col < q) (h0 : f pl col ≠ 0) : RB (stp f d col pl) p q (2 * c + 1) :=
  ((h.sw hd hp).nrm hd hc (by unfold UZ.sw; rw [if_pos rfl]; exact h0)).gj hd hc
/-! ### sums of multiples of rows -/
inductive Spn (n : Nat) (f : Fm) : (Nat → Rat) → Prop
  | zero : Spn n f fun _ => 0
  | add {r : Nat → Rat} (c : Rat) (k : Nat) : k < n → Spn n f r → Spn n f fun j => r j + c * f k j
theorem Spn.row {n k : Nat} {f : Fm} (h : k < n) : Spn n f (f k) := by
  have := Spn.add (n := n) (f := f) 1 k h .zero
  have e : (fun j => (fun _ => (0 : Rat)) j + 1 * f k j) = f k := by funext j; grind
  rwa [e] at this
theorem Spn.lin {n : Nat} {f : Fm} {r s : Nat → Rat} (c : Rat) (hr : Spn n f r) (hs : Spn n f s) : Spn n f fun j => r j + c * s j := by
  induction hs with
  | zero =>
    have e : (fun j => r j + c * 0) = r := by funext j; grind
    rw [e]; exact hr
  | @add s c' k hk hs ih =>
    have := Spn.add (c * c') k hk ih
    have e : (fun j => (fun j => r j + c * s j) j + c * c' * f k j) = fun j => r j + c * (s j + c' * f k j) := by funext j; grind
    rwa [e] at this
theorem Spn.sub {n m : Nat} {f g : Fm} (h : ∀ k, k < n → Spn m g (f k)) {r : Nat → Rat} (hr : Spn n f r) : Spn m g r := by
  induction hr with
  | zero => exact .zero
  | add c k hk _ ih => exact ih.lin c (h k hk)
theorem sumN_upd {n k : Nat} {co F : Nat → Rat} {c : Rat} (h : k < n) : sumN n (fun i => (if i = k then co k + c else co i) * F i) = sumN n (fun i => co i * F i) + c * F k := by
  have e : (fun i => (if i = k then co k + c else co i) * F i) = fun i => co i * F i + (if i = k then c * F k else 0) := by
    funext i
    by_cases z : i = k
    · subst z; rw [if_pos rfl, if_pos rfl]; grind
    · rw [if_neg z, if_neg z]; grind
  rw [e, sumN_add, sumN_one (a := k) h fun i _ hi => if_neg hi, if_pos rfl]
theorem Spn.co {n : Nat} {f : Fm} {r : Nat → Rat} (h : Spn n f r) : ∃ co : Nat → Rat, ∀ j, r j = sumN n fun k => co k * f k j := by
  induction h with
  | zero => exact ⟨fun _ => 0, fun j => (sumN_zero fun k _ => by grind).symm⟩
  | @add r c k hk _ ih =>
    obtain ⟨co, hco⟩ := ih
    exact ⟨fun i => if i = k then co k + c else co i, fun j => by rw [sumN_upd (F := fun k => f k j) hk, ← hco j]⟩
theorem Spn.of_co {n : Nat} {f : Fm} (co : Nat → Rat) : Spn n f fun j => sumN n fun k => co k * f k j := by
  have : ∀ m, m ≤ n → Spn n f fun j => sumN m fun k => co k * f k j := fun m => by
    induction m with
    | zero => intro _; exact .zero
    | succ m ih => intro h; exact .add (co m) m (by omega) (ih (by omega))
  exact this n (Nat.le_refl _)
theorem spn_sw {n d pl : Nat} {f : Fm} (hd : d < n) (hp : pl < n) : ∀ k, k < n → Spn n (sw f d pl) (f k) := fun k hk => by
  have e : ∀ j, j < n → Spn n (sw f d pl) (sw f d pl j) := fun j hj => .row hj
  by_cases h1 : k = d
  · have := e pl hp
    subst h1
    unfold sw at this ⊢
    by_cases h2 : pl = k
    · subst h2; simpa using this
    · simpa [h2] using this
  · by_cases h2 : k = pl
    · have := e d hd
      subst h2
      unfold sw at this ⊢
      simpa using this
    · have := e k hk
      unfold sw at this ⊢
      simpa [h1, h2] using this
theorem spn_nrm {n d c : Nat} {f : Fm} (hd : d < n) (h0 : f d c ≠ 0) : ∀ k, k < n → Spn n (nrm f d c) (f k) := fun k hk => by
  by_cases h1 : k = d
  · subst h1
    have := Spn.lin (f k c) (.zero) (Spn.row (f := nrm f k c) hk)
    have e : (fun j => (fun _ => (0 : Rat)) j + f k c * nrm f k c k j) = f k := by
      funext j; unfold nrm; rw [if_pos rfl]; grind
    rwa [e] at this
  · have := Spn.row (f := nrm f d c) hk
    have e : nrm f d c k = f k := by funext j; unfold nrm; rw [if_neg h1]
    rwa [e] at this
theorem spn_gj {n d c : Nat} {f : Fm} (hd : d < n) : ∀ k, k < n → Spn n (gj f d c) (f k) := fun k hk => by
  have e0 : gj f d c d = f d := by funext j; unfold gj; rw [if_pos rfl]
  have hd' : Spn n (gj f d c) (f d) := by have := Spn.row (f := gj f d c) hd; rwa [e0] at this
  by_cases h1 : k = d
  · subst h1; exact hd'
  · have := (Spn.row (f := gj f d c) hk).lin (f k c) hd'
    have e : (fun j => gj f d c k j + f k c * f d j) = f k := by funext j; unfold gj; rw [if_neg h1]; grind
    rwa [e] at this
/-- the old rows are sums of the new ones -/
theorem spn_stp {n d c pl : Nat} {f : Fm} (hd : d < n) (hp : pl < n) (h0 : f pl c ≠ 0) : ∀ k, k < n → Spn n (stp f d c pl) (f k) := fun k hk => by
  have h1 : sw f d pl d c ≠ 0 := by unfold sw; rw [if_pos rfl]; exact h0
  exact Spn.sub (fun k hk => Spn.sub (fun k hk => spn_gj hd k hk) (spn_nrm hd h1 k hk)) (spn_sw hd hp k hk)
/-- what holds of rows and of sums of multiples holds of the new rows -/
theorem stp_all {n d c pl : Nat} {f : Fm} {P : (Nat → Rat) → Prop} (hl : ∀ r s c, P r → P s → P fun j => r j + c * s j) (hz : P fun _ => 0) (hd : d < n) (hp : pl < n) (h : ∀ k, k < n → P (f k)) : ∀ k, k < n → P (stp f d c pl k) := by
  have h1 : ∀ k, k < n → P (sw f d pl k) := fun k hk => by
    by_cases e1 : k = d
    · have := h pl hp
      unfold sw; simpa [e1] using this
    · by_cases e2 : k = pl
      · have := h d hd
        unfold sw
        rw [if_neg e1, if_pos e2]; exact this
      · unfold sw; rw [if_neg e1, if_neg e2]; exact h k hk
  show ∀ k, k < n → P (gj (nrm (sw f d pl) d c) d c k)
  generalize sw f d pl = g at *
  have h2 : ∀ k, k < n → P (nrm g d c k) := fun k hk => by
    by_cases e1 : k = d
    · have := hl _ _ (1 / g d c) hz (h1 d hd)
      have e : (fun j => (fun _ => (0 : Rat)) j + 1 / g d c * g d j) = nrm g d c k := by funext j; unfold nrm; rw [if_pos e1]; grind
      rwa [e] at this
    · have e : nrm g d c k = g k := by funext j; unfold nrm; rw [if_neg e1]
      rw [e]; exact h1 k hk
  generalize nrm g d c = g2 at *
  intro k hk
  by_cases e1 : k = d
  · have e : gj g2 d c k = g2 d := by funext j; unfold gj; rw [if_pos e1]
    rw [e]; exact h2 d hd
  · have := hl _ _ (- g2 k c) (h2 k hk) (h2 d hd)
    have e : (fun j => g2 k j + -g2 k c * g2 d j) = gj g2 d c k := by funext j; unfold gj; rw [if_neg e1]; grind
    rwa [e] at this
/-! ### the program's determinant -/
def dstp (g : Fm) (a pl : Nat) : Fm := fun k j => if a < k then stp g a a pl k j else sw g a pl k j
def detG (n : Nat) : Nat → Nat → Fm → Rat → Rat
  | 0, _, _, acc => acc
  | r + 1, a, g, acc => match piv n g a a with
    | none => 0
    | some pl => detG n r (a + 1) (dstp g a pl) ((if pl = a then acc else -1 * acc) * sw g a pl a a)
theorem stp_eq {g : Fm} {a pl k j : Nat} (h : k ≠ a) : stp g a a pl k j = sw g a pl k j - sw g a pl k a * (sw g a pl a j / sw g a pl a a) := by
  unfold stp gj nrm
  rw [if_neg h, if_pos rfl, if_neg h, if_neg h]
theorem detG_det {n : Nat} : ∀ (r a : Nat) (g : Fm) (acc : Rat), a + r = n → detG n r a g acc = acc * det r fun i j => g (a + i) (a + j)
  | 0, a, g, acc, h => by
    show acc = acc * 1
    grind
  | r + 1, a, g, acc, h => by
    unfold detG
    cases e : piv n g a a with
    | none =>
      have hz := piv_none e
      rw [det_z (n := r + 1) (by omega) fun i hi => hz (a + i) (by omega) (by omega)]
      show (0 : Rat) = acc * 0
      grind
    | some pl =>
      obtain ⟨p1, p2, p3⟩ := piv_some e
      dsimp only
      rw [detG_det r (a + 1) _ _ (by omega)]
      have h1 : (if pl = a then acc else -1 * acc) * det (r + 1) (fun i j => sw g a pl (a + i) (a + j)) = acc * det (r + 1) fun i j => g (a + i) (a + j) := by
        by_cases z : pl = a
        · subst z
          rw [if_pos rfl]
          congr 1
          congr 1
          funext i j
          unfold sw
          by_cases hi : pl + i = pl
          · rw [if_pos hi, hi]
          · rw [if_neg hi, if_neg hi]
        · rw [if_neg z]
          have h2 := det_sw0 (n := r + 1) (p := pl - a) (A := fun i j => g (a + i) (a + j)) (by omega) (by omega)
          have h3 : sw0 (pl - a) (fun i j => g (a + i) (a + j)) = fun i j => sw g a pl (a + i) (a + j) := by
            funext i j
            unfold sw0 sw
            by_cases hi : i = 0
            · subst hi
              rw [if_pos rfl, if_pos (by omega)]
              show g (a + (pl - a)) (a + j) = _
              rw [show a + (pl - a) = pl by omega]
            · by_cases hj : i = pl - a
              · rw [if_neg hi, if_pos hj, if_neg (by omega), if_pos (by omega)]; rfl
              · rw [if_neg hi, if_neg hj, if_neg (by omega), if_neg (by omega)]
          rw [h3] at h2
          rw [h2]; grind
      have g0 : sw g a pl a a ≠ 0 := by unfold sw; rw [if_pos rfl]; exact p3
      rw [← h1]
      have h4 := det_subs (n := r + 1) (A := fun i j => sw g a pl (a + i) (a + j)) (f := fun i => sw g a pl (a + i) a / sw g a pl a a) (r + 1) (Nat.le_refl _)
      rw [← h4, det_p (by
        intro i hi
        rw [if_pos ⟨by omega, by omega⟩]
        show sw g a pl (a + (i + 1)) (a + 0) - sw g a pl (a + (i + 1)) a / sw g a pl a a * sw g a pl (a + 0) (a + 0) = 0
        rw [Nat.add_zero]
        grind)]
      rw [if_neg (show ¬ (0 < 0 ∧ 0 < r + 1) by omega)]
      show _ = _ * (sw g a pl (a + 0) (a + 0) * _)
      rw [Nat.add_zero]
      have h5 : det r (fun i j => dstp g a pl (a + 1 + i) (a + 1 + j)) = det r fun i j => if 0 < i + 1 ∧ i + 1 < r + 1 then sw g a pl (a + (i + 1)) (a + (j + 1)) - sw g a pl (a + (i + 1)) a / sw g a pl a a * sw g a pl a (a + (j + 1)) else sw g a pl (a + (i + 1)) (a + (j + 1)) := by
        refine det_congr fun i j hi hj => ?_
        rw [if_pos ⟨by omega, by omega⟩]
        unfold dstp
        rw [if_pos (by omega), stp_eq (by omega), show a + 1 + i = a + (i + 1) by omega, show a + 1 + j = a + (j + 1) by omega]
        grind
      rw [h5]
      grind
theorem detG_inv {n : Nat} : ∀ (r a : Nat) (f g : Fm) (acc : Rat), a + r = n → acc ≠ 0 → (∀ k j, a ≤ k → k < n → j < n → g k j = f k j) → (detG n r a g acc = 0 ↔ invG n r a f = none)
  | 0, a, f, g, acc, h, h0, _ => by
    unfold detG invG
    exact ⟨fun z => absurd z h0, fun z => (by cases z)⟩
  | r + 1, a, f, g, acc, h, h0, hfg => by
    unfold detG invG
    rw [piv_congr (f := g) (g := f) fun k h1 h2 => hfg k a h1 h2 (by omega)]
    cases e : piv n f a a with
    | none => exact ⟨fun _ => rfl, fun _ => rfl⟩
    | some pl =>
      obtain ⟨p1, p2, p3⟩ := piv_some e
      have hsw : ∀ k j, a ≤ k → k < n → j < n → sw g a pl k j = sw f a pl k j := fun k j h1 h2 hj => by
        unfold sw
        by_cases e1 : k = a
        · simp only [if_pos e1]; exact hfg pl j p1 p2 hj
        · by_cases e2 : k = pl
          · simp only [if_neg e1, if_pos e2]; exact hfg a j (Nat.le_refl _) (by omega) hj
          · simp only [if_neg e1, if_neg e2]; exact hfg k j h1 h2 hj
      refine detG_inv r (a + 1) _ _ _ (by omega) ?_ fun k j h1 h2 hj => ?_
      · have : sw g a pl a a ≠ 0 := by
          rw [hsw a a (Nat.le_refl _) (by omega) (by omega)]
          unfold sw; rw [if_pos rfl]; exact p3
        split
        · intro z; grind
        · intro z; grind
      · unfold dstp
        rw [if_pos (by omega), stp_eq (by omega), stp_eq (by omega), hsw k j (by omega) h2 hj, hsw k a (by omega) h2 (by omega), hsw a j (Nat.le_refl _) (by omega) hj, hsw a a (Nat.le_refl _) (by omega) (by omega)]
theorem RB.dstp {g : Fm} {n q c a pl : Nat} (h : RB g n q c) (ha : a < n) (hp : pl < n) (hq : a < q) (h0 : g pl a ≠ 0) : RB (dstp g a pl) n q (2 * c + 1) := fun k hk => by
  by_cases e : a < k
  · have := h.stp ha hp hq h0 k hk
    unfold UZ.dstp; simp only [if_pos e]; exact this
  · have := (h.sw ha hp).mono (by omega : c ≤ 2 * c + 1) k hk
    unfold UZ.dstp; simp only [if_neg e]; exact this
/-! ### the inverse is the inverse -/
theorem inv_all {n : Nat} {P : (Nat → Rat) → Prop} (hl : ∀ r s c, P r → P s → P fun j => r j + c * s j) (hz : P fun _ => 0) : ∀ (r a : Nat) (f g : Fm), a + r = n → (∀ k, k < n → P (f k)) → invG n r a f = some g → ∀ k, k < n → P (g k)
  | 0, a, f, g, h, hf, e => by
    unfold invG at e
    injection e with e; subst e; exact hf
  | r + 1, a, f, g, h, hf, e => by
    unfold invG at e
    cases ep : piv n f a a with
    | none => rw [ep] at e; cases e
    | some pl =>
      rw [ep] at e
      obtain ⟨p1, p2, p3⟩ := piv_some ep
      exact inv_all hl hz r (a + 1) _ g (by omega) (stp_all hl hz (by omega) p2 hf) e
theorem inv_spn {n : Nat} : ∀ (r a : Nat) (f g : Fm), a + r = n → invG n r a f = some g → ∀ k, k < n → Spn n g (f k)
  | 0, a, f, g, h, e => by
    unfold invG at e
    injection e with e; subst e; exact fun k hk => .row hk
  | r + 1, a, f, g, h, e => by
    unfold invG at e
    cases ep : piv n f a a with
    | none => rw [ep] at e; cases e
    | some pl =>
      rw [ep] at e
      obtain ⟨p1, p2, p3⟩ := piv_some ep
      have ih := inv_spn r (a + 1) _ g (by omega) e
      exact fun k hk => Spn.sub ih (spn_stp (by omega) p2 p3 k hk)
/-- the first columns become those of the unit matrix -/
theorem inv_unit {n : Nat} : ∀ (r a : Nat) (f g : Fm), a + r = n → (∀ k j, k < n → j < a → f k j = if k = j then 1 else 0) → invG n r a f = some g → ∀ k j, k < n → j < n → g k j = if k = j then 1 else 0
  | 0, a, f, g, h, hf, e => by
    unfold invG at e
    injection e with e; subst e
    exact fun k j hk hj => hf k j hk (by omega)
  | r + 1, a, f, g, h, hf, e => by
    unfold invG at e
    cases ep : piv n f a a with
    | none => rw [ep] at e; cases e
    | some pl =>
      rw [ep] at e
      obtain ⟨p1, p2, p3⟩ := piv_some ep
      refine inv_unit r (a + 1) _ g (by omega) (fun k j hk hj => ?_) e
      have hsw : ∀ k j, k < n → j < a → sw f a pl k j = if k = j then 1 else 0 := fun k j hk hj => by
        unfold sw
        by_cases e1 : k = a
        · rw [if_pos e1, hf pl j p2 hj, if_neg (by omega), if_neg (by omega)]
        · rw [if_neg e1]
          by_cases e2 : k = pl
          · rw [if_pos e2, hf a j (by omega) hj, if_neg (by omega), if_neg (by omega)]
          · rw [if_neg e2, hf k j hk hj]
      have g0 : sw f a pl a a ≠ 0 := by unfold sw; rw [if_pos rfl]; exact p3
      by_cases ek : k = a
      · subst ek
        unfold stp gj nrm
        rw [if_pos rfl, if_pos rfl]
        by_cases ej : j = k
        · subst ej
          rw [if_pos rfl]; grind
        · rw [hsw k j hk (by omega), if_neg (by omega)]; grind
      · rw [stp_eq ek]
        by_cases ej : j = a
        · subst ej
          rw [if_neg ek]; grind
        · rw [hsw k j hk (by omega), hsw a j (by omega) (by omega), if_neg (by omega : ¬ (a = j))]; grind
def augP (n : Nat) (A : Fm) : Fm := fun k j => if j < n then A k j else if k + n = j then 1 else 0
theorem sumN_unitL {n k : Nat} {F : Nat → Rat} (h : k < n) : sumN n (fun i => (if k = i then 1 else 0) * F i) = F k := by
  rw [sumN_one (a := k) h fun i _ hi => by rw [if_neg (Ne.symm hi)]; grind]
  rw [if_pos rfl]; grind
theorem sumN_unitR {n k : Nat} {F : Nat → Rat} (h : k < n) : sumN n (fun i => F i * (if i = k then 1 else 0)) = F k := by
  rw [sumN_one (a := k) h fun i _ hi => by rw [if_neg hi]; grind]
  rw [if_pos rfl]; grind
theorem inv_left {n : Nat} {A g : Fm} (e : invG n n 0 (augP n A) = some g) : ∀ k j, k < n → j < n → sumN n (fun i => g k (n + i) * A i j) = if k = j then 1 else 0 := fun k j hk hj => by
  have h := inv_all (n := n) (P := fun r => ∀ j, j < n → r j = sumN n fun i => r (n + i) * A i j) (fun r s c hr hs j hj => by
    show r j + c * s j = sumN n fun i => (r (n + i) + c * s (n + i)) * A i j
    rw [hr j hj, hs j hj, ← sumN_mul, ← sumN_add]
    exact sumN_congr fun i _ => by grind) (fun j _ => (sumN_zero fun i _ => by grind).symm) n 0 (augP n A) g (by omega) (fun k hk j hj => by
    have e1 : ∀ i, i < n → augP n A k (n + i) * A i j = (if k = i then 1 else 0) * A i j := fun i hi => by
      unfold augP
      rw [if_neg (by omega)]
      by_cases z : k = i
      · rw [if_pos z, if_pos (by omega)]
      · rw [if_neg z, if_neg (by omega)]
    rw [sumN_congr e1, sumN_unitL hk]
    unfold augP; rw [if_pos hj]) e k hk j hj
  rw [← h]
  exact inv_unit n 0 (augP n A) g (by omega) (fun _ _ _ h => by omega) e k j hk hj
theorem inv_right {n : Nat} {A g : Fm} (e : invG n n 0 (augP n A) = some g) : ∀ k j, k < n → j < n → sumN n (fun i => A k i * g i (n + j)) = if k = j then 1 else 0 := fun k j hk hj => by
  obtain ⟨co, hco⟩ := (inv_spn n 0 (augP n A) g (by omega) e k hk).co
  have hu := inv_unit n 0 (augP n A) g (by omega) (fun _ _ _ h => by omega) e
  have h1 : ∀ i, i < n → co i = A k i := fun i hi => by
    have := hco i
    rw [sumN_congr (g := fun m => co m * (if m = i then 1 else 0)) fun m hm => by rw [hu m i hm hi], sumN_unitR hi] at this
    unfold augP at this
    rw [if_pos hi] at this
    exact this.symm
  have h2 := hco (n + j)
  unfold augP at h2
  rw [if_neg (by omega)] at h2
  rw [sumN_congr (g := fun i => co i * g i (n + j)) fun i hi => by rw [h1 i hi], ← h2]
  by_cases z : k = j
  · rw [if_pos z, if_pos (by omega)]
  · rw [if_neg z, if_neg (by omega)]
end UZ
/-! elimination of matrices: what the defs answer. -/
namespace UZ
open PySem PySem.W L2
@[simp] def N_pivot_of : List Str := ["rows", "at", "place"]
noncomputable def b_pivot_of_1 : VS :=
  (vWipe [2] (vIf (vTst (vOp uNe (vOp uIx (vOp uIx (vOp uIx (vV 0) (vV 2)) (vV 1)) (vC (.int 0))) (vC (.int 0)))) (vRet (vV 2)) vNext))
noncomputable def t_pivot_of : VS :=
  (vSeq (vWipe [2] (vFor (iR2 (vV 1) (vCB uLen (vCons (vV 0) vNil))) (hNm 2) b_pivot_of_1))
    (vRet (vC .none)))
noncomputable def sem_pivot_of : FV := fnV N_pivot_of t_pivot_of
@[simp] def N_beside_at_o : List Str := ["one", "two", "left", "right"]
noncomputable def t_beside_at_o : VS :=
  (vRet (vLcO (iZp (vV 0) (vV 1)) (.many [2, 3]) vYes (vOp uAdd (vV 2) (vV 3)) [2, 3]))
noncomputable def sem_beside_at_o : FV := fnK N_beside_at_o t_beside_at_o
@[simp] def N_less : List Str := ["row", "factor", "other", "entry", "new"]
noncomputable def t_less : VS :=
  (vRet (vLc (iZp (vV 0) (vV 2)) (.many [3, 4]) vYes (vIfE (vTst (vOp uNe (vOp uIx (vV 4) (vC (.int 0))) (vC (.int 0)))) (vCall 2 sem_minus (vCons (vV 3) (vCons (vCall 2 sem_times (vCons (vV 1) (vCons (vV 4) vNil))) vNil))) (vV 3)) [3, 4]))
noncomputable def sem_less : FV := fnV N_less t_less
@[simp] def N_inverse_of : List Str := ["one", "size", "rows", "at", "place", "other", "row", "entry"]
noncomputable def b_inverse_of_1 : VS :=
  (vWipe [5] (vIf (vAndT (vTst (vOp uNe (vV 5) (vV 3))) (vTst (vOp uNe (vOp uIx (vOp uIx (vOp uIx (vV 2) (vV 5)) (vV 3)) (vC (.int 0))) (vC (.int 0))))) (vAsg (vCall 3 sem_less (vCons (vOp uIx (vV 2) (vV 5)) (vCons (vOp uIx (vOp uIx (vV 2) (vV 5)) (vV 3)) (vCons (vOp uIx (vV 2) (vV 3)) vNil)))) (hSub kSet (vV 2) (vV 5))) vNext))
noncomputable def b_inverse_of_2 : VS :=
  (vWipe [3, 4, 5] (vSeq (vSet 4 (vCall 2 sem_pivot_of (vCons (vV 2) (vCons (vV 3) vNil))))
    (vSeq (vIf (vTst (vOp uIs (vV 4) (vC .none))) (vRaise0 "NoInverse") vNext)
    (vSeq (vAsg (vTup (vCons (vOp uIx (vV 2) (vV 4)) (vCons (vOp uIx (vV 2) (vV 3)) vNil))) (hTpN 2 (hCs (hSub kSet (vV 2) (vV 3)) (hCs (hSub kSet (vV 2) (vV 4)) hEnd))))
    (vSeq (vAsg (vLc (iSq (vOp uIx (vV 2) (vV 3))) (.one 7) vYes (vIfE (vTst (vOp uNe (vOp uIx (vV 7) (vC (.int 0))) (vC (.int 0)))) (vCall 2 sem_over (vCons (vV 7) (vCons (vOp uIx (vOp uIx (vV 2) (vV 3)) (vV 3)) vNil))) (vV 7)) [7]) (hSub kSet (vV 2) (vV 3)))
    (vWipe [5] (vFor (iR1 (vV 1)) (hNm 5) b_inverse_of_1)))))))
noncomputable def t_inverse_of : VS :=
  (vSeq (vSet 1 (vCB uLen (vCons (vV 0) vNil)))
    (vSeq (vSet 2 (vCall 2 sem_beside_at_o (vCons (vV 0) (vCons (vCall 1 sem_unit (vCons (vV 1) vNil)) vNil))))
    (vSeq (vWipe [3, 4, 5] (vFor (iR1 (vV 1)) (hNm 3) b_inverse_of_2))
    (vRet (vLc (iSq (vV 2)) (.one 6) vYes (vSl uSl (vV 6) (vPart (vV 1)) vNoP) [6])))))
noncomputable def sem_inverse_of : FV := fnV N_inverse_of t_inverse_of
@[simp] def N_determinant : List Str := ["one", "rows", "found", "at", "place", "other", "row"]
noncomputable def b_determinant_1 : VS :=
  (vWipe [5] (vIf (vTst (vOp uNe (vOp uIx (vOp uIx (vOp uIx (vV 1) (vV 5)) (vV 3)) (vC (.int 0))) (vC (.int 0)))) (vAsg (vCall 3 sem_less (vCons (vOp uIx (vV 1) (vV 5)) (vCons (vCall 2 sem_over (vCons (vOp uIx (vOp uIx (vV 1) (vV 5)) (vV 3)) (vCons (vOp uIx (vOp uIx (vV 1) (vV 3)) (vV 3)) vNil))) (vCons (vOp uIx (vV 1) (vV 3)) vNil)))) (hSub kSet (vV 1) (vV 5))) vNext))
noncomputable def b_determinant_2 : VS :=
  (vWipe [3, 4, 5] (vSeq (vSet 4 (vCall 2 sem_pivot_of (vCons (vV 1) (vCons (vV 3) vNil))))
    (vSeq (vIf (vTst (vOp uIs (vV 4) (vC .none))) (vRet (vTup (vCons (vC (.int 0)) (vCons (vC (.int 1)) vNil)))) vNext)
    (vSeq (vIf (vTst (vOp uNe (vV 4) (vV 3))) (vSeq (vAsg (vTup (vCons (vOp uIx (vV 1) (vV 4)) (vCons (vOp uIx (vV 1) (vV 3)) vNil))) (hTpN 2 (hCs (hSub kSet (vV 1) (vV 3)) (hCs (hSub kSet (vV 1) (vV 4)) hEnd))))
    (vSet 2 (vCall 2 sem_times (vCons (vTup (vCons (vUn uNeg (vC (.int 1))) (vCons (vC (.int 1)) vNil))) (vCons (vV 2) vNil))))) vNext)
    (vSeq (vSet 2 (vCall 2 sem_times (vCons (vV 2) (vCons (vOp uIx (vOp uIx (vV 1) (vV 3)) (vV 3)) vNil))))
    (vWipe [5] (vFor (iR2 (vOp uAdd (vV 3) (vC (.int 1))) (vCB uLen (vCons (vV 1) vNil))) (hNm 5) b_determinant_1)))))))
noncomputable def t_determinant : VS :=
  (vSeq (vSet 1 (vLcO (iSq (vV 0)) (.one 6) vYes (vCB uList (vCons (vV 6) vNil)) [6]))
    (vSeq (vSet 2 (vTup (vCons (vC (.int 1)) (vCons (vC (.int 1)) vNil))))
    (vSeq (vWipe [3, 4, 5] (vFor (iR1 (vCB uLen (vCons (vV 1) vNil))) (hNm 3) b_determinant_2))
    (vRet (vV 2)))))
noncomputable def sem_determinant : FV := fnV N_determinant t_determinant
@[simp] def N_law_less : List Str := ["row", "factor", "other", "k"]
noncomputable def t_law_less : VS :=
  (vRet (vLc (iR1 (vCB uLen (vCons (vV 0) vNil))) (.one 3) vYes (vCall 2 sem_law_sub (vCons (vOp uIx (vV 0) (vV 3)) (vCons (vCall 2 sem_law_mul (vCons (vV 1) (vCons (vOp uIx (vV 2) (vV 3)) vNil))) vNil))) [3]))
noncomputable def sem_law_less : FV := fnV N_law_less t_law_less
@[simp] def N_law_steps : List Str := ["rows", "done", "places", "column", "found", "row", "part", "k", "entry"]
noncomputable def b_law_steps_1 : VS :=
  (vWipe [7] (vIf (vAndT (vTst (vOp uNe (vV 7) (vV 1))) (vTst (vOp uNe (vOp uIx (vOp uIx (vOp uIx (vV 0) (vV 7)) (vV 3)) (vC (.int 0))) (vC (.int 0))))) (vAsg (vCall 3 sem_law_less (vCons (vOp uIx (vV 0) (vV 7)) (vCons (vOp uIx (vOp uIx (vV 0) (vV 7)) (vV 3)) (vCons (vOp uIx (vV 0) (vV 1)) vNil)))) (hSub kSet (vV 0) (vV 7))) vNext))
noncomputable def b_law_steps_2 : VS :=
  (vWipe [3, 4, 5, 6, 7] (vSeq (vSet 4 (vLc (iR2 (vV 1) (vCB uLen (vCons (vV 0) vNil))) (.one 7) (vTst (vOp uNe (vOp uIx (vOp uIx (vOp uIx (vV 0) (vV 7)) (vV 3)) (vC (.int 0))) (vC (.int 0)))) (vV 7) [7]))
    (vWipe [5, 6, 7] (vIf (vTst (vOp uNe (vV 4) (vLst vNil))) (vSeq (vSet 5 (vOp uIx (vV 0) (vOp uIx (vV 4) (vC (.int 0)))))
    (vSeq (vAsg (vOp uIx (vV 0) (vV 1)) (hSub kSet (vV 0) (vOp uIx (vV 4) (vC (.int 0)))))
    (vSeq (vSet 6 (vCall 2 sem_law_ratio (vCons (vOp uIx (vOp uIx (vV 5) (vV 3)) (vC (.int 1))) (vCons (vOp uIx (vOp uIx (vV 5) (vV 3)) (vC (.int 0))) vNil))))
    (vSeq (vAsg (vLc (iSq (vV 5)) (.one 8) vYes (vCall 2 sem_law_mul (vCons (vV 6) (vCons (vV 8) vNil))) [8]) (hSub kSet (vV 0) (vV 1)))
    (vSeq (vWipe [7] (vFor (iR1 (vCB uLen (vCons (vV 0) vNil))) (hNm 7) b_law_steps_1))
    (vSeq (vDrop (vMt uAppend (vV 2) (vCons (vV 3) vNil)))
    (vSet 1 (vOp uAdd (vV 1) (vC (.int 1)))))))))) vNext))))
noncomputable def t_law_steps : VS :=
  (vSeq (vSet 0 (vLcO (iSq (vV 0)) (.one 5) vYes (vCB uList (vCons (vV 5) vNil)) [5]))
    (vSeq (vSet 1 (vC (.int 0)))
    (vSeq (vSet 2 (vLstO vNil))
    (vSeq (vWipe [3, 4, 5, 6, 7] (vFor (iR1 (vIfE (vTst (vOp uNe (vV 0) (vLst vNil))) (vCB uLen (vCons (vOp uIx (vV 0) (vC (.int 0))) vNil)) (vC (.int 0)))) (hNm 3) b_law_steps_2))
    (vRet (vLst (vCons (vSl uSl (vV 0) vNoP (vPart (vV 1))) (vCons (vV 2) vNil))))))))
noncomputable def sem_law_steps : FV := fnV N_law_steps t_law_steps
@[simp] def N_law_minv : List Str := ["one", "size", "both", "rows", "places", "k", "row"]
noncomputable def t_law_minv : VS :=
  (vSeq (vSet 1 (vCB uLen (vCons (vV 0) vNil)))
    (vSeq (vSet 2 (vLc (iR1 (vV 1)) (.one 5) vYes (vOp uAdd (vOp uIx (vV 0) (vV 5)) (vOp uIx (vCall 1 sem_law_unit (vCons (vV 1) vNil)) (vV 5))) [5]))
    (vSeq (vAsg (vCall 1 sem_law_steps (vCons (vV 2) vNil)) (hTpL 2 (hCs (hNm 3) (hCs (hNm 4) hEnd))))
    (vSeq (vIf (vTst (vOp uNe (vSl uSl (vV 4) vNoP (vPart (vV 1))) (vListR (vV 1)))) (vRet (vC .none)) vNext)
    (vRet (vLc (iSq (vV 3)) (.one 6) vYes (vSl uSl (vV 6) (vPart (vV 1)) vNoP) [6]))))))
noncomputable def sem_law_minv : FV := fnV N_law_minv t_law_minv
@[simp] def N_law_det : List Str := ["rows", "found", "k", "inner", "part", "row"]
noncomputable def b_law_det_1 (r : FV) : VS :=
  (vWipe [2, 3, 4] (vSeq (vSet 3 (vLc (iSq (vSl uSl (vV 0) (vPart (vC (.int 1))) vNoP)) (.one 5) vYes (vOp uAdd (vSl uSl (vV 5) vNoP (vPart (vV 2))) (vSl uSl (vV 5) (vPart (vOp uAdd (vV 2) (vC (.int 1)))) vNoP)) [5]))
    (vSeq (vSet 4 (vIfE (vTst (vOp uNe (vOp uIx (vOp uIx (vOp uIx (vV 0) (vC (.int 0))) (vV 2)) (vC (.int 0))) (vC (.int 0)))) (vCall 2 sem_law_mul (vCons (vOp uIx (vOp uIx (vV 0) (vC (.int 0))) (vV 2)) (vCons (vCall 1 r (vCons (vV 3) vNil)) vNil))) (vTup (vCons (vC (.int 0)) (vCons (vC (.int 1)) vNil)))))
    (vSet 1 (vIfE (vTst (vOp uEq (vOp uMod (vCB uIntF (vCons (vV 2) vNil)) (vC (.int 2))) (vC (.int 1)))) (vCall 2 sem_law_sub (vCons (vV 1) (vCons (vV 4) vNil))) (vCall 2 sem_law_add (vCons (vV 1) (vCons (vV 4) vNil))))))))
noncomputable def t_law_det (r : FV) : VS :=
  (vSeq (vIf (vTst (vOp uEq (vV 0) (vLst vNil))) (vRet (vTup (vCons (vC (.int 1)) (vCons (vC (.int 1)) vNil)))) vNext)
    (vSeq (vSet 1 (vTup (vCons (vC (.int 0)) (vCons (vC (.int 1)) vNil))))
    (vSeq (vWipe [2, 3, 4] (vFor (iR1 (vCB uLen (vCons (vV 0) vNil))) (hNm 2) (b_law_det_1 r)))
    (vRet (vV 1)))))
noncomputable def sem_law_det : Nat → FV
  | 0 => fun _ _ => .bad
  | n + 1 => fnV N_law_det (t_law_det (sem_law_det n))
@[simp] def N_law_told : List Str := ["rows"]
noncomputable def t_law_told : VS :=
  (vTry [("NoInverse", true)] (vRet (vCall 1 sem_inverse_of (vCons (vV 0) vNil))) (vRet (vC .none)))
noncomputable def sem_law_told : FV := fnV N_law_told t_law_told

/-! ### an own list of rows -/
abbrev rowf (q : Nat) (f : Nat → Rat) : List Rat := (List.range q).map f
def rws (p q : Nat) (f : Fm) : List W := (List.range p).map fun i => W.d (dRow (rowf q (f i)))
/-- the objects O, a list of rows, and more -/
def eO (O : List Ob) (p q : Nat) (f : Fm) (X : List Ob) : List Ob := O ++ .lst (rws p q f) :: X
section
variable {O X : List Ob} {p q i j n c : Nat} {f : Fm}
theorem rws_len : (rws p q f).length = p := by unfold rws; rw [List.length_map, List.length_range]
theorem rws_get (h : i < p) : (rws p q f)[i]? = some (.d (dRow (rowf q (f i)))) := by
  unfold rws; rw [List.getElem?_map, List.getElem?_range h]; rfl
theorem rws_congr {g : Fm} (h : ∀ i j, i < p → j < q → f i j = g i j) : rws p q f = rws p q g := by
  unfold rws
  apply List.map_congr_left
  intro i hi
  rw [List.mem_range] at hi
  rw [show rowf q (f i) = rowf q (g i) from List.map_congr_left fun j hj => h i j hi (List.mem_range.mp hj)]
theorem rws_set (h : i < p) (g : Nat → Rat) : (rws p q f).set i (.d (dRow (rowf q g))) = rws p q (upd f i g) := by
  apply List.ext_getElem?
  intro k
  by_cases hk : k < p
  · rw [rws_get hk]
    by_cases e : k = i
    · subst e
      rw [List.getElem?_set_self (by rw [rws_len]; exact h)]
      simp [UZ.upd]
    · rw [List.getElem?_set_ne (Ne.symm e), rws_get hk]
      simp [UZ.upd, e]
  · rw [List.getElem?_eq_none (by rw [List.length_set, rws_len]; omega), List.getElem?_eq_none (by rw [rws_len]; omega)]
theorem eO_at : (eO O p q f X)[O.length]? = some (.lst (rws p q f)) := by
  unfold eO; rw [List.getElem?_append_right (Nat.le_refl _), Nat.sub_self]; rfl
theorem eO_congr {g : Fm} (h : ∀ i j, i < p → j < q → f i j = g i j) : eO O p q f X = eO O p q g X := by
  unfold eO; rw [rws_congr h]
theorem ix_E (h : i < p) : uIx (.o O.length) (.d (.int (i : Int))) (eO O p q f X) = some (.d (dRow (rowf q (f i))), eO O p q f X) := uIx_o eO_at (rws_get h)
theorem ix_row {P : List Ob} {g : Nat → Rat} (h : j < q) : uIx (.d (dRow (rowf q g))) (.d (.int (j : Int))) P = some (wR (g j), P) := by
  rw [uIx_R (by rw [List.length_map, List.length_range]; exact h)]
  rw [List.getElem?_map, List.getElem?_range h]; rfl
theorem set_E (h : i < p) (g : Nat → Rat) : kSet (.o O.length) (.d (.int (i : Int))) (.d (dRow (rowf q g))) (eO O p q f X) = some (eO O p q (upd f i g) X) := by
  unfold kSet
  dsimp only
  rw [eO_at]
  dsimp only
  have e : ixN (rws p q f).length (i : Int) = some i := by
    unfold ixN
    rw [rws_len, if_pos (Int.natCast_nonneg i), if_pos (by omega)]; rfl
  rw [e]
  show some ((eO O p q f X).set O.length (Ob.lst ((rws p q f).set i (W.d (dRow (rowf q g)))))) = some _
  rw [rws_set h]
  unfold eO
  rw [List.set_append_right _ _ (Nat.le_refl _), Nat.sub_self]; rfl
theorem len_E : uLen [.o O.length] (eO O p q f X) = some (.d (.int (p : Int)), eO O p q f X) := by
  rw [uLen_o eO_at, rws_len]
theorem sz_of_RB (h : RB f p q c) (h1 : i < p) (h2 : j < q) : sz (f i j) c := by
  obtain ⟨D, N, h0, hl, hN⟩ := h i h1
  obtain ⟨h3, h4⟩ := hN j h2
  have e : f i j = Rat.divInt (N j) D := by
    rw [Rat.divInt_eq_div, ← h4]
    have := ratI_ne h0
    grind
  rw [e]
  exact sz_divInt h3 hl h0
/-- a row less the multiple of another one -/
theorem r_less {g h : Nat → Rat} {k : Rat} {a b d : Nat} (hg : ∀ j, j < q → sz (g j) a) (hk : sz k b) (hh : ∀ j, j < q → sz (h j) d) (hl : a + (b + d) ≤ 9000) (lq : q ≤ 1000000) :
    sem_less [.d (dRow (rowf q g)), wR k, .d (dRow (rowf q h))] O = .ok (.d (dRow (rowf q fun j => g j - k * h j))) O := by
  have lp : vLc (iZp (vV 0) (vV 2)) (.many [3, 4]) vYes (vIfE (vTst (vOp uNe (vOp uIx (vV 4) (vC (.int 0))) (vC (.int 0)))) (vCall 2 sem_minus (vCons (vV 3) (vCons (vCall 2 sem_times (vCons (vV 1) (vCons (vV 4) vNil))) vNil))) (vV 3)) [3, 4] [some (.d (dRow (rowf q g))), some (wR k), some (.d (dRow (rowf q h))), none, none] O
      = .ok (.d (.list ((List.range q).map fun j => dR (g j - k * h j)))) O :=
    lc_map (List.range q) (fun j => .d (.tuple [dR (g j), dR (h j)])) _ (O1 := O) (chk := []) (by
      have e := zipW_map (fun j => W.d (dR (g j))) (fun j => W.d (dR (h j))) (List.range q) (List.range q)
      have z : (List.range q).zip (List.range q) = (List.range q).map fun j => (j, j) := by
        have := List.zip_map' (f := fun j : Nat => j) (g := fun j : Nat => j) (l := List.range q)
        simpa using this
      rw [z] at e
      simp [List.map_map, Function.comp_def, e]) (chkOf_nil.mpr trivial) (by rw [List.length_range]; omega) fun j hj => by
      rw [List.mem_range] at hj
      have t1 := r_times (O := O) hk (hh j hj) (by omega)
      have t2 := r_minus (O := O) (hg j hj) (sz_mul hk (hh j hj)) (by omega)
      by_cases hz : h j = 0
      · have e3 : g j - k * h j = g j := by rw [hz]; grind
        rw [e3]
        simp [num0.mpr hz]
      · have e2 : ¬ (h j).num = 0 := fun z => hz (num0.mp z)
        simp [e2, t1, t2]
  unfold sem_less t_less
  simp [lp, List.map_map, Function.comp_def]
theorem r_law_less {g h : Nat → Rat} {k : Rat} {a b d : Nat} (hg : ∀ j, j < q → sz (g j) a) (hk : sz k b) (hh : ∀ j, j < q → sz (h j) d) (hl : a + (b + d) ≤ 9000) (lq : q ≤ 1000000) :
    sem_law_less [.d (dRow (rowf q g)), wR k, .d (dRow (rowf q h))] O = .ok (.d (dRow (rowf q fun j => g j - k * h j))) O := by
  have lp : vLc (iR1 (vCB uLen (vCons (vV 0) vNil))) (.one 3) vYes (vCall 2 sem_law_sub (vCons (vOp uIx (vV 0) (vV 3)) (vCons (vCall 2 sem_law_mul (vCons (vV 1) (vCons (vOp uIx (vV 2) (vV 3)) vNil))) vNil))) [3] [some (.d (dRow (rowf q g))), some (wR k), some (.d (dRow (rowf q h))), none] O
      = .ok (.d (.list ((List.range q).map fun j => dR (g j - k * h j)))) O :=
    lc_map (List.range q) (fun j : Nat => .d (.int (0 + (j : Int)))) _ (O1 := O) (chk := []) (by simp [smI_nat (show q ≤ 1000000000 by omega), rng_map]) (chkOf_nil.mpr trivial) (by rw [List.length_range]; omega) fun j hj => by
      rw [List.mem_range] at hj
      have t1 := r_law_mul (O := O) hk (hh j hj) (by omega)
      have t2 := r_law_sub (O := O) (hg j hj) (sz_mul hk (hh j hj)) (by omega)
      have i1 := ix_row (P := O) (g := g) hj
      have i2 := ix_row (P := O) (g := h) hj
      generalize W.d (dRow (rowf q g)) = A at *
      generalize W.d (dRow (rowf q h)) = B at *
      simp [i1, i2, t1, t2]
  unfold sem_law_less t_law_less
  simp [lp, List.map_map, Function.comp_def]
end
/-! ### loops and comprehensions -/
theorem forV_find {α : Type} {g : VG} {b : VS} {chk : Chk} {Γ : Gm} {O : List Ob} (f : α → W) (p : α → Bool) (r : α → SR) (hr : ∀ x (v : VS), (r x).turn v = r x) (hc : chkOf chk O) : ∀ (l : List α), (∀ x ∈ l, stepV g b (f x) Γ O = if p x then r x else .nx Γ O) →
    forV g b chk (l.map f) Γ O = match l.find? p with | some x => r x | none => .nx Γ O
  | [], _ => forV_nil hc
  | x :: l, h => by
    rw [List.map_cons, forV_step hc, h x (List.mem_cons_self ..), List.find?_cons]
    cases p x
    · exact forV_find f p r hr hc l fun y hy => h y (List.mem_cons_of_mem _ hy)
    · exact hr x _
theorem lcO_map {α : Type} {it : VI} {g : Tg} {tt : VT} {te : VE} {us : List Nat} {Γ : Gm} {O O1 : List Ob} {chk : Chk} (l : List α) (f h : α → W) (hi : it Γ O = .ok (l.map f, chk) O1) (hc : chkOf chk O1) (hl : l.length ≤ 16777216)
    (e : ∀ x ∈ l, lcF g tt te (wipeD Γ us) (f x) O1 = .ok (some (h x)) O1) : vLcO it g tt te us Γ O = .ok (.o O1.length) (O1 ++ [.lst (l.map h)]) := by
  show vLcM mkO it g tt te us Γ O = _
  rw [e_LcM, hi, R.bind_ok]
  dsimp only
  rw [lcV_map f h hc l e]
  show (if (l.map h).length ≤ sizeLine then R.ok _ _ else .bad) = _
  rw [if_pos (by rw [List.length_map, sizeLine_val]; exact hl)]
  rfl
theorem seq_nx {u v : VS} {Γ Γ1 : Gm} {O O1 : List Ob} (h : u Γ O = .nx Γ1 O1) : vSeq u v Γ O = v Γ1 O1 := by
  rw [e_Seq, h]; rfl
theorem seq_ex {u v : VS} {Γ Γ1 : Gm} {O O1 : List Ob} {x : Xc} (h : u Γ O = .ex x Γ1 O1) : vSeq u v Γ O = .ex x Γ1 O1 := by
  rw [e_Seq, h]; rfl
theorem seq_rt {u v : VS} {Γ : Gm} {O O1 : List Ob} {w : W} (h : u Γ O = .rt w O1) : vSeq u v Γ O = .rt w O1 := by
  rw [e_Seq, h]; rfl
theorem rng_nat {a n : Nat} : rng (a : Int) n = ((List.range n).map (a + ·)).map fun k : Nat => W.d (.int (k : Int)) := by
  rw [rng_map, List.map_map]
  apply List.map_congr_left
  intro i _
  show W.d (.int _) = W.d (.int _)
  rw [Int.natCast_add]
theorem rng_0 {n : Nat} : rng 0 n = (List.range n).map fun k : Nat => W.d (.int (k : Int)) := by
  rw [rng_map]
  apply List.map_congr_left
  intro i _
  rw [Int.zero_add]
/-! ### the pivot -/
def optW : Option Nat → W
  | some k => .d (.int (k : Int))
  | none => .d .none
section
variable {O X : List Ob} {p q i j n c : Nat} {f : Fm}
theorem r_pivot_of {a : Nat} (hq : a < q) (hp : p ≤ 1000000) (ha : a ≤ 1000000) : sem_pivot_of [.o O.length, .d (.int (a : Int))] (eO O p q f X) = .ok (optW (piv p f a a)) (eO O p q f X) := by
  have step : ∀ k : Nat, k < p → stepV (hNm 2) b_pivot_of_1 (.d (.int (k : Int))) [some (.o O.length), some (.d (.int (a : Int))), none] (eO O p q f X) = if decide (f k a ≠ 0) then .rt (.d (.int (k : Int))) (eO O p q f X) else .nx [some (.o O.length), some (.d (.int (a : Int))), none] (eO O p q f X) := fun k hk => by
    have e1 := ix_E (O := O) (q := q) (f := f) (X := X) hk
    have e2 := ix_row (P := eO O p q f X) (g := f k) hq
    generalize eO O p q f X = P at *
    generalize W.d (dRow (rowf q (f k))) = A at *
    by_cases z : f k a = 0
    · simp [stepV, b_pivot_of_1, e1, e2, z]
    · have z2 : ¬ (f k a).num = 0 := fun h => z (num0.mp h)
      simp [stepV, b_pivot_of_1, e1, e2, z, z2]
  have lp := forV_find (g := hNm 2) (b := b_pivot_of_1) (chk := []) (Γ := [some (.o O.length), some (.d (.int (a : Int))), none]) (O := eO O p q f X) (fun k : Nat => W.d (.int (k : Int))) (fun k => decide (f k a ≠ 0)) (fun k => .rt (.d (.int (k : Int))) (eO O p q f X)) (fun _ _ => rfl) (chkOf_nil.mpr trivial) ((List.range (p - a)).map (a + ·)) (fun k hk => step k (by
    rw [List.mem_map] at hk
    obtain ⟨i, hi, rfl⟩ := hk
    rw [List.mem_range] at hi
    omega))
  have e3 := len_E (O := O) (p := p) (q := q) (f := f) (X := X)
  rw [← rng_nat] at lp
  rw [show List.find? (fun k => decide (f k a ≠ 0)) (List.map (fun x => a + x) (List.range (p - a))) = piv p f a a from rfl] at lp
  have e4 : ((p : Int) - (a : Int)).toNat = p - a := Int.toNat_sub p a
  have s1 : smI (a : Int) := smI_nat (by omega)
  have s2 : smI (p : Int) := smI_nat (by omega)
  unfold sem_pivot_of t_pivot_of
  generalize eO O p q f X = P at *
  cases e : piv p f a a with
  | none =>
    rw [e] at lp
    simp [e3, e4, s1, s2, lp, optW]
  | some k =>
    rw [e] at lp
    simp [e3, e4, s1, s2, lp, optW]
/-! ### rows put side by side with the unit matrix -/
def aug (n : Nat) (A : Fm) : Fm := fun k j => if j < n then A k j else if k + n = j then 1 else 0
theorem rowf_app {a b : Nat} {g h : Nat → Rat} : rowf a g ++ rowf b h = rowf (a + b) fun j => if j < a then g j else h (j - a) := by
  unfold rowf
  rw [List.range_add, List.map_append, List.map_map]
  congr 1
  · apply List.map_congr_left
    intro j hj
    rw [if_pos (List.mem_range.mp hj)]
  · apply List.map_congr_left
    intro j hj
    show _ = (if a + j < a then _ else _)
    rw [if_neg (by omega), Nat.add_sub_cancel_left]
theorem aug_row {A : Fm} {k : Nat} : rowf n (A k) ++ rowf n (fun j => if k = j then 1 else 0) = rowf (n + n) (aug n A k) := by
  rw [rowf_app]
  apply List.map_congr_left
  intro j _
  unfold aug
  split
  · rfl
  · rename_i h
    by_cases e : k = j - n
    · rw [if_pos e, if_pos (by omega)]
    · rw [if_neg e, if_neg (by omega)]
theorem uAdd_rows {g h : Nat → Rat} {a b : Nat} (ha : a ≤ 1000000) (hb : b ≤ 1000000) {P : List Ob} : uAdd (.d (dRow (rowf a g))) (.d (dRow (rowf b h))) P = some (.d (dRow (rowf a g ++ rowf b h)), P) := by
  have := uAdd_l (O := P) (xs := (rowf a g).map dR) (ys := (rowf b h).map dR) (by simp; omega)
  rw [← List.map_append] at this
  exact this
theorem r_beside_unit {A : Fm} (hn : n ≤ 1000000) : sem_beside_at_o [wM (gen n n A), wM (iM n)] O = .ok (.o O.length) (eO O n (n + n) (aug n A) []) := by
  have lp := lcO_map (O := O) (O1 := O) (it := iZp (vV 0) (vV 1)) (g := .many [2, 3]) (tt := vYes) (te := vOp uAdd (vV 2) (vV 3)) (us := [2, 3]) (Γ := [some (wM (gen n n A)), some (wM (iM n)), none, none]) (chk := []) (List.range n) (fun k => .d (.tuple [dRow (rowf n (A k)), dRow (rowf n fun j => if k = j then 1 else 0)])) (fun k => .d (dRow (rowf (n + n) (aug n A k)))) (by
      have e := zipW_map (fun k => W.d (dRow (rowf n (A k)))) (fun k => W.d (dRow (rowf n fun j => if k = j then 1 else 0))) (List.range n) (List.range n)
      have z : (List.range n).zip (List.range n) = (List.range n).map fun j => (j, j) := by
        have := List.zip_map' (f := fun j : Nat => j) (g := fun j : Nat => j) (l := List.range n)
        simpa using this
      rw [z] at e
      simp [gen, iM, List.map_map, Function.comp_def, e]) (chkOf_nil.mpr trivial) (by rw [List.length_range]; omega) fun k _ => by
      have e := uAdd_rows (P := O) (g := A k) (h := fun j => if k = j then 1 else 0) hn hn
      rw [aug_row] at e
      generalize dRow (rowf n (A k)) = a at *
      generalize dRow (rowf n fun j => if k = j then 1 else 0) = b at *
      simp [e]
  unfold sem_beside_at_o t_beside_at_o
  simp only [e_fnK, e_start, e_Ret, N_beside_at_o, List.length_cons, List.length_nil, List.map_cons, List.map_nil]
  show ((vLcO _ _ _ _ _ [some (wM (gen n n A)), some (wM (iM n)), none, none] O).toS _ _).finK O = _
  rw [lp]
  rfl
end
/-! ### the program's inverse -/
section
variable {O X : List Ob} {p q i j n c : Nat} {f : Fm}
theorem sz_le {x : Rat} {a b : Nat} (h : sz x a) (hl : a ≤ b) : sz x b := h.mono hl
/-- after t turns of the inner loop -/
def gjT (f : Fm) (d c t : Nat) : Fm := fun k j => if k < t then gj f d c k j else f k j
theorem gjT_0 {d c : Nat} : gjT f d c 0 = f := by funext k j; unfold gjT; rw [if_neg (by omega)]
theorem gjT_d {d c t : Nat} : gjT f d c t d = f d := by
  funext j; unfold gjT gj
  split <;> simp
theorem gjT_ge {d c t k : Nat} (h : t ≤ k) : gjT f d c t k = f k := by
  funext j; unfold gjT; rw [if_neg (by omega)]
theorem gjT_succ {d c t : Nat} (h : t ≠ d) : upd (gjT f d c t) t (fun j => f t j - f t c * f d j) = gjT f d c (t + 1) := by
  funext k j
  unfold UZ.upd gjT
  by_cases e : k = t
  · subst e
    rw [if_pos rfl, if_pos (by omega)]
    unfold gj
    rw [if_neg h]
  · rw [if_neg e]
    by_cases l : k < t
    · rw [if_pos l, if_pos (by omega)]
    · rw [if_neg l, if_neg (by omega)]
theorem gjT_d_succ {d c : Nat} : gjT f d c (d + 1) = gjT f d c d := by
  funext k j
  unfold gjT
  by_cases l : k < d
  · rw [if_pos l, if_pos (by omega)]
  · rw [if_neg l]
    by_cases e : k = d
    · subst e
      rw [if_pos (by omega)]; unfold gj; rw [if_pos rfl]
    · rw [if_neg (by omega)]
theorem gjT_same {d c t : Nat} (h : f t c = 0) : gjT f d c (t + 1) = gjT f d c t := by
  funext k j
  unfold gjT
  by_cases l : k < t
  · rw [if_pos l, if_pos (by omega)]
  · rw [if_neg l]
    by_cases e : k = t
    · subst e
      rw [if_pos (by omega)]; unfold gj
      split
      · rename_i e; rw [e]
      · rw [h]; grind
    · rw [if_neg (by omega)]
theorem inv_inner {a : Nat} {w : W} {w4 : Option W} (hs : ∀ k j, k < n → j < q → sz (f k j) c) (hc : 3 * c ≤ 9000) (ha : a < n) (haq : a < q) (hn : n ≤ 1000000) (hq : q ≤ 1000000) :
    forV (hNm 5) b_inverse_of_1 [] ((List.range n).map fun k : Nat => W.d (.int (k : Int))) [some w, some (.d (.int (n : Int))), some (.o O.length), some (.d (.int (a : Int))), w4, none, none, none] (eO O n q f X)
      = .nx [some w, some (.d (.int (n : Int))), some (.o O.length), some (.d (.int (a : Int))), w4, none, none, none] (eO O n q (gj f a a) X) := by
  have lp := (forV_foldI (g := hNm 5) (b := b_inverse_of_1) (chk := []) (fun k : Nat => W.d (.int (k : Int))) (fun _ : Nat => [some w, some (.d (.int (n : Int))), some (.o O.length), some (.d (.int (a : Int))), w4, none, none, none]) (fun t => eO O n q (gjT f a a t) X) (fun t _ => t + 1) (fun t s => s = t) (fun _ _ _ => chkOf_nil.mpr trivial) (List.range n) 0 0 rfl (fun i t k hx hI => by
    have hI : t = i := by omega
    subst hI
    have hi := (List.getElem?_eq_some_iff.mp hx).1
    rw [List.length_range] at hi
    rw [List.getElem?_range hi] at hx
    injection hx with hx
    subst hx
    refine ⟨by omega, .inl ?_⟩
    have e1 := ix_E (O := O) (q := q) (f := gjT f a a t) (X := X) hi
    have e2 := ix_E (O := O) (q := q) (f := gjT f a a t) (X := X) ha
    rw [gjT_ge (Nat.le_refl t)] at e1
    rw [gjT_d] at e2
    have e3 := ix_row (P := eO O n q (gjT f a a t) X) (g := f t) haq
    have e4 := r_less (O := eO O n q (gjT f a a t) X) (g := f t) (h := f a) (k := f t a) (fun j hj => hs t j hi hj) (hs t a hi haq) (fun j hj => hs a j ha hj) (by omega) hq
    have e5 := set_E (O := O) (q := q) (f := gjT f a a t) (X := X) hi (fun j => f t j - f t a * f a j)
    by_cases z0 : t = a
    · subst z0
      rw [gjT_d_succ]
      generalize eO O n q (gjT f t t t) X = P at *
      simp [stepV, b_inverse_of_1]
    · have z1 : ¬ ((t : Int) = (a : Int)) := by omega
      by_cases z2 : f t a = 0
      · rw [gjT_same z2]
        generalize eO O n q (gjT f a a t) X = P at *
        generalize W.d (dRow (rowf q (f t))) = A at *
        simp [stepV, b_inverse_of_1, z1, e1, e3, z2]
      · have z3 : ¬ (f t a).num = 0 := fun h => z2 (num0.mp h)
        rw [gjT_succ z0] at e5
        generalize eO O n q (gjT f a a t) X = P at *
        generalize W.d (dRow (rowf q (f t))) = A at *
        generalize W.d (dRow (rowf q (f a))) = B at *
        generalize W.d (dRow (rowf q fun j => f t j - f t a * f a j)) = C at *
        simp [stepV, b_inverse_of_1, z1, e1, e2, e3, z3, e4, e5])).1
  rw [gjT_0] at lp
  rw [lp]
  have : ∀ (l : List Nat) (t : Nat), l.foldl (fun t _ => t + 1) t = t + l.length := fun l => by
    induction l with
    | nil => intro t; rfl
    | cons x l ih => intro t; rw [List.foldl_cons, ih, List.length_cons]; omega
  rw [this, List.length_range, Nat.zero_add, eO_congr (f := gjT f a a n) (g := gj f a a)]
  intro k j hk _
  unfold gjT; rw [if_pos hk]
theorem upd_sw {a pl : Nat} : upd (upd f a (f pl)) pl (f a) = sw f a pl := by
  funext k
  unfold UZ.upd UZ.sw
  by_cases e : k = pl
  · subst e
    by_cases e2 : k = a
    · subst e2; simp
    · simp [e2]
  · by_cases e2 : k = a
    · subst e2; simp [e]
    · simp [e, e2]
theorem upd_nrm {a col : Nat} : upd f a (fun j => f a j / f a col) = nrm f a col := by
  funext k j
  unfold UZ.upd UZ.nrm
  split <;> rfl
/-- two rows exchanged -/
theorem swap_E {a pl : Nat} {r : Option Nat} {Γ : Gm} {v k : Nat} (ha : a < n) (hp : pl < n) (h2 : Γ[v]? = some (some (.o O.length))) (h3 : Γ[k]? = some (some (.d (.int (a : Int))))) (h4 : Γ[k + 1]? = some (some (.d (.int (pl : Int))))) :
    vAsg (vTup (vCons (vOp uIx (vV v) (vV (k + 1))) (vCons (vOp uIx (vV v) (vV k)) vNil))) (hTpN 2 (hCs (hSub kSet (vV v) (vV k)) (hCs (hSub kSet (vV v) (vV (k + 1))) hEnd))) Γ (eO O n q f X) = .nx Γ (eO O n q (sw f a pl) X) := by
  have e1 := ix_E (O := O) (q := q) (f := f) (X := X) ha
  have e2 := ix_E (O := O) (q := q) (f := f) (X := X) hp
  have e3 := set_E (O := O) (q := q) (f := f) (X := X) ha (f pl)
  have e4 := set_E (O := O) (q := q) (f := upd f a (f pl)) (X := X) hp (f a)
  rw [upd_sw] at e4
  generalize dRow (rowf q (f pl)) = A at *
  generalize dRow (rowf q (f a)) = B at *
  generalize eO O n q f X = P at *
  generalize eO O n q (upd f a (f pl)) X = P2 at *
  generalize eO O n q (sw f a pl) X = P3 at *
  simp [h2, h3, h4, e1, e2, e3, e4]
theorem inv_some {a pl : Nat} {w : W} (hs : RB f n q c) (hc : 3 * (2 * c + 1) ≤ 9000) (ha : a < n) (haq : a < q) (hn : n ≤ 1000000) (hq : q ≤ 1000000) (e : piv n f a a = some pl) :
    stepV (hNm 3) b_inverse_of_2 (.d (.int (a : Int))) [some w, some (.d (.int (n : Int))), some (.o O.length), none, none, none, none, none] (eO O n q f X)
      = .nx [some w, some (.d (.int (n : Int))), some (.o O.length), none, none, none, none, none] (eO O n q (stp f a a pl) X) := by
  obtain ⟨h1, h2, h3⟩ := piv_some e
  have ep := r_pivot_of (O := O) (p := n) (f := f) (X := X) haq hn (by omega)
  rw [e] at ep
  have hg : RB (sw f a pl) n q c := hs.sw ha h2
  have g0 : sw f a pl a a ≠ 0 := by unfold UZ.sw; rw [if_pos rfl]; exact h3
  have hg2 := hg.nrm ha haq g0
  have s1 : smI (n : Int) := smI_nat (by omega)
  have inner := inv_inner (O := O) (X := X) (w := w) (w4 := some (.d (.int (pl : Int)))) (fun k j hk hj => sz_of_RB hg2 hk hj) (by omega) ha haq hn hq
  rw [← rng_0] at inner
  show (stepV (hNm 3) (vWipe [3, 4, 5] (vSeq _ _)) _ _ _) = _
  simp only [stepV, e_hNm, e_Wipe, List.set_cons_succ, List.set_cons_zero]
  rw [seq_nx (Γ1 := [some w, some (.d (.int (n : Int))), some (.o O.length), some (.d (.int (a : Int))), some (.d (.int (pl : Int))), none, none, none]) (O1 := eO O n q f X) (by
    generalize eO O n q f X = P at *
    simp [ep, optW])]
  rw [seq_nx (Γ1 := [some w, some (.d (.int (n : Int))), some (.o O.length), some (.d (.int (a : Int))), some (.d (.int (pl : Int))), none, none, none]) (O1 := eO O n q f X) (by simp)]
  rw [seq_nx (swap_E (r := none) (v := 2) (k := 3) ha h2 rfl rfl rfl)]
  have hrow : vLc (iSq (vOp uIx (vV 2) (vV 3))) (.one 7) vYes (vIfE (vTst (vOp uNe (vOp uIx (vV 7) (vC (.int 0))) (vC (.int 0)))) (vCall 2 sem_over (vCons (vV 7) (vCons (vOp uIx (vOp uIx (vV 2) (vV 3)) (vV 3)) vNil))) (vV 7)) [7] [some w, some (.d (.int (n : Int))), some (.o O.length), some (.d (.int (a : Int))), some (.d (.int (pl : Int))), none, none, none] (eO O n q (sw f a pl) X)
      = .ok (.d (.list ((List.range q).map fun j => dR (sw f a pl a j / sw f a pl a a)))) (eO O n q (sw f a pl) X) := by
    have e1 := ix_E (O := O) (q := q) (f := sw f a pl) (X := X) ha
    have e2 := ix_row (P := eO O n q (sw f a pl) X) (g := sw f a pl a) haq
    refine lc_map (List.range q) (fun j => wR (sw f a pl a j)) _ (chk := []) (by
      generalize eO O n q (sw f a pl) X = P at *
      simp [e1, List.map_map, Function.comp_def]) (chkOf_nil.mpr trivial) (by rw [List.length_range]; omega) fun j hj => ?_
    rw [List.mem_range] at hj
    have t1 := r_over (O := eO O n q (sw f a pl) X) (sz_of_RB hg ha hj) (sz_of_RB hg ha haq) (by omega) g0
    generalize eO O n q (sw f a pl) X = P at *
    generalize W.d (dRow (rowf q (sw f a pl a))) = A at *
    by_cases z : sw f a pl a j = 0
    · have z2 : sw f a pl a j / sw f a pl a a = 0 := by rw [z]; grind
      rw [z2]
      simp [z]
    · have z2 : ¬ (sw f a pl a j).num = 0 := fun h => z (num0.mp h)
      simp [z2, e1, e2, t1]
  rw [seq_nx (Γ1 := [some w, some (.d (.int (n : Int))), some (.o O.length), some (.d (.int (a : Int))), some (.d (.int (pl : Int))), none, none, none]) (O1 := eO O n q (nrm (sw f a pl) a a) X) (by
    have e5 := set_E (O := O) (q := q) (f := sw f a pl) (X := X) ha (fun j => sw f a pl a j / sw f a pl a a)
    rw [upd_nrm] at e5
    rw [e_Asg, hrow]
    have e6 : PyData.list ((List.range q).map fun j => dR (sw f a pl a j / sw f a pl a a)) = dRow (rowf q fun j => sw f a pl a j / sw f a pl a a) := by
      show _ = PyData.list (((List.range q).map _).map dR)
      rw [List.map_map]; rfl
    rw [e6]
    generalize dRow (rowf q fun j => sw f a pl a j / sw f a pl a a) = A at *
    generalize eO O n q (sw f a pl) X = P at *
    generalize eO O n q (nrm (sw f a pl) a a) X = P2 at *
    simp [e5])]
  show (SR.wipe (SR.wipe _ [5]) [3, 4, 5]) = _
  have inner2 : vFor (iR1 (vV 1)) (hNm 5) b_inverse_of_1 [some w, some (.d (.int (n : Int))), some (.o O.length), some (.d (.int (a : Int))), some (.d (.int (pl : Int))), none, none, none] (eO O n q (nrm (sw f a pl) a a) X) = .nx [some w, some (.d (.int (n : Int))), some (.o O.length), some (.d (.int (a : Int))), some (.d (.int (pl : Int))), none, none, none] (eO O n q (stp f a a pl) X) := by
    unfold stp
    rw [e_For, e_iR1, e_V]
    simp only [List.getElem?_cons_succ, List.getElem?_cons_zero, R.bind_ok, s1, if_true, Int.toNat_natCast, R.toS_ok]
    exact inner
  rw [inner2]
  rfl
end
/-! ### slices -/
theorem cutN_from {α : Type} {xs : List α} {k : Nat} : cutW xs (some (k : Int)) none = xs.drop k := by
  unfold cutW
  rw [HT.sIx_none, HT.sIx_nat, List.take_of_length_le (by rw [List.length_drop]; omega)]
  by_cases h : k ≤ xs.length
  · rw [Nat.min_eq_left h]
  · rw [Nat.min_eq_right (by omega), List.drop_of_length_le (Nat.le_refl _), List.drop_of_length_le (by omega)]
theorem cutN_to {α : Type} {xs : List α} {k : Nat} : cutW xs none (some (k : Int)) = xs.take k := by
  unfold cutW
  rw [HT.sIx_none, HT.sIx_nat, List.drop_zero, Nat.sub_zero]
  by_cases h : k ≤ xs.length
  · rw [Nat.min_eq_left h]
  · rw [Nat.min_eq_right (by omega), List.take_of_length_le (Nat.le_refl _), List.take_of_length_le (by omega)]
theorem uSl_from {xs : List PyData} {k : Nat} {P : List Ob} : uSl (.d (.list xs)) (some (k : Int)) none P = some (.d (.list (xs.drop k)), P) := by
  show some (mkL (cutW (xs.map W.d) _ _) P) = _
  rw [cutN_from, ← List.map_drop, mkL_m]
theorem uSl_to {xs : List PyData} {k : Nat} {P : List Ob} : uSl (.d (.list xs)) none (some (k : Int)) P = some (.d (.list (xs.take k)), P) := by
  show some (mkL (cutW (xs.map W.d) _ _) P) = _
  rw [cutN_to, ← List.map_take, mkL_m]
theorem rowf_drop {a b : Nat} {g : Nat → Rat} : (rowf (a + b) g).drop a = rowf b fun j => g (a + j) := by
  unfold rowf
  rw [List.range_add, List.map_append, List.drop_left' (by rw [List.length_map, List.length_range]), List.map_map]; rfl
section
variable {O X : List Ob} {p q i j n c : Nat} {f : Fm}
theorem inv_none {a : Nat} {w : W} (ha : a < n) (haq : a < q) (hn : n ≤ 1000000) (e : piv n f a a = none) :
    ∃ Γ', stepV (hNm 3) b_inverse_of_2 (.d (.int (a : Int))) [some w, some (.d (.int (n : Int))), some (.o O.length), none, none, none, none, none] (eO O n q f X) = .ex (.plain "NoInverse") Γ' (eO O n q f X) := by
  have ep := r_pivot_of (O := O) (p := n) (f := f) (X := X) haq hn (by omega)
  rw [e] at ep
  refine ⟨[some w, some (.d (.int (n : Int))), some (.o O.length), some (.d (.int (a : Int))), some (.d .none), none, none, none], ?_⟩
  show (stepV (hNm 3) (vWipe [3, 4, 5] (vSeq _ _)) _ _ _) = _
  simp only [stepV, e_hNm, e_Wipe, List.set_cons_succ, List.set_cons_zero]
  rw [seq_nx (Γ1 := [some w, some (.d (.int (n : Int))), some (.o O.length), some (.d (.int (a : Int))), some (.d .none), none, none, none]) (O1 := eO O n q f X) (by
    generalize eO O n q f X = P at *
    simp [ep, optW])]
  rw [seq_ex (x := .plain "NoInverse") (Γ1 := [some w, some (.d (.int (n : Int))), some (.o O.length), some (.d (.int (a : Int))), some (.d .none), none, none, none]) (O1 := eO O n q f X) (by simp)]
  rfl
theorem inv_loop {w : W} (hn : n ≤ 1000000) (hq : q ≤ 1000000) (hnq : n ≤ q) : ∀ (r a c : Nat) (f : Fm), a + r = n → RB f n q c → (c + 1) * 2 ^ r * 3 ≤ 9000 →
    (∀ g, invG n r a f = some g → forV (hNm 3) b_inverse_of_2 [] ((List.range' a r).map fun k : Nat => W.d (.int (k : Int))) [some w, some (.d (.int (n : Int))), some (.o O.length), none, none, none, none, none] (eO O n q f X) = .nx [some w, some (.d (.int (n : Int))), some (.o O.length), none, none, none, none, none] (eO O n q g X) ∧ RB g n q ((c + 1) * 2 ^ r)) ∧
    (invG n r a f = none → ∃ Γ' g, forV (hNm 3) b_inverse_of_2 [] ((List.range' a r).map fun k : Nat => W.d (.int (k : Int))) [some w, some (.d (.int (n : Int))), some (.o O.length), none, none, none, none, none] (eO O n q f X) = .ex (.plain "NoInverse") Γ' (eO O n q g X))
  | 0, a, c, f, h, hs, hc => by
    unfold invG
    refine ⟨fun g e => ?_, fun e => (by cases e)⟩
    injection e with e; subst e
    exact ⟨forV_nil0, hs.mono (by omega)⟩
  | r + 1, a, c, f, h, hs, hc => by
    have h2 : (2 * c + 1 + 1) * 2 ^ r = (c + 1) * 2 ^ (r + 1) := by rw [Nat.pow_succ, show 2 * c + 1 + 1 = (c + 1) * 2 by omega, Nat.mul_assoc, Nat.mul_comm 2]
    have h3 : 2 * c + 2 ≤ (c + 1) * 2 ^ (r + 1) := by
      rw [← h2]; exact Nat.le_mul_of_pos_right _ (Nat.two_pow_pos r)
    rw [List.range'_succ, List.map_cons]
    unfold invG
    cases e : piv n f a a with
    | none =>
      obtain ⟨Γ', e1⟩ := inv_none (O := O) (X := X) (w := w) (f := f) (by omega : a < n) (by omega : a < q) hn e
      refine ⟨fun g e => (by cases e), fun _ => ⟨Γ', f, ?_⟩⟩
      rw [forV_step (chkOf_nil.mpr trivial), e1]; rfl
    | some pl =>
      have e1 := inv_some (O := O) (X := X) (w := w) hs (by omega) (by omega : a < n) (by omega : a < q) hn hq e
      obtain ⟨p1, p2, p3⟩ := piv_some e
      have ih := inv_loop (w := w) hn hq hnq r (a + 1) (2 * c + 1) (stp f a a pl) (by omega) (hs.stp (by omega) p2 (by omega) p3) (by rw [h2]; exact hc)
      rw [h2] at ih
      have e2 : forV (hNm 3) b_inverse_of_2 [] (W.d (.int (a : Int)) :: (List.range' (a + 1) r).map fun k : Nat => W.d (.int (k : Int))) [some w, some (.d (.int (n : Int))), some (.o O.length), none, none, none, none, none] (eO O n q f X) = forV (hNm 3) b_inverse_of_2 [] ((List.range' (a + 1) r).map fun k : Nat => W.d (.int (k : Int))) [some w, some (.d (.int (n : Int))), some (.o O.length), none, none, none, none, none] (eO O n q (stp f a a pl) X) := by
        rw [forV_step (chkOf_nil.mpr trivial), e1]; rfl
      rw [e2]
      exact ih
theorem fin_E {x : PyData} : finW O (.d x) (eO O p q f X) = .ok (.d x) O := fin_app
theorem finX_E {y : Xc} : finX O y (eO O p q f X) = .ex y O := finX_app
/-- what inverse_of answers -/
def invR (n : Nat) (f : Fm) (O : List Ob) : R W := match invG n n 0 f with
  | some g => .ok (wM (gen n n fun k j => g k (n + j))) O
  | none => .ex (.plain "NoInverse") O
theorem cut_rows (hn : n ≤ 1000000) {g : Fm} {Γ : Gm} {v u k : Nat} (hv : Γ[v]? = some (some (.o O.length))) (hu : (Γ.set k none)[u]? = some (some (.d (.int (n : Int))))) (hk : k < Γ.length) (hku : u ≠ k) :
    vLc (iSq (vV v)) (.one k) vYes (vSl uSl (vV k) (vPart (vV u)) vNoP) [k] Γ (eO O n (n + n) g X) = .ok (wM (gen n n fun k j => g k (n + j))) (eO O n (n + n) g X) := by
  have h := lc_map (it := iSq (vV v)) (g := .one k) (tt := vYes) (te := vSl uSl (vV k) (vPart (vV u)) vNoP) (us := [k]) (Γ := Γ) (O := eO O n (n + n) g X) (O1 := eO O n (n + n) g X) (chk := [(O.length, rws n (n + n) g)]) (List.range n) (fun i => W.d (dRow (rowf (n + n) (g i)))) (fun i => dRow (rowf n fun j => g i (n + j))) (by
    rw [e_iSq, e_V, hv]
    simp only [R.bind_ok, wk_o eO_at]
    rfl) (chkOf_cons.mpr ⟨eO_at, chkOf_nil.mpr trivial⟩) (by rw [List.length_range]; omega) (fun i hi => by
    have e := uSl_from (P := eO O n (n + n) g X) (xs := (rowf (n + n) (g i)).map dR) (k := n)
    rw [← List.map_drop, rowf_drop] at e
    have hu2 : ((Γ.set k none).set k (some (W.d (dRow (rowf (n + n) (g i))))))[u]? = some (some (.d (.int (n : Int)))) := by
      rw [List.getElem?_set_ne (Ne.symm hku)]; exact hu
    have hk2 : ((Γ.set k none).set k (some (W.d (dRow (rowf (n + n) (g i))))))[k]? = some (some (W.d (dRow (rowf (n + n) (g i))))) := List.getElem?_set_self (by rw [List.length_set]; exact hk)
    rw [e_wipe1, e_wipe0, e_lcF, e_tgOne]
    simp only [e_Yes, R.calm_ok, R.bind_ok, if_true, e_Sl, e_V, hk2, e_Part, hu2, e_NoP, e, R.ofO_some])
  rw [h]
  unfold gen
  rw [wM, dM, List.map_map]; rfl
theorem r_inverse_of {A : Fm} (hs : RB (aug n A) n (n + n) c) (hc : (c + 1) * 2 ^ n * 3 ≤ 9000) (hn : n ≤ 1000) : sem_inverse_of [wM (gen n n A)] O = invR n (aug n A) O := by
  have hb := r_beside_unit (O := O) (A := A) (n := n) (by omega)
  have hu := r_unit (O := O) (n := n) (by omega)
  have lp := inv_loop (O := O) (X := []) (w := wM (gen n n A)) (by omega : n ≤ 1000000) (by omega : n + n ≤ 1000000) (by omega) n 0 c (aug n A) (by omega) hs hc
  have s1 : smI (n : Int) := smI_nat (by omega)
  rw [← List.range_eq_range', ← rng_0] at lp
  have hlen : (gen n n A).length = n := by unfold gen; rw [List.length_map, List.length_range]
  unfold sem_inverse_of t_inverse_of
  simp only [e_fnV, e_start, N_inverse_of, List.length_cons, List.length_nil, List.map_cons, List.map_nil, List.replicate, List.cons_append, List.nil_append, Nat.reduceAdd, Nat.reduceSub]
  rw [seq_nx (Γ1 := [some (wM (gen n n A)), some (.d (.int (n : Int))), none, none, none, none, none, none]) (O1 := O) (by
    simp [hlen])]
  rw [seq_nx (Γ1 := [some (wM (gen n n A)), some (.d (.int (n : Int))), some (.o O.length), none, none, none, none, none]) (O1 := eO O n (n + n) (aug n A) []) (by
    generalize wM (gen n n A) = a at *
    generalize wM (iM n) = b at *
    generalize eO O n (n + n) (aug n A) [] = P at *
    simp [hu, hb])]
  have hloop : ∀ P : List Ob, vWipe [3, 4, 5] (vFor (iR1 (vV 1)) (hNm 3) b_inverse_of_2) [some (wM (gen n n A)), some (.d (.int (n : Int))), some (.o O.length), none, none, none, none, none] P = (forV (hNm 3) b_inverse_of_2 [] (rng 0 n) [some (wM (gen n n A)), some (.d (.int (n : Int))), some (.o O.length), none, none, none, none, none] P).wipe [3, 4, 5] := fun P => by
    rw [e_Wipe, e_For, e_iR1, e_V]
    simp only [List.getElem?_cons_succ, List.getElem?_cons_zero, R.bind_ok, s1, if_true, Int.toNat_natCast, R.toS_ok]
  unfold invR
  cases e : invG n n 0 (aug n A) with
  | none =>
    obtain ⟨Γ', g, h⟩ := lp.2 e
    rw [seq_ex (x := .plain "NoInverse") (Γ1 := Γ') (O1 := eO O n (n + n) g []) (by rw [hloop, h]; rfl)]
    exact finX_E
  | some g =>
    obtain ⟨h, _⟩ := lp.1 g e
    rw [seq_nx (Γ1 := [some (wM (gen n n A)), some (.d (.int (n : Int))), some (.o O.length), none, none, none, none, none]) (O1 := eO O n (n + n) g []) (by rw [hloop, h]; rfl)]
    rw [e_Ret, cut_rows (by omega) rfl rfl (by simp) (by decide)]
    exact fin_E
theorem inv_RB {g : Fm} (hnq : n ≤ q) : ∀ (r a c : Nat) (f : Fm), a + r = n → RB f n q c → invG n r a f = some g → RB g n q ((c + 1) * 2 ^ r)
  | 0, a, c, f, h, hs, e => by
    unfold invG at e
    injection e with e; subst e
    exact hs.mono (by omega)
  | r + 1, a, c, f, h, hs, e => by
    have h2 : (2 * c + 1 + 1) * 2 ^ r = (c + 1) * 2 ^ (r + 1) := by rw [Nat.pow_succ, show 2 * c + 1 + 1 = (c + 1) * 2 by omega, Nat.mul_assoc, Nat.mul_comm 2]
    unfold invG at e
    cases ep : piv n f a a with
    | none => rw [ep] at e; cases e
    | some pl =>
      rw [ep] at e
      obtain ⟨p1, p2, p3⟩ := piv_some ep
      rw [← h2]
      exact inv_RB hnq r (a + 1) _ _ (by omega) (hs.stp (by omega) p2 (by omega) p3) e
end
/-! ### the law's elimination -/
section
variable {O X : List Ob} {p q i j n c : Nat} {f : Fm}
theorem rs_E {b m : Nat} (hb : b ≤ O.length) : rsW b (eO O p q f X) (m + 1) (.o O.length) = some (dM (gen p q f)) := by
  rw [rsW_o hb eO_at]
  unfold rws
  rw [mapO_ex (f := rsW b (eO O p q f X) m) (fun i => W.d (dRow (rowf q (f i)))) (fun i => dRow (rowf q (f i))) (List.range p) fun i _ => rsW_d]
  show some (PyData.list _) = some (PyData.list _)
  unfold gen
  rw [List.map_map]; rfl
theorem ls_inner {a d : Nat} {w2 w4 w5 w6 w8 : Option W} (hs : ∀ k j, k < p → j < q → sz (f k j) c) (hc : 3 * c ≤ 9000) (hd : d < p) (haq : a < q) (hp : p ≤ 1000000) (hq : q ≤ 1000000) :
    forV (hNm 7) b_law_steps_1 [] ((List.range p).map fun k : Nat => W.d (.int (k : Int))) [some (.o O.length), some (.d (.int (d : Int))), w2, some (.d (.int (a : Int))), w4, w5, w6, none, w8] (eO O p q f X)
      = .nx [some (.o O.length), some (.d (.int (d : Int))), w2, some (.d (.int (a : Int))), w4, w5, w6, none, w8] (eO O p q (gj f d a) X) := by
  have lp := (forV_foldI (g := hNm 7) (b := b_law_steps_1) (chk := []) (fun k : Nat => W.d (.int (k : Int))) (fun _ : Nat => [some (.o O.length), some (.d (.int (d : Int))), w2, some (.d (.int (a : Int))), w4, w5, w6, none, w8]) (fun t => eO O p q (gjT f d a t) X) (fun t _ => t + 1) (fun t s => s = t) (fun _ _ _ => chkOf_nil.mpr trivial) (List.range p) 0 0 rfl (fun i t k hx hI => by
    have hI : t = i := by omega
    subst hI
    have hi := (List.getElem?_eq_some_iff.mp hx).1
    rw [List.length_range] at hi
    rw [List.getElem?_range hi] at hx
    injection hx with hx
    subst hx
    refine ⟨by omega, .inl ?_⟩
    have e1 := ix_E (O := O) (q := q) (f := gjT f d a t) (X := X) hi
    have e2 := ix_E (O := O) (q := q) (f := gjT f d a t) (X := X) hd
    rw [gjT_ge (Nat.le_refl t)] at e1
    rw [gjT_d] at e2
    have e3 := ix_row (P := eO O p q (gjT f d a t) X) (g := f t) haq
    have e4 := r_law_less (O := eO O p q (gjT f d a t) X) (g := f t) (h := f d) (k := f t a) (fun j hj => hs t j hi hj) (hs t a hi haq) (fun j hj => hs d j hd hj) (by omega) hq
    have e5 := set_E (O := O) (q := q) (f := gjT f d a t) (X := X) hi (fun j => f t j - f t a * f d j)
    by_cases z0 : t = d
    · subst z0
      rw [gjT_d_succ]
      generalize eO O p q (gjT f t a t) X = P at *
      simp [stepV, b_law_steps_1]
    · have z1 : ¬ ((t : Int) = (d : Int)) := by omega
      by_cases z2 : f t a = 0
      · rw [gjT_same z2]
        generalize eO O p q (gjT f d a t) X = P at *
        generalize W.d (dRow (rowf q (f t))) = A at *
        simp [stepV, b_law_steps_1, z1, e1, e3, z2]
      · have z3 : ¬ (f t a).num = 0 := fun h => z2 (num0.mp h)
        rw [gjT_succ z0] at e5
        generalize eO O p q (gjT f d a t) X = P at *
        generalize W.d (dRow (rowf q (f t))) = A at *
        generalize W.d (dRow (rowf q (f d))) = B at *
        generalize W.d (dRow (rowf q fun j => f t j - f t a * f d j)) = C at *
        simp [stepV, b_law_steps_1, z1, e1, e2, e3, z3, e4, e5])).1
  rw [gjT_0] at lp
  rw [lp]
  have : ∀ (l : List Nat) (t : Nat), l.foldl (fun t _ => t + 1) t = t + l.length := fun l => by
    induction l with
    | nil => intro t; rfl
    | cons x l ih => intro t; rw [List.foldl_cons, ih, List.length_cons]; omega
  rw [this, List.length_range, Nat.zero_add, eO_congr (f := gjT f d a p) (g := gj f d a)]
  intro k j hk _
  unfold gjT; rw [if_pos hk]
/-- the places found so far -/
abbrev plO (l : List Nat) : Ob := .lst (l.map fun c : Nat => W.d (.int (c : Int)))
def lsG (O : List Ob) (s : LS) : Gm := [some (.o O.length), some (.d (.int (s.done : Int))), some (.o (O.length + 1)), none, none, none, none, none, none]
theorem pl_at {l : List Nat} : (eO O p q f [plO l])[O.length + 1]? = some (plO l) := by
  unfold eO
  rw [List.getElem?_append_right (by omega), show O.length + 1 - O.length = 1 by omega]; rfl
theorem pl_set {l : List Nat} {ob : Ob} : (eO O p q f [plO l]).set (O.length + 1) ob = eO O p q f [ob] := by
  unfold eO
  rw [List.set_append_right _ _ (by omega), show O.length + 1 - O.length = 1 by omega]; rfl
/-- the rows with an entry in the column, from d on -/
def fnd (p : Nat) (f : Fm) (d a : Nat) : List Nat := ((List.range (p - d)).map (d + ·)).filter fun k => decide (f k a ≠ 0)
theorem fnd_none {d a : Nat} (h : piv p f d a = none) : fnd p f d a = [] := by
  have : (fnd p f d a).head? = none := by unfold fnd; rw [List.head?_filter]; exact h
  exact List.head?_eq_none_iff.mp this
theorem fnd_some {d a pl : Nat} (h : piv p f d a = some pl) : ∃ l, fnd p f d a = pl :: l := by
  have : (fnd p f d a).head? = some pl := by unfold fnd; rw [List.head?_filter]; exact h
  cases e : fnd p f d a with
  | nil => rw [e] at this; cases this
  | cons x l => rw [e] at this; injection this with this; subst this; exact ⟨l, rfl⟩
theorem fnd_run {a d : Nat} {w2 w4 w5 w6 w8 : Option W} (haq : a < q) (hp : p ≤ 1000000) (hd : d ≤ p) :
    vLc (iR2 (vV 1) (vCB uLen (vCons (vV 0) vNil))) (.one 7) (vTst (vOp uNe (vOp uIx (vOp uIx (vOp uIx (vV 0) (vV 7)) (vV 3)) (vC (.int 0))) (vC (.int 0)))) (vV 7) [7] [some (.o O.length), some (.d (.int (d : Int))), w2, some (.d (.int (a : Int))), w4, w5, w6, none, w8] (eO O p q f X)
      = .ok (.d (.list ((fnd p f d a).map fun k : Nat => PyData.int (k : Int)))) (eO O p q f X) := by
  have e3 := len_E (O := O) (p := p) (q := q) (f := f) (X := X)
  have e4 : ((p : Int) - (d : Int)).toNat = p - d := Int.toNat_sub p d
  have s1 : smI (d : Int) := smI_nat (by omega)
  have s2 : smI (p : Int) := smI_nat (by omega)
  refine lc_filter ((List.range (p - d)).map (d + ·)) (fun k : Nat => W.d (.int (k : Int))) _ (fun k => decide (f k a ≠ 0)) (chk := []) (by
    rw [← rng_nat]
    generalize eO O p q f X = P at *
    simp [e3, e4, s1, s2]) (chkOf_nil.mpr trivial) (by rw [List.length_map, List.length_range]; omega) fun k hk => ?_
  rw [List.mem_map] at hk
  obtain ⟨i, hi, rfl⟩ := hk
  rw [List.mem_range] at hi
  have hk : d + i < p := by omega
  generalize d + i = k at *
  have e1 := ix_E (O := O) (q := q) (f := f) (X := X) hk
  have e2 := ix_row (P := eO O p q f X) (g := f k) haq
  generalize eO O p q f X = P at *
  generalize W.d (dRow (rowf q (f k))) = A at *
  by_cases z : f k a = 0
  · simp [e1, e2, z]
  · have z2 : ¬ (f k a).num = 0 := fun h => z (num0.mp h)
    simp [e1, e2, z, z2]
theorem divInt_inv' {b : Rat} : Rat.divInt b.den b.num = b⁻¹ := by rw [Rat.inv_def]
theorem upd_law {d pl col : Nat} : upd (upd f pl (f d)) d (fun j => (f pl col)⁻¹ * f pl j) = nrm (sw f d pl) d col := by
  funext k j
  unfold UZ.upd UZ.nrm UZ.sw
  by_cases e : k = d
  · subst e
    simp only [if_true]
    rw [Rat.div_def, Rat.mul_comm]
  · simp only [if_neg e]
theorem ls_step {a c0 : Nat} {s : LS} (hd : s.done ≤ p) (hs : RB s.f p q c) (hc : 3 * (2 * c + 1) ≤ 9000) (ha : a < q) (hp : p ≤ 1000000) (hq : q ≤ 1000000) (hl : s.pl.length ≤ 1000000) :
    stepV (hNm 3) b_law_steps_2 (.d (.int (a : Int))) (lsG O s) (eO O p q s.f [plO s.pl]) = .nx (lsG O (lst1 p s a)) (eO O p q (lst1 p s a).f [plO (lst1 p s a).pl]) := by
  obtain ⟨f, d, l⟩ := s
  dsimp only at hd hs hl ⊢
  unfold lst1
  dsimp only
  have ef := fnd_run (O := O) (X := [plO l]) (f := f) (a := a) (d := d) (w2 := some (.o (O.length + 1))) (w4 := none) (w5 := none) (w6 := none) (w8 := none) ha hp hd
  show stepV (hNm 3) (vWipe [3, 4, 5, 6, 7] (vSeq _ _)) _ _ _ = _
  simp only [stepV, e_hNm, e_Wipe, lsG, List.set_cons_succ, List.set_cons_zero]
  rw [seq_nx (Γ1 := [some (.o O.length), some (.d (.int (d : Int))), some (.o (O.length + 1)), some (.d (.int (a : Int))), some (.d (.list ((fnd p f d a).map fun k : Nat => PyData.int (k : Int)))), none, none, none, none]) (O1 := eO O p q f [plO l]) (by
    rw [e_Set, ef]; rfl)]
  cases e : piv p f d a with
  | none =>
    rw [fnd_none e]
    have e0 : uEqN true (.d (.list [])) (.d (.list [])) (eO O p q f [plO l]) = some (.d (.bool false), eO O p q f [plO l]) := uEqN_d (r := true) (show eqD (.list []) (.list []) = some true by decide +kernel)
    generalize eO O p q f [plO l] = P at *
    simp [e0]
  | some pl =>
    obtain ⟨p1, p2, p3⟩ := piv_some e
    obtain ⟨l', el⟩ := fnd_some e
    have hd' : d < p := by omega
    have e0 : uEqN true (.d (.list ((fnd p f d a).map fun k : Nat => PyData.int (k : Int)))) (.d (.list [])) (eO O p q f [plO l]) = some (.d (.bool true), eO O p q f [plO l]) := by
      have h := uEq_D (O := eO O p q f [plO l]) (neg := true) (α := List Int) (by decide) ((fnd p f d a).map fun k : Nat => (k : Int)) []
      have e1 : (Datum.toD ((fnd p f d a).map fun k : Nat => (k : Int)) : PyData) = .list ((fnd p f d a).map fun k : Nat => PyData.int (k : Int)) := by
        show PyData.list (((fnd p f d a).map fun k : Nat => (k : Int)).map Datum.toD) = _
        rw [List.map_map]; rfl
      rw [e1] at h
      rw [show (Datum.toD ([] : List Int) : PyData) = .list [] from rfl] at h
      rw [h, el]; rfl
    have g0 : sw f d pl d a ≠ 0 := by unfold UZ.sw; rw [if_pos rfl]; exact p3
    have hg2 := (hs.sw hd' p2).nrm hd' ha g0
    have inner := ls_inner (O := O) (X := [plO l]) (w2 := some (.o (O.length + 1))) (w4 := some (.d (.list ((fnd p f d a).map fun k : Nat => PyData.int (k : Int))))) (w5 := some (.d (dRow (rowf q (f pl))))) (w6 := some (wR (f pl a)⁻¹)) (w8 := none) (fun k j hk hj => sz_of_RB hg2 hk hj) (by omega) hd' ha hp hq
    rw [← rng_0] at inner
    have i0 : ∀ P : List Ob, uIx (.d (.list ((fnd p f d a).map fun k : Nat => PyData.int (k : Int)))) (.d (.int 0)) P = some (.d (.int (pl : Int)), P) := fun P => by rw [el, List.map_cons]; exact uIx_l0
    generalize ((fnd p f d a).map fun k : Nat => PyData.int (k : Int)) = L at *
    have hif : ∀ (u : VS) (Γ : Gm), vTst (vOp uNe (vV 4) (vLst vNil)) Γ (eO O p q f [plO l]) = .ok true (eO O p q f [plO l]) → vIf (vTst (vOp uNe (vV 4) (vLst vNil))) u vNext Γ (eO O p q f [plO l]) = u Γ (eO O p q f [plO l]) := fun u Γ h => by rw [e_If, h]; rfl
    rw [e_Wipe, hif _ _ (by
      generalize eO O p q f [plO l] = P at *
      simp [e0])]
    have x1 := ix_E (O := O) (q := q) (f := f) (X := [plO l]) p2
    have x2 := ix_E (O := O) (q := q) (f := f) (X := [plO l]) hd'
    have x3 := set_E (O := O) (q := q) (f := f) (X := [plO l]) p2 (f d)
    rw [seq_nx (Γ1 := [some (.o O.length), some (.d (.int (d : Int))), some (.o (O.length + 1)), some (.d (.int (a : Int))), some (.d (.list L)), some (.d (dRow (rowf q (f pl)))), none, none, none]) (O1 := eO O p q f [plO l]) (by
      generalize eO O p q f [plO l] = P at *
      generalize dRow (rowf q (f pl)) = A at *
      simp [x1, i0])]
    rw [seq_nx (Γ1 := [some (.o O.length), some (.d (.int (d : Int))), some (.o (O.length + 1)), some (.d (.int (a : Int))), some (.d (.list L)), some (.d (dRow (rowf q (f pl)))), none, none, none]) (O1 := eO O p q (upd f pl (f d)) [plO l]) (by
      generalize eO O p q f [plO l] = P at *
      generalize eO O p q (upd f pl (f d)) [plO l] = P2 at *
      generalize dRow (rowf q (f pl)) = A at *
      generalize dRow (rowf q (f d)) = B at *
      simp [x2, x3, i0])]
    have y1 := ix_row (P := eO O p q (upd f pl (f d)) [plO l]) (g := f pl) ha
    have hsz := sz_of_RB hs p2 ha
    have y2 := r_law_ratio (O := eO O p q (upd f pl (f d)) [plO l]) (a := (f pl a).den) (b := (f pl a).num) (num_ne p3) (Nat.lt_of_lt_of_le hsz.1 (Nat.pow_le_pow_right (by decide) (by omega)))
    rw [divInt_inv'] at y2
    rw [seq_nx (Γ1 := [some (.o O.length), some (.d (.int (d : Int))), some (.o (O.length + 1)), some (.d (.int (a : Int))), some (.d (.list L)), some (.d (dRow (rowf q (f pl)))), some (wR (f pl a)⁻¹), none, none]) (O1 := eO O p q (upd f pl (f d)) [plO l]) (by
      generalize eO O p q (upd f pl (f d)) [plO l] = P2 at *
      generalize W.d (dRow (rowf q (f pl))) = A at *
      simp [y1, y2])]
    have hinv : sz (f pl a)⁻¹ c := ⟨by
      rw [Rat.inv_def]; exact Nat.lt_of_le_of_lt (divInt_num_le _ _) hsz.2, by
      rw [Rat.inv_def]; exact Nat.lt_of_le_of_lt (divInt_den_le _ (num_ne p3)) hsz.1⟩
    have hrow : vLc (iSq (vV 5)) (.one 8) vYes (vCall 2 sem_law_mul (vCons (vV 6) (vCons (vV 8) vNil))) [8] [some (.o O.length), some (.d (.int (d : Int))), some (.o (O.length + 1)), some (.d (.int (a : Int))), some (.d (.list L)), some (.d (dRow (rowf q (f pl)))), some (wR (f pl a)⁻¹), none, none] (eO O p q (upd f pl (f d)) [plO l])
        = .ok (.d (.list ((List.range q).map fun j => dR ((f pl a)⁻¹ * f pl j)))) (eO O p q (upd f pl (f d)) [plO l]) := by
      refine lc_map (List.range q) (fun j => wR (f pl j)) _ (chk := []) (by
        generalize eO O p q (upd f pl (f d)) [plO l] = P2 at *
        simp [List.map_map, Function.comp_def]) (chkOf_nil.mpr trivial) (by rw [List.length_range]; omega) fun j hj => ?_
      rw [List.mem_range] at hj
      have t1 := r_law_mul (O := eO O p q (upd f pl (f d)) [plO l]) hinv (sz_of_RB hs p2 hj) (by omega)
      generalize eO O p q (upd f pl (f d)) [plO l] = P2 at *
      generalize W.d (dRow (rowf q (f pl))) = A at *
      simp [t1]
    rw [seq_nx (Γ1 := [some (.o O.length), some (.d (.int (d : Int))), some (.o (O.length + 1)), some (.d (.int (a : Int))), some (.d (.list L)), some (.d (dRow (rowf q (f pl)))), some (wR (f pl a)⁻¹), none, none]) (O1 := eO O p q (nrm (sw f d pl) d a) [plO l]) (by
      have e5 := set_E (O := O) (q := q) (f := upd f pl (f d)) (X := [plO l]) hd' (fun j => (f pl a)⁻¹ * f pl j)
      rw [upd_law] at e5
      rw [e_Asg, hrow]
      have e6 : PyData.list ((List.range q).map fun j => dR ((f pl a)⁻¹ * f pl j)) = dRow (rowf q fun j => (f pl a)⁻¹ * f pl j) := by
        show _ = PyData.list (((List.range q).map _).map dR)
        rw [List.map_map]; rfl
      rw [e6]
      generalize dRow (rowf q fun j => (f pl a)⁻¹ * f pl j) = A at *
      generalize eO O p q (upd f pl (f d)) [plO l] = P at *
      generalize eO O p q (nrm (sw f d pl) d a) [plO l] = P2 at *
      simp [e5])]
    have inner2 : vWipe [7] (vFor (iR1 (vCB uLen (vCons (vV 0) vNil))) (hNm 7) b_law_steps_1) [some (.o O.length), some (.d (.int (d : Int))), some (.o (O.length + 1)), some (.d (.int (a : Int))), some (.d (.list L)), some (.d (dRow (rowf q (f pl)))), some (wR (f pl a)⁻¹), none, none] (eO O p q (nrm (sw f d pl) d a) [plO l])
        = .nx [some (.o O.length), some (.d (.int (d : Int))), some (.o (O.length + 1)), some (.d (.int (a : Int))), some (.d (.list L)), some (.d (dRow (rowf q (f pl)))), some (wR (f pl a)⁻¹), none, none] (eO O p q (stp f d a pl) [plO l]) := by
      have e3 := len_E (O := O) (p := p) (q := q) (f := nrm (sw f d pl) d a) (X := [plO l])
      have s1 : smI (p : Int) := smI_nat (by omega)
      unfold stp
      rw [e_Wipe, e_For, e_iR1, e_CB, e_Cons, e_V]
      simp only [e_Nil, List.getElem?_cons_succ, List.getElem?_cons_zero, R.bind_ok, e3, R.ofO_some, s1, if_true, Int.toNat_natCast, R.toS_ok]
      rw [inner]; rfl
    rw [seq_nx inner2]
    have ea : vDrop (vMt uAppend (vV 2) (vCons (vV 3) vNil)) [some (.o O.length), some (.d (.int (d : Int))), some (.o (O.length + 1)), some (.d (.int (a : Int))), some (.d (.list L)), some (.d (dRow (rowf q (f pl)))), some (wR (f pl a)⁻¹), none, none] (eO O p q (stp f d a pl) [plO l])
        = .nx [some (.o O.length), some (.d (.int (d : Int))), some (.o (O.length + 1)), some (.d (.int (a : Int))), some (.d (.list L)), some (.d (dRow (rowf q (f pl)))), some (wR (f pl a)⁻¹), none, none] (eO O p q (stp f d a pl) [plO (l ++ [a])]) := by
      have hlo : lstO (eO O p q (stp f d a pl) [plO l]) (.o (O.length + 1)) = some (O.length + 1, l.map fun c : Nat => W.d (.int (c : Int))) := by
        show (match (eO O p q (stp f d a pl) [plO l])[O.length + 1]? with | some (.lst ws) => some (O.length + 1, ws) | _ => none) = _
        rw [pl_at]
      have happ : ∀ P, uAppend P (l.map fun c : Nat => W.d (.int (c : Int))) [.d (.int (a : Int))] = some (.d .none, (l ++ [a]).map fun c : Nat => W.d (.int (c : Int))) := fun P => by
        show (if (l.map fun c : Nat => W.d (.int (c : Int))).length < sizeLine then some (W.d .none, _) else none) = _
        rw [if_pos (by rw [List.length_map, sizeLine_val]; omega), List.map_append]; rfl
      simp only [e_Drop, e_Mt, e_V, e_Cons, e_Nil, List.getElem?_cons_succ, List.getElem?_cons_zero, R.bind_ok, hlo, happ, pl_set, R.toS_ok]
    rw [seq_nx ea]
    generalize eO O p q (stp f d a pl) [plO (l ++ [a])] = P at *
    simp
end
section
variable {O X : List Ob} {p q i j n c : Nat} {f : Fm}
/-- what holds after each column -/
structure LsI (p q c : Nat) (s : LS) : Prop where
  done : s.done ≤ p
  len : s.pl.length = s.done
  rb : RB s.f p q ((c + 1) * 2 ^ s.done - 1)
theorem lsI_1 {a : Nat} {s : LS} (ha : a < q) (h : LsI p q c s) : LsI p q c (lst1 p s a) := by
  unfold lst1
  cases e : piv p s.f s.done a with
  | none => exact h
  | some pl =>
    obtain ⟨p1, p2, p3⟩ := piv_some e
    refine ⟨by show s.done + 1 ≤ p; omega, by show (s.pl ++ [a]).length = s.done + 1; rw [List.length_append, h.len]; rfl, ?_⟩
    have := h.rb.stp (by omega : s.done < p) p2 ha p3
    have hp := Nat.two_pow_pos s.done
    have hk : 1 ≤ (c + 1) * 2 ^ s.done := Nat.mul_pos (by omega) hp
    show RB _ p q ((c + 1) * 2 ^ (s.done + 1) - 1)
    rw [Nat.pow_succ, ← Nat.mul_assoc]
    rwa [show (c + 1) * 2 ^ s.done * 2 - 1 = 2 * ((c + 1) * 2 ^ s.done - 1) + 1 by omega]
theorem lsI_fold : ∀ (cs : List Nat) (s : LS), (∀ a ∈ cs, a < q) → LsI p q c s → LsI p q c (cs.foldl (lst1 p) s)
  | [], _, _, h => h
  | a :: cs, s, ha, h => lsI_fold cs _ (fun x hx => ha x (List.mem_cons_of_mem _ hx)) (lsI_1 (ha a (List.mem_cons_self ..)) h)
/-- what the law's elimination answers -/
def stpsD (p q : Nat) (s : LS) : PyData := .list [dM (gen s.done q s.f), .list (s.pl.map fun c : Nat => PyData.int (c : Int))]
theorem gen_take {d : Nat} (h : d ≤ p) : (gen p q f).take d = gen d q f := by
  unfold gen
  rw [← List.map_take, List.take_range, Nat.min_eq_left h]
theorem gen_nil {p q : Nat} {f : Fm} (h : 0 < p) : gen p q f ≠ [] := by
  intro z
  have : (gen p q f).length = p := by unfold gen; rw [List.length_map, List.length_range]
  rw [z] at this
  simp at this
  omega
theorem r_law_steps {f : Fm} (h0 : 0 < p) (hs : RB f p q c) (hc : (c + 1) * 2 ^ p * 6 ≤ 9000) (hp : p ≤ 1000) (hq : q ≤ 1000) :
    sem_law_steps [wM (gen p q f)] O = .ok (.d (stpsD p q (lstp p f (List.range q)))) O := by
  have hI0 : LsI p q c ⟨f, 0, []⟩ := ⟨Nat.zero_le _, rfl, by show RB f p q ((c + 1) * 2 ^ 0 - 1); rw [Nat.pow_zero, Nat.mul_one, Nat.add_sub_cancel]; exact hs⟩
  have hb : ∀ s : LS, LsI p q c s → 3 * (2 * ((c + 1) * 2 ^ s.done - 1) + 1) ≤ 9000 := fun s h => by
    have := Nat.pow_le_pow_right (n := 2) (by decide) h.done
    have := Nat.mul_le_mul_left (c + 1) this
    omega
  have hI := lsI_fold (p := p) (q := q) (c := c) (List.range q) ⟨f, 0, []⟩ (fun a ha => List.mem_range.mp ha) hI0
  change LsI p q c (lstp p f (List.range q)) at hI
  have lp := (forV_fold (g := hNm 3) (b := b_law_steps_2) (chk := []) (fun k : Nat => W.d (.int (k : Int))) (lsG O) (fun s => eO O p q s.f [plO s.pl]) (lst1 p) (LsI p q c) (fun _ _ => chkOf_nil.mpr trivial) (List.range q) ⟨f, 0, []⟩ hI0 (fun s a ha hs => by
    rw [List.mem_range] at ha
    exact ⟨lsI_1 ha hs, .inl (ls_step (c0 := 0) hs.done hs.rb (hb s hs) ha (by omega) (by omega) (by have := hs.len; have := hs.done; omega))⟩)).1
  rw [← rng_0] at lp
  change forV (hNm 3) b_law_steps_2 [] (rng 0 q) _ _ = SR.nx (lsG O (lstp p f (List.range q))) (eO O p q (lstp p f (List.range q)).f [plO (lstp p f (List.range q)).pl]) at lp
  generalize lstp p f (List.range q) = s at *
  have h1 : vLcO (iSq (vV 0)) (.one 5) vYes (vCB uList (vCons (vV 5) vNil)) [5] [some (wM (gen p q f)), none, none, none, none, none, none, none, none] O = .ok (.o O.length) (eO O p q f []) :=
    lcO_map (List.range p) (fun i => W.d (dRow (rowf q (f i)))) (fun i => W.d (dRow (rowf q (f i)))) (chk := []) (by
      simp [gen, List.map_map, Function.comp_def]) (chkOf_nil.mpr trivial) (by rw [List.length_range]; omega) fun i _ => by
      have u : uList [.d (dRow (rowf q (f i)))] O = some (.d (dRow (rowf q (f i))), O) := by
        show some (mkL (((rowf q (f i)).map dR).map W.d) O) = _
        rw [mkL_m]
      generalize dRow (rowf q (f i)) = A at *
      simp [u]
  unfold sem_law_steps t_law_steps
  simp only [e_fnV, e_start, N_law_steps, List.length_cons, List.length_nil, List.map_cons, List.map_nil, List.replicate, List.cons_append, List.nil_append, Nat.reduceAdd, Nat.reduceSub]
  rw [seq_nx (Γ1 := [some (.o O.length), none, none, none, none, none, none, none, none]) (O1 := eO O p q f []) (by rw [e_Set, h1]; rfl)]
  rw [seq_nx (Γ1 := [some (.o O.length), some (.d (.int ((0 : Nat) : Int))), none, none, none, none, none, none, none]) (O1 := eO O p q f []) (by simp)]
  rw [seq_nx (Γ1 := lsG O ⟨f, 0, []⟩) (O1 := eO O p q f [plO []]) (by
    have e : eO O p q f [plO []] = eO O p q f [] ++ [.lst []] := by unfold eO; simp
    have l : (eO O p q f []).length = O.length + 1 := by unfold eO; simp
    rw [e]
    simp only [e_Set, e_LstO, e_Nil, R.bind_ok, List.length_nil, Nat.zero_le, if_true, mkO_e, R.toS_ok, l, List.set_cons_succ, List.set_cons_zero]
    rfl)]
  have e0 : uNe (.o O.length) (.d (.list [])) (eO O p q f [plO []]) = some (.d (.bool true), eO O p q f [plO []]) := by
    have h := eqD_D (α := List (List Rat)) (by decide) (gen p q f) []
    rw [decide_eq_false (gen_nil h0)] at h
    have h2 : eqD (dM (gen p q f)) (.list []) = some false := h
    show uEqN true _ _ _ = _
    unfold uEqN
    rw [rs_E (Nat.zero_le _), rsW_d]
    dsimp only
    rw [h2]; rfl
  have i0 := ix_E (O := O) (p := p) (q := q) (f := f) (X := [plO []]) h0
  have s1 : smI (q : Int) := smI_nat (by omega)
  have hloop : vWipe [3, 4, 5, 6, 7] (vFor (iR1 (vIfE (vTst (vOp uNe (vV 0) (vLst vNil))) (vCB uLen (vCons (vOp uIx (vV 0) (vC (.int 0))) vNil)) (vC (.int 0)))) (hNm 3) b_law_steps_2) (lsG O ⟨f, 0, []⟩) (eO O p q f [plO []]) = .nx (lsG O s) (eO O p q s.f [plO s.pl]) := by
    have hit : iR1 (vIfE (vTst (vOp uNe (vV 0) (vLst vNil))) (vCB uLen (vCons (vOp uIx (vV 0) (vC (.int 0))) vNil)) (vC (.int 0))) (lsG O ⟨f, 0, []⟩) (eO O p q f [plO []]) = .ok (rng 0 q, []) (eO O p q f [plO []]) := by
      have u : ∀ P, uLen [.d (dRow (rowf q (f 0)))] P = some (.d (.int (q : Int)), P) := fun P => by
        rw [uLen_l, List.length_map, List.length_map, List.length_range]
      change uIx (W.o O.length) (W.d (PyData.int 0)) _ = _ at i0
      unfold lsG
      generalize dRow (rowf q (f 0)) = A at *
      generalize eO O p q f [plO []] = P at *
      simp [e0, i0, u, s1]
    rw [e_Wipe, e_For, hit]
    show (forV (hNm 3) b_law_steps_2 [] (rng 0 q) (lsG O ⟨f, 0, []⟩) (eO O p q f [plO []])).wipe _ = _
    rw [lp]; rfl
  rw [seq_nx hloop, e_Ret]
  have hsl : uSl (.o O.length) none (some (s.done : Int)) (eO O p q s.f [plO s.pl]) = some (wM (gen s.done q s.f), eO O p q s.f [plO s.pl]) := by
    show (match lv (eO O p q s.f [plO s.pl]) (.o O.length) with | some xs => some (mkL (cutW xs none (some (s.done : Int))) _) | none => none) = _
    rw [lv_o eO_at]
    dsimp only
    rw [cutN_to]
    unfold rws
    rw [← List.map_take, List.take_range, Nat.min_eq_left hI.done, mkL_f]
    unfold gen
    show some (W.d (PyData.list _), _) = some (W.d (PyData.list _), _)
    rw [List.map_map]; rfl
  have hret : vLst (vCons (vSl uSl (vV 0) vNoP (vPart (vV 1))) (vCons (vV 2) vNil)) (lsG O s) (eO O p q s.f [plO s.pl]) = .ok (.o (O.length + 2)) (eO O p q s.f [plO s.pl, .lst [wM (gen s.done q s.f), .o (O.length + 1)]]) := by
    have l : (eO O p q s.f [plO s.pl]).length = O.length + 2 := by unfold eO; simp
    have e : eO O p q s.f [plO s.pl] ++ [.lst [wM (gen s.done q s.f), .o (O.length + 1)]] = eO O p q s.f [plO s.pl, .lst [wM (gen s.done q s.f), .o (O.length + 1)]] := by unfold eO; simp
    rw [← e]
    have em : mkL [wM (gen s.done q s.f), .o (O.length + 1)] (eO O p q s.f [plO s.pl]) = (.o (eO O p q s.f [plO s.pl]).length, eO O p q s.f [plO s.pl] ++ [.lst [wM (gen s.done q s.f), .o (O.length + 1)]]) := rfl
    rw [l] at em
    unfold lsG
    generalize wM (gen s.done q s.f) = A at *
    generalize eO O p q s.f [plO s.pl] = P at *
    simp [hsl, em]
  rw [hret]
  show finW O (.o (O.length + 2)) _ = _
  have g2 : (eO O p q s.f [plO s.pl, .lst [wM (gen s.done q s.f), .o (O.length + 1)]])[O.length + 2]? = some (.lst [wM (gen s.done q s.f), .o (O.length + 1)]) := by
    unfold eO; rw [List.getElem?_append_right (by omega), show O.length + 2 - O.length = 2 by omega]; rfl
  have g1 : (eO O p q s.f [plO s.pl, .lst [wM (gen s.done q s.f), .o (O.length + 1)]])[O.length + 1]? = some (plO s.pl) := by
    unfold eO; rw [List.getElem?_append_right (by omega), show O.length + 1 - O.length = 1 by omega]; rfl
  have hrs : mapO (rsW O.length (eO O p q s.f [plO s.pl, .lst [wM (gen s.done q s.f), .o (O.length + 1)]]) 7) [wM (gen s.done q s.f), .o (O.length + 1)] = some [dM (gen s.done q s.f), .list (s.pl.map fun c : Nat => PyData.int (c : Int))] := by
    unfold mapO
    rw [rsW_d]
    unfold mapO
    rw [rsW_o (by omega) g1, mapO_ex (f := rsW O.length (eO O p q s.f [plO s.pl, .lst [wM (gen s.done q s.f), .o (O.length + 1)]]) 6) (fun c : Nat => W.d (.int (c : Int))) (fun c : Nat => PyData.int (c : Int)) s.pl fun c _ => rsW_d]
    rfl
  rw [fin_lst (by omega) g2 hrs (OkTake.app _ _)]
  show R.ok _ ((O ++ _).take O.length) = _
  rw [List.take_left' rfl]; rfl
end
end UZ
/-! elimination of matrices: the law's inverse, determinants. -/
namespace UZ
open PySem PySem.W L2
section
variable {O X : List Ob} {p q i j n c : Nat} {f : Fm}
/-- what the law's inverse answers -/
def minvW (n : Nat) (f : Fm) : W := match invG n n 0 f with
  | some g => wM (gen n n fun k j => g k (n + j))
  | none => .d .none
theorem toD_nats (l : List Nat) : (Datum.toD (l.map fun k : Nat => (k : Int)) : PyData) = .list (l.map fun k : Nat => PyData.int (k : Int)) := by
  show PyData.list ((l.map fun k : Nat => (k : Int)).map Datum.toD) = _
  rw [List.map_map]; rfl
theorem nats_inj {l m : List Nat} (h : (l.map fun k : Nat => (k : Int)) = m.map fun k : Nat => (k : Int)) : l = m := by
  have := congrArg (List.map Int.toNat) h
  simpa [List.map_map, Function.comp_def] using this
theorem uNe_nats {l m : List Nat} {P : List Ob} : uNe (.d (.list (l.map fun k : Nat => PyData.int (k : Int)))) (.d (.list (m.map fun k : Nat => PyData.int (k : Int)))) P = some (.d (.bool (!decide (l = m))), P) := by
  have h := uEq_D (O := P) (neg := true) (α := List Int) (by decide) (l.map fun k : Nat => (k : Int)) (m.map fun k : Nat => (k : Int))
  rw [toD_nats, toD_nats] at h
  show uEqN true _ _ _ = _
  rw [h]
  have : decide ((l.map fun k : Nat => (k : Int)) = m.map fun k : Nat => (k : Int)) = decide (l = m) := by
    by_cases e : l = m
    · rw [decide_eq_true e, decide_eq_true (by rw [e])]
    · rw [decide_eq_false e, decide_eq_false fun z => e (nats_inj z)]
  rw [this]; rfl
theorem gen_at {f : Fm} {k : Nat} {P : List Ob} (h : k < p) : uIx (wM (gen p q f)) (.d (.int (k : Int))) P = some (.d (dRow (rowf q (f k))), P) := by
  rw [uIx_M (by unfold gen; rw [List.length_map, List.length_range]; exact h)]
  unfold rw_ gen
  rw [List.getElem?_map, List.getElem?_range h]; rfl
theorem gen_len : (gen p q f).length = p := by unfold gen; rw [List.length_map, List.length_range]
theorem iM_gen : iM n = gen n n fun i j => if i = j then 1 else 0 := rfl
theorem cut_data (hn : n ≤ 1000000) {g : Fm} {Γ : Gm} {v u k : Nat} (hv : Γ[v]? = some (some (wM (gen n (n + n) g)))) (hu : Γ[u]? = some (some (.d (.int (n : Int))))) (hk : k < Γ.length) (hku : u ≠ k) (hw : wipeD Γ [k] = Γ) :
    vLc (iSq (vV v)) (.one k) vYes (vSl uSl (vV k) (vPart (vV u)) vNoP) [k] Γ O = .ok (wM (gen n n fun k j => g k (n + j))) O := by
  have h := lc_map (it := iSq (vV v)) (g := .one k) (tt := vYes) (te := vSl uSl (vV k) (vPart (vV u)) vNoP) (us := [k]) (Γ := Γ) (O := O) (O1 := O) (chk := []) (List.range n) (fun i => W.d (dRow (rowf (n + n) (g i)))) (fun i => dRow (rowf n fun j => g i (n + j))) (by
    rw [e_iSq, e_V, hv]
    simp [gen, List.map_map, Function.comp_def]) (chkOf_nil.mpr trivial) (by rw [List.length_range]; omega) (fun i hi => by
    have e := uSl_from (P := O) (xs := (rowf (n + n) (g i)).map dR) (k := n)
    rw [← List.map_drop, rowf_drop] at e
    have hu2 : (Γ.set k (some (W.d (dRow (rowf (n + n) (g i))))))[u]? = some (some (.d (.int (n : Int)))) := by
      rw [List.getElem?_set_ne (Ne.symm hku)]; exact hu
    have hk2 : (Γ.set k (some (W.d (dRow (rowf (n + n) (g i))))))[k]? = some (some (W.d (dRow (rowf (n + n) (g i))))) := List.getElem?_set_self hk
    rw [hw, e_lcF, e_tgOne]
    simp only [e_Yes, R.calm_ok, R.bind_ok, if_true, e_Sl, e_V, hk2, e_Part, hu2, e_NoP, e, R.ofO_some])
  rw [h]
  unfold gen
  rw [wM, dM, List.map_map]; rfl
theorem r_law_minv {A : Fm} (h0 : 0 < n) (hs : RB (aug n A) n (n + n) c) (hc : (c + 1) * 2 ^ n * 6 ≤ 9000) (hn : n ≤ 500) : sem_law_minv [wM (gen n n A)] O = .ok (minvW n (aug n A)) O := by
  have hu := r_law_unit (O := O) (n := n) (by omega)
  have hst := r_law_steps (O := O) (q := n + n) h0 hs hc (by omega) (by omega)
  have hinv := lstp_inv (n := n) (m := n) (f := aug n A)
  have s1 : smI (n : Int) := smI_nat (by omega)
  have sL : smL (n : Int) := smL_nat (by omega)
  have hI : (lstp n (aug n A) (List.range (n + n))).done ≤ n := (lsI_fold (p := n) (q := n + n) (c := c) (List.range (n + n)) ⟨aug n A, 0, []⟩ (fun a ha => List.mem_range.mp ha) ⟨Nat.zero_le _, rfl, by show RB (aug n A) n (n + n) ((c + 1) * 2 ^ 0 - 1); rw [Nat.pow_zero, Nat.mul_one, Nat.add_sub_cancel]; exact hs⟩).done
  generalize lstp n (aug n A) (List.range (n + n)) = s at *
  have hboth : vLc (iR1 (vV 1)) (.one 5) vYes (vOp uAdd (vOp uIx (vV 0) (vV 5)) (vOp uIx (vCall 1 sem_law_unit (vCons (vV 1) vNil)) (vV 5))) [5] [some (wM (gen n n A)), some (.d (.int (n : Int))), none, none, none, none, none] O
      = .ok (.d (.list ((List.range n).map fun i => dRow (rowf (n + n) (aug n A i))))) O :=
    lc_map (List.range n) (fun k : Nat => W.d (.int (k : Int))) _ (chk := []) (by
      rw [← rng_0]
      simp [s1]) (chkOf_nil.mpr trivial) (by rw [List.length_range]; omega) fun k hk => by
      rw [List.mem_range] at hk
      have a1 := gen_at (P := O) (q := n) (f := A) hk
      have a2 := gen_at (P := O) (q := n) (f := fun i j => if i = j then 1 else 0) hk
      rw [← iM_gen] at a2
      have a3 := uAdd_rows (P := O) (g := A k) (h := fun j => if k = j then 1 else 0) (by omega : n ≤ 1000000) (by omega : n ≤ 1000000)
      rw [aug_row] at a3
      generalize dRow (rowf n (A k)) = x at *
      generalize dRow (rowf n fun j => if k = j then 1 else 0) = y at *
      generalize dRow (rowf (n + n) (aug n A k)) = z at *
      generalize wM (gen n n A) = u at *
      generalize wM (iM n) = v at *
      simp [hu, a1, a2, a3]
  have eb : (PyData.list ((List.range n).map fun i => dRow (rowf (n + n) (aug n A i)))) = dM (gen n (n + n) (aug n A)) := by
    show _ = PyData.list ((gen n (n + n) (aug n A)).map dRow)
    unfold gen
    rw [List.map_map]; rfl
  rw [eb] at hboth
  unfold sem_law_minv t_law_minv
  simp only [e_fnV, e_start, N_law_minv, List.length_cons, List.length_nil, List.map_cons, List.map_nil, List.replicate, List.cons_append, List.nil_append, Nat.reduceAdd, Nat.reduceSub]
  rw [seq_nx (Γ1 := [some (wM (gen n n A)), some (.d (.int (n : Int))), none, none, none, none, none]) (O1 := O) (by
    simp [gen_len])]
  rw [seq_nx (Γ1 := [some (wM (gen n n A)), some (.d (.int (n : Int))), some (wM (gen n (n + n) (aug n A))), none, none, none, none]) (O1 := O) (by rw [e_Set, hboth]; rfl)]
  rw [seq_nx (Γ1 := [some (wM (gen n n A)), some (.d (.int (n : Int))), some (wM (gen n (n + n) (aug n A))), some (wM (gen s.done (n + n) s.f)), some (.d (.list (s.pl.map fun c : Nat => PyData.int (c : Int)))), none, none]) (O1 := O) (by
    generalize wM (gen n n A) = u at *
    generalize wM (gen n (n + n) (aug n A)) = v at *
    unfold stpsD at hst
    simp [hst])]
  have hcmp := uNe_nats (P := O) (l := s.pl.take n) (m := List.range n)
  have hsl := uSl_to (P := O) (xs := s.pl.map fun c : Nat => PyData.int (c : Int)) (k := n)
  rw [← List.map_take] at hsl
  have hrg : rgD (n : Int) = (List.range n).map fun k : Nat => PyData.int (k : Int) := by unfold rgD; rw [Int.toNat_natCast]
  unfold minvW
  cases e : invG n n 0 (aug n A) with
  | none =>
    have hne := hinv.2 e
    rw [decide_eq_false hne] at hcmp
    have hif : vIf (vTst (vOp uNe (vSl uSl (vV 4) vNoP (vPart (vV 1))) (vListR (vV 1)))) (vRet (vC .none)) vNext [some (wM (gen n n A)), some (.d (.int (n : Int))), some (wM (gen n (n + n) (aug n A))), some (wM (gen s.done (n + n) s.f)), some (.d (.list (s.pl.map fun c : Nat => PyData.int (c : Int)))), none, none] O = .rt (.d .none) O := by
      generalize wM (gen n n A) = u at *
      generalize wM (gen n (n + n) (aug n A)) = v at *
      generalize wM (gen s.done (n + n) s.f) = w at *
      simp only [e_If, e_Tst, e_Op, e_Sl, e_V, e_NoP, e_Part, e_listR, e_Ret, e_C, List.getElem?_cons_succ, List.getElem?_cons_zero, R.bind_ok, hsl, R.ofO_some, sL, if_true, hrg, hcmp, Bool.not_false, bB_ok, R.toS_ok]
    rw [seq_rt hif]
    exact fin_d
  | some g =>
    have hs := hinv.1 g e
    subst hs
    rw [show (List.range n).take n = List.range n by rw [List.take_of_length_le]; rw [List.length_range]; exact Nat.le_refl _] at hcmp hsl
    rw [decide_eq_true rfl] at hcmp
    have hif : vIf (vTst (vOp uNe (vSl uSl (vV 4) vNoP (vPart (vV 1))) (vListR (vV 1)))) (vRet (vC .none)) vNext [some (wM (gen n n A)), some (.d (.int (n : Int))), some (wM (gen n (n + n) (aug n A))), some (wM (gen n (n + n) g)), some (.d (.list ((List.range n).map fun c : Nat => PyData.int (c : Int)))), none, none] O = .nx [some (wM (gen n n A)), some (.d (.int (n : Int))), some (wM (gen n (n + n) (aug n A))), some (wM (gen n (n + n) g)), some (.d (.list ((List.range n).map fun c : Nat => PyData.int (c : Int)))), none, none] O := by
      generalize wM (gen n n A) = u at *
      generalize wM (gen n (n + n) (aug n A)) = v at *
      generalize wM (gen n (n + n) g) = w at *
      simp only [e_If, e_Tst, e_Op, e_Sl, e_V, e_NoP, e_Part, e_listR, e_Ret, e_C, List.getElem?_cons_succ, List.getElem?_cons_zero, R.bind_ok, hsl, R.ofO_some, sL, if_true, hrg, hcmp, Bool.not_true, bB_ok, R.toS_ok, Bool.false_eq_true, if_false, e_Next]
    rw [seq_nx hif, e_Ret, cut_data (by omega) rfl rfl (by simp) (by decide) rfl]
    exact fin_d
theorem r_law_told {A : Fm} (hs : RB (aug n A) n (n + n) c) (hc : (c + 1) * 2 ^ n * 3 ≤ 9000) (hn : n ≤ 1000) : sem_law_told [wM (gen n n A)] O = .ok (minvW n (aug n A)) O := by
  have e := r_inverse_of (O := O) hs hc hn
  unfold sem_law_told t_law_told minvW
  unfold invR at e
  cases h : invG n n 0 (aug n A) with
  | none =>
    rw [h] at e
    dsimp only at e ⊢
    generalize wM (gen n n A) = u at *
    simp [vTry, e, xName]
  | some g =>
    rw [h] at e
    dsimp only at e ⊢
    generalize wM (gen n n A) = u at *
    simp [vTry, e]
end
/-! ### the program's determinant -/
section
variable {O X : List Ob} {p q i j n c : Nat} {f : Fm}
/-- after t turns of the inner loop -/
def dtT (g : Fm) (a t : Nat) : Fm := fun k j => if a < k ∧ k < a + 1 + t then g k j - g k a / g a a * g a j else g k j
theorem dtT_0 {g : Fm} {a : Nat} : dtT g a 0 = g := by funext k j; unfold dtT; rw [if_neg (by omega)]
theorem dtT_a {g : Fm} {a t : Nat} : dtT g a t a = g a := by funext j; unfold dtT; rw [if_neg (by omega)]
theorem dtT_ge {g : Fm} {a t k : Nat} (h : a + 1 + t ≤ k) : dtT g a t k = g k := by funext j; unfold dtT; rw [if_neg (by omega)]
theorem dtT_succ {g : Fm} {a t : Nat} : upd (dtT g a t) (a + 1 + t) (fun j => g (a + 1 + t) j - g (a + 1 + t) a / g a a * g a j) = dtT g a (t + 1) := by
  funext k j
  unfold UZ.upd dtT
  by_cases e : k = a + 1 + t
  · subst e
    rw [if_pos rfl, if_pos (by omega)]
  · rw [if_neg e]
    by_cases l : a < k ∧ k < a + 1 + t
    · rw [if_pos l, if_pos (by omega)]
    · rw [if_neg l, if_neg (by omega)]
theorem dtT_same {g : Fm} {a t : Nat} (h : g (a + 1 + t) a = 0) : dtT g a (t + 1) = dtT g a t := by
  rw [← dtT_succ]
  funext k j
  unfold UZ.upd
  by_cases e : k = a + 1 + t
  · rw [if_pos e, e, dtT_ge (Nat.le_refl _), h]; grind
  · rw [if_neg e]
theorem det_inner {g : Fm} {a : Nat} {w : W} {w2 w4 w6 : Option W} (hs : RB g n q c) (hc : 4 * c ≤ 9000) (g0 : g a a ≠ 0) (ha : a < n) (haq : a < q) (hn : n ≤ 1000000) (hq : q ≤ 1000000) :
    forV (hNm 5) b_determinant_1 [] (((List.range (n - (a + 1))).map (a + 1 + ·)).map fun k : Nat => W.d (.int (k : Int))) [some w, some (.o O.length), w2, some (.d (.int (a : Int))), w4, none, w6] (eO O n q g X)
      = .nx [some w, some (.o O.length), w2, some (.d (.int (a : Int))), w4, none, w6] (eO O n q (dtT g a (n - (a + 1))) X) := by
  have lp := (forV_foldI (g := hNm 5) (b := b_determinant_1) (chk := []) (fun k : Nat => W.d (.int ((a + 1 + k : Nat) : Int))) (fun _ : Nat => [some w, some (.o O.length), w2, some (.d (.int (a : Int))), w4, none, w6]) (fun t => eO O n q (dtT g a t) X) (fun t _ => t + 1) (fun t s => s = t) (fun _ _ _ => chkOf_nil.mpr trivial) (List.range (n - (a + 1))) 0 0 rfl (fun i t k hx hI => by
    have hI : t = i := by omega
    subst hI
    have hi := (List.getElem?_eq_some_iff.mp hx).1
    rw [List.length_range] at hi
    rw [List.getElem?_range hi] at hx
    injection hx with hx
    subst hx
    refine ⟨by omega, .inl ?_⟩
    have hk : a + 1 + t < n := by omega
    have hge := dtT_ge (g := g) (a := a) (t := t) (k := a + 1 + t) (Nat.le_refl _)
    have hsu := dtT_succ (g := g) (a := a) (t := t)
    have hsa := dtT_same (g := g) (a := a) (t := t)
    have hka : a < a + 1 + t := by omega
    generalize a + 1 + t = k at *
    have e1 := ix_E (O := O) (q := q) (f := dtT g a t) (X := X) hk
    have e2 := ix_E (O := O) (q := q) (f := dtT g a t) (X := X) ha
    rw [hge] at e1
    rw [dtT_a] at e2
    have e3 := ix_row (P := eO O n q (dtT g a t) X) (g := g k) haq
    have e3' := ix_row (P := eO O n q (dtT g a t) X) (g := g a) haq
    have t1 := r_over (O := eO O n q (dtT g a t) X) (sz_of_RB hs hk haq) (sz_of_RB hs ha haq) (by omega) g0
    have e4 := r_less (O := eO O n q (dtT g a t) X) (g := g k) (h := g a) (k := g k a / g a a) (fun j hj => sz_of_RB hs hk hj) (sz_div (sz_of_RB hs hk haq) (sz_of_RB hs ha haq) g0) (fun j hj => sz_of_RB hs ha hj) (by omega) hq
    have e5 := set_E (O := O) (q := q) (f := dtT g a t) (X := X) hk (fun j => g k j - g k a / g a a * g a j)
    by_cases z2 : g k a = 0
    · rw [hsa z2]
      generalize eO O n q (dtT g a t) X = P at *
      generalize W.d (dRow (rowf q (g k))) = A at *
      simp [stepV, b_determinant_1, e1, e3, z2]
    · have z3 : ¬ (g k a).num = 0 := fun h => z2 (num0.mp h)
      rw [hsu] at e5
      generalize eO O n q (dtT g a t) X = P at *
      generalize eO O n q (dtT g a (t + 1)) X = P2 at *
      generalize W.d (dRow (rowf q (g k))) = A at *
      generalize W.d (dRow (rowf q (g a))) = B at *
      generalize W.d (dRow (rowf q fun j => g k j - g k a / g a a * g a j)) = C at *
      simp [stepV, b_determinant_1, e1, e2, e3, e3', z3, t1, e4, e5])).1
  rw [dtT_0] at lp
  rw [List.map_map]
  rw [show ((fun k : Nat => W.d (.int (k : Int))) ∘ (a + 1 + ·)) = fun k : Nat => W.d (.int ((a + 1 + k : Nat) : Int)) from rfl, lp]
  have : ∀ (l : List Nat) (t : Nat), l.foldl (fun t _ => t + 1) t = t + l.length := fun l => by
    induction l with
    | nil => intro t; rfl
    | cons x l ih => intro t; rw [List.foldl_cons, ih, List.length_cons]; omega
  rw [this, List.length_range, Nat.zero_add]
theorem dtT_dstp {g : Fm} {a pl : Nat} : ∀ k j, k < n → j < q → dtT (sw g a pl) a (n - (a + 1)) k j = dstp g a pl k j := fun k j hk hj => by
  unfold dtT dstp
  by_cases h : a < k
  · rw [if_pos ⟨h, by omega⟩, if_pos h, stp_eq (by omega)]; grind
  · rw [if_neg (by omega), if_neg h]
def detΓ (w : W) (O : List Ob) (acc : Rat) : Gm := [some w, some (.o O.length), some (wR acc), none, none, none, none]
theorem det_none {a : Nat} {w : W} {g : Fm} {acc : Rat} (ha : a < n) (haq : a < q) (hn : n ≤ 1000000) (e : piv n g a a = none) :
    stepV (hNm 3) b_determinant_2 (.d (.int (a : Int))) (detΓ w O acc) (eO O n q g X) = .rt (wR 0) (eO O n q g X) := by
  have ep := r_pivot_of (O := O) (p := n) (f := g) (X := X) haq hn (by omega)
  rw [e] at ep
  show (stepV (hNm 3) (vWipe [3, 4, 5] (vSeq _ _)) _ _ _) = _
  unfold detΓ
  simp only [stepV, e_hNm, e_Wipe, List.set_cons_succ, List.set_cons_zero]
  rw [seq_nx (Γ1 := [some w, some (.o O.length), some (wR acc), some (.d (.int (a : Int))), some (.d .none), none, none]) (O1 := eO O n q g X) (by
    generalize eO O n q g X = P at *
    simp [ep, optW])]
  rw [seq_rt (w := wR 0) (O1 := eO O n q g X) (by simp [dR_0])]
  rfl
theorem det_some {a pl b : Nat} {w : W} {g : Fm} {acc : Rat} (hs : RB g n q c) (hb : sz acc b) (hbc : b + c + 2 ≤ 8000) (hc : 4 * c ≤ 9000) (ha : a < n) (haq : a < q) (hn : n ≤ 1000000) (hq : q ≤ 1000000) (e : piv n g a a = some pl) :
    stepV (hNm 3) b_determinant_2 (.d (.int (a : Int))) (detΓ w O acc) (eO O n q g X) = .nx (detΓ w O ((if pl = a then acc else -1 * acc) * sw g a pl a a)) (eO O n q (dstp g a pl) X) := by
  obtain ⟨p1, p2, p3⟩ := piv_some e
  have ep := r_pivot_of (O := O) (p := n) (f := g) (X := X) haq hn (by omega)
  rw [e] at ep
  have hg : RB (sw g a pl) n q c := hs.sw ha p2
  have g0 : sw g a pl a a ≠ 0 := by unfold UZ.sw; rw [if_pos rfl]; exact p3
  have inner := det_inner (O := O) (X := X) (w := w) (w2 := some (wR ((if pl = a then acc else -1 * acc) * sw g a pl a a))) (w4 := some (.d (.int (pl : Int)))) (w6 := none) hg hc g0 ha haq hn hq
  rw [eO_congr dtT_dstp, ← rng_nat] at inner
  show (stepV (hNm 3) (vWipe [3, 4, 5] (vSeq _ _)) _ _ _) = _
  unfold detΓ
  simp only [stepV, e_hNm, e_Wipe, List.set_cons_succ, List.set_cons_zero]
  rw [seq_nx (Γ1 := [some w, some (.o O.length), some (wR acc), some (.d (.int (a : Int))), some (.d (.int (pl : Int))), none, none]) (O1 := eO O n q g X) (by
    generalize eO O n q g X = P at *
    simp [ep, optW])]
  rw [seq_nx (Γ1 := [some w, some (.o O.length), some (wR acc), some (.d (.int (a : Int))), some (.d (.int (pl : Int))), none, none]) (O1 := eO O n q g X) (by simp)]
  have hb1 : sz (if pl = a then acc else -1 * acc) b := by
    split
    · exact hb
    · have : -1 * acc = -acc := by grind
      rw [this]; exact sz_neg hb
  have hsw : ∀ u : VS, (∀ Γ, Γ[1]? = some (some (.o O.length)) → Γ[3]? = some (some (.d (.int (a : Int)))) → Γ[4]? = some (some (.d (.int (pl : Int)))) → u Γ (eO O n q g X) = .nx Γ (eO O n q (sw g a pl) X)) →
      vIf (vTst (vOp uNe (vV 4) (vV 3))) (vSeq u (vSet 2 (vCall 2 sem_times (vCons (vTup (vCons (vUn uNeg (vC (.int 1))) (vCons (vC (.int 1)) vNil))) (vCons (vV 2) vNil))))) vNext [some w, some (.o O.length), some (wR acc), some (.d (.int (a : Int))), some (.d (.int (pl : Int))), none, none] (eO O n q g X)
      = .nx [some w, some (.o O.length), some (wR (if pl = a then acc else -1 * acc)), some (.d (.int (a : Int))), some (.d (.int (pl : Int))), none, none] (eO O n q (sw g a pl) X) := fun u hu => by
    by_cases z : pl = a
    · subst z
      rw [if_pos rfl]
      have : eO O n q g X = eO O n q (sw g pl pl) X := eO_congr fun k j _ _ => by
        unfold UZ.sw
        by_cases e1 : k = pl
        · rw [if_pos e1, e1]
        · rw [if_neg e1, if_neg e1]
      rw [← this]
      generalize eO O n q g X = P at *
      simp
    · rw [if_neg z]
      have z1 : ¬ ((pl : Int) = (a : Int)) := by omega
      have t1 := r_times (O := eO O n q (sw g a pl) X) (a := -1) (b := acc) (n := 1) (m := b) (sz_neg (sz_1 (by decide))) hb (by omega)
      have hu' := hu [some w, some (.o O.length), some (wR acc), some (.d (.int (a : Int))), some (.d (.int (pl : Int))), none, none] rfl rfl rfl
      have em : (W.d (.tuple [.int (-1), .int 1])) = wR (-1) := rfl
      generalize eO O n q (sw g a pl) X = P2 at *
      generalize eO O n q g X = P at *
      simp [z1, hu', em, t1]
  rw [seq_nx (hsw _ fun Γ h1 h2 h3 => swap_E (r := none) (v := 1) (k := 3) ha p2 h1 h2 h3)]
  have t2 := r_times (O := eO O n q (sw g a pl) X) hb1 (sz_of_RB hg ha haq) (by omega)
  rw [seq_nx (Γ1 := [some w, some (.o O.length), some (wR ((if pl = a then acc else -1 * acc) * sw g a pl a a)), some (.d (.int (a : Int))), some (.d (.int (pl : Int))), none, none]) (O1 := eO O n q (sw g a pl) X) (by
    have x1 := ix_E (O := O) (q := q) (f := sw g a pl) (X := X) ha
    have x2 := ix_row (P := eO O n q (sw g a pl) X) (g := sw g a pl a) haq
    generalize W.d (dRow (rowf q (sw g a pl a))) = A at *
    generalize (if pl = a then acc else -1 * acc) = y at *
    generalize eO O n q (sw g a pl) X = P at *
    simp [x1, x2, t2])]
  show (SR.wipe (SR.wipe _ [5]) [3, 4, 5]) = _
  have e3 := len_E (O := O) (p := n) (q := q) (f := sw g a pl) (X := X)
  have s1 : smI (n : Int) := smI_nat (by omega)
  have s2 : smI ((a + 1 : Nat) : Int) := smI_nat (by omega)
  have e4 : ((n : Int) - ((a + 1 : Nat) : Int)).toNat = n - (a + 1) := Int.toNat_sub n (a + 1)
  have inner2 : ∀ Γ, Γ[1]? = some (some (.o O.length)) → Γ[3]? = some (some (.d (.int (a : Int)))) → vFor (iR2 (vOp uAdd (vV 3) (vC (.int 1))) (vCB uLen (vCons (vV 1) vNil))) (hNm 5) b_determinant_1 Γ (eO O n q (sw g a pl) X) = forV (hNm 5) b_determinant_1 [] (rng ((a + 1 : Nat) : Int) (n - (a + 1))) Γ (eO O n q (sw g a pl) X) := fun Γ h1 h3 => by
    rw [e_For]
    have : iR2 (vOp uAdd (vV 3) (vC (.int 1))) (vCB uLen (vCons (vV 1) vNil)) Γ (eO O n q (sw g a pl) X) = .ok (rng ((a + 1 : Nat) : Int) (n - (a + 1)), []) (eO O n q (sw g a pl) X) := by
      have ha1 : (a : Int) + 1 = ((a + 1 : Nat) : Int) := by omega
      simp only [e_iR2, e_Op, e_V, e_C, e_CB, e_Cons, e_Nil, h1, h3, R.bind_ok, uAdd_i, R.ofO_some, e3, ha1, s1, s2, and_self, if_true, e4]
    rw [this]; rfl
  rw [inner2 _ rfl rfl, inner]
  rfl
theorem det_loop {w : W} (hn : n ≤ 1000000) (hq : q ≤ 1000000) (hnq : n ≤ q) : ∀ (r a c b : Nat) (g : Fm) (acc : Rat), a + r = n → RB g n q c → sz acc b → b + (c + 1) * 2 ^ r ≤ 2200 + c →
    ∃ u B, (forV (hNm 3) b_determinant_2 [] ((List.range' a r).map fun k : Nat => W.d (.int (k : Int))) (detΓ w O acc) (eO O n q g X) = .nx (detΓ w O (detG n r a g acc)) (eO O n q u X) ∨ forV (hNm 3) b_determinant_2 [] ((List.range' a r).map fun k : Nat => W.d (.int (k : Int))) (detΓ w O acc) (eO O n q g X) = .rt (wR (detG n r a g acc)) (eO O n q u X)) ∧ sz (detG n r a g acc) B ∧ B ≤ 5000
  | 0, a, c, b, g, acc, h, hs, hb, hc => by
    unfold detG
    refine ⟨g, b, .inl forV_nil0, hb, ?_⟩
    rw [Nat.pow_zero, Nat.mul_one] at hc
    omega
  | r + 1, a, c, b, g, acc, h, hs, hb, hc => by
    have h2 : (2 * c + 1 + 1) * 2 ^ r = (c + 1) * 2 ^ (r + 1) := by rw [Nat.pow_succ, show 2 * c + 1 + 1 = (c + 1) * 2 by omega, Nat.mul_assoc, Nat.mul_comm 2]
    have h3 : 2 * c + 2 ≤ (c + 1) * 2 ^ (r + 1) := by
      rw [← h2]; exact Nat.le_mul_of_pos_right _ (Nat.two_pow_pos r)
    rw [List.range'_succ, List.map_cons]
    unfold detG
    cases e : piv n g a a with
    | none =>
      have e1 := det_none (O := O) (X := X) (w := w) (acc := acc) (g := g) (by omega : a < n) (by omega : a < q) hn e
      refine ⟨g, 1, .inr ?_, sz_0 (by decide), by decide⟩
      rw [forV_step (chkOf_nil.mpr trivial), e1]; rfl
    | some pl =>
      obtain ⟨p1, p2, p3⟩ := piv_some e
      have e1 := det_some (O := O) (X := X) (w := w) (acc := acc) hs hb (by omega) (by omega) (by omega : a < n) (by omega : a < q) hn hq e
      have hg : RB (sw g a pl) n q c := hs.sw (by omega) p2
      have hb1 : sz (if pl = a then acc else -1 * acc) b := by
        split
        · exact hb
        · have : -1 * acc = -acc := by grind
          rw [this]; exact sz_neg hb
      have ih := det_loop (w := w) hn hq hnq r (a + 1) (2 * c + 1) (b + c) (dstp g a pl) _ (by omega) (hs.dstp (by omega) p2 (by omega) p3) (sz_mul hb1 (sz_of_RB hg (by omega : a < n) (by omega : a < q))) (by rw [h2]; omega)
      have e2 : forV (hNm 3) b_determinant_2 [] (W.d (.int (a : Int)) :: (List.range' (a + 1) r).map fun k : Nat => W.d (.int (k : Int))) (detΓ w O acc) (eO O n q g X) = forV (hNm 3) b_determinant_2 [] ((List.range' (a + 1) r).map fun k : Nat => W.d (.int (k : Int))) (detΓ w O ((if pl = a then acc else -1 * acc) * sw g a pl a a)) (eO O n q (dstp g a pl) X) := by
        rw [forV_step (chkOf_nil.mpr trivial), e1]; rfl
      rw [e2]
      exact ih
/-- determinant is the determinant along rows -/
theorem r_determinant {A : Fm} (hs : RB A n n c) (hc : 1 + (c + 1) * 2 ^ n ≤ 2200 + c) (hn : n ≤ 1000) : sem_determinant [wM (gen n n A)] O = .ok (wR (detG n n 0 A 1)) O ∧ ∃ B, sz (detG n n 0 A 1) B ∧ B ≤ 5000 := by
  obtain ⟨u, B, hl, hB, hB2⟩ := det_loop (O := O) (X := []) (w := wM (gen n n A)) (by omega : n ≤ 1000000) (by omega : n ≤ 1000000) (Nat.le_refl n) n 0 c 1 A 1 (by omega) hs (sz_1 (by decide)) hc
  refine ⟨?_, B, hB, hB2⟩
  rw [← List.range_eq_range', ← rng_0] at hl
  have h1 : vLcO (iSq (vV 0)) (.one 6) vYes (vCB uList (vCons (vV 6) vNil)) [6] [some (wM (gen n n A)), none, none, none, none, none, none] O = .ok (.o O.length) (eO O n n A []) :=
    lcO_map (List.range n) (fun i => W.d (dRow (rowf n (A i)))) (fun i => W.d (dRow (rowf n (A i)))) (chk := []) (by
      simp [gen, List.map_map, Function.comp_def]) (chkOf_nil.mpr trivial) (by rw [List.length_range]; omega) fun i _ => by
      have u : uList [.d (dRow (rowf n (A i)))] O = some (.d (dRow (rowf n (A i))), O) := by
        show some (mkL (((rowf n (A i)).map dR).map W.d) O) = _
        rw [mkL_m]
      generalize dRow (rowf n (A i)) = x at *
      simp [u]
  have e3 := len_E (O := O) (p := n) (q := n) (f := A) (X := [])
  have s1 : smI (n : Int) := smI_nat (by omega)
  unfold sem_determinant t_determinant
  simp only [e_fnV, e_start, N_determinant, List.length_cons, List.length_nil, List.map_cons, List.map_nil, List.replicate, List.cons_append, List.nil_append, Nat.reduceAdd, Nat.reduceSub]
  rw [seq_nx (Γ1 := [some (wM (gen n n A)), some (.o O.length), none, none, none, none, none]) (O1 := eO O n n A []) (by rw [e_Set, h1]; rfl)]
  rw [seq_nx (Γ1 := detΓ (wM (gen n n A)) O 1) (O1 := eO O n n A []) (by
    generalize eO O n n A [] = P at *
    unfold detΓ
    simp [dR_1])]
  have hloop : vWipe [3, 4, 5] (vFor (iR1 (vCB uLen (vCons (vV 1) vNil))) (hNm 3) b_determinant_2) (detΓ (wM (gen n n A)) O 1) (eO O n n A []) = (forV (hNm 3) b_determinant_2 [] (rng 0 n) (detΓ (wM (gen n n A)) O 1) (eO O n n A [])).wipe [3, 4, 5] := by
    rw [e_Wipe, e_For]
    have : iR1 (vCB uLen (vCons (vV 1) vNil)) (detΓ (wM (gen n n A)) O 1) (eO O n n A []) = .ok (rng 0 n, []) (eO O n n A []) := by
      unfold detΓ
      generalize eO O n n A [] = P at *
      simp [e3, s1]
    rw [this]; rfl
  generalize detG n n 0 A 1 = y at *
  rcases hl with hl | hl
  · rw [seq_nx (Γ1 := detΓ (wM (gen n n A)) O y) (O1 := eO O n n u []) (by rw [hloop, hl]; rfl)]
    have : vRet (vV 2) (detΓ (wM (gen n n A)) O y) (eO O n n u []) = .rt (wR y) (eO O n n u []) := by
      unfold detΓ
      simp
    rw [this]
    exact fin_E
  · rw [seq_rt (w := wR y) (O1 := eO O n n u []) (by rw [hloop, hl]; rfl)]
    exact fin_E
end
/-! ### the law's determinant: along the first row -/
section
variable {O X : List Ob} {p q i j n c : Nat} {f : Fm}
theorem rowf_get {g : Nat → Rat} {j : Nat} (h : j < q) : (rowf q g)[j]? = some (g j) := by
  unfold rowf; rw [List.getElem?_map, List.getElem?_range h]; rfl
theorem rowf_skip {g : Nat → Rat} {k : Nat} (h : k ≤ n) : (rowf (n + 1) g).take k ++ (rowf (n + 1) g).drop (k + 1) = rowf n fun j => g (skip k j) := by
  apply List.ext_getElem?
  intro j
  have hl : ((rowf (n + 1) g).take k).length = k := by rw [List.length_take, List.length_map, List.length_range]; omega
  by_cases hj : j < k
  · rw [List.getElem?_append_left (by omega), List.getElem?_take, if_pos hj, rowf_get (by omega), rowf_get (by omega)]
    unfold skip; rw [if_pos hj]
  · rw [List.getElem?_append_right (by omega), hl, List.getElem?_drop]
    by_cases hn : j < n
    · rw [rowf_get (by omega), rowf_get hn]
      unfold skip
      rw [if_neg hj, show k + 1 + (j - k) = j + 1 by omega]
    · rw [List.getElem?_eq_none (by rw [List.length_map, List.length_range]; omega), List.getElem?_eq_none (by rw [List.length_map, List.length_range]; omega)]
/-- bits of a determinant -/
def dbn (s : Nat) : Nat → Nat
  | 0 => 1
  | n + 1 => (n + 1) * (s + dbn s n + 1) + 1
theorem dbn_mono {s : Nat} : ∀ {n m : Nat}, n ≤ m → dbn s n ≤ dbn s m := by
  intro n m h
  induction m with
  | zero => have : n = 0 := by omega
            subst this; exact Nat.le_refl _
  | succ m ih =>
    by_cases e : n = m + 1
    · subst e; exact Nat.le_refl _
    · have h1 := ih (by omega)
      have h2 : s + dbn s m + 1 ≤ (m + 1) * (s + dbn s m + 1) := Nat.le_mul_of_pos_left _ (by omega)
      show _ ≤ (m + 1) * (s + dbn s m + 1) + 1
      omega
theorem sg_val {k : Nat} : sg k = if k % 2 = 1 then -1 else 1 := rfl
theorem r_law_det {s : Nat} : ∀ (n m : Nat) (A : Fm) (O : List Ob), n ≤ m → (∀ k j, k < n → j < n → sz (A k j) s) → dbn s n ≤ 8000 → n ≤ 1000 → s ≤ 1000 → sem_law_det (m + 1) [wM (gen n n A)] O = .ok (wR (det n A)) O ∧ sz (det n A) (dbn s n)
  | 0, m, A, O, hm, hs, hd, hn, hs2 => by
    refine ⟨?_, sz_1 (n := 1) (by decide)⟩
    have e0 : uEq (wM (gen 0 0 A)) (.d (.list [])) O = some (.d (.bool true), O) := uEqN_d (r := true) (show eqD (.list []) (.list []) = some true by decide +kernel)
    show fnV N_law_det (t_law_det (sem_law_det m)) _ O = _
    unfold t_law_det
    simp only [e_fnV, e_start, N_law_det, List.length_cons, List.length_nil, List.map_cons, List.map_nil, List.replicate, List.cons_append, List.nil_append, Nat.reduceAdd, Nat.reduceSub]
    rw [seq_rt (w := wR 1) (O1 := O) (by
      generalize wM (gen 0 0 A) = a at *
      simp [e0, dR_1])]
    exact fin_d
  | n + 1, m, A, O, hm, hs, hd, hn, hs2 => by
    obtain ⟨m', rfl⟩ : ∃ m', m = m' + 1 := ⟨m - 1, by omega⟩
    have hdn : dbn s (n + 1) = (n + 1) * (s + dbn s n + 1) + 1 := rfl
    have hmul : s + dbn s n + 1 ≤ (n + 1) * (s + dbn s n + 1) := Nat.le_mul_of_pos_left _ (by omega)
    have hin : ∀ k, k < n + 1 → ∀ O, sem_law_det (m' + 1) [wM (gen n n fun i j => A (i + 1) (skip k j))] O = .ok (wR (det n fun i j => A (i + 1) (skip k j))) O ∧ sz (det n fun i j => A (i + 1) (skip k j)) (dbn s n) := fun k hk O =>
      r_law_det n m' _ O (by omega) (fun i j hi hj => hs (i + 1) (skip k j) (by omega) (by unfold skip; split <;> omega)) (by omega) (by omega) hs2
    let T : Nat → Rat := fun k => sg k * A 0 k * det n fun i j => A (i + 1) (skip k j)
    have hT : ∀ k, k < n + 1 → sz (T k) (s + dbn s n) := fun k hk => by
      have h1 := sz_mul (hs 0 k (by omega) hk) (hin k hk O).2
      show sz (sg k * A 0 k * _) _
      rw [sg_val]
      split
      · have : -1 * A 0 k * det n (fun i j => A (i + 1) (skip k j)) = -(A 0 k * det n fun i j => A (i + 1) (skip k j)) := by grind
        rw [this]; exact sz_neg h1
      · have : 1 * A 0 k * det n (fun i j => A (i + 1) (skip k j)) = A 0 k * det n fun i j => A (i + 1) (skip k j) := by grind
        rw [this]; exact h1
    have hS : ∀ t, t ≤ n + 1 → sz (sumN t T) (t * (s + dbn s n + 1) + 1) := fun t => by
      induction t with
      | zero => intro _; exact sz_0 (by omega)
      | succ t ih =>
        intro ht
        have := sz_add (ih (by omega)) (hT t (by omega))
        refine this.mono ?_
        rw [Nat.add_mul, Nat.one_mul]; omega
    refine ⟨?_, hS (n + 1) (Nat.le_refl _)⟩
    have s1 : smI ((n + 1 : Nat) : Int) := smI_nat (by omega)
    have hbound : ∀ t, t ≤ n + 1 → t * (s + dbn s n + 1) ≤ (n + 1) * (s + dbn s n + 1) := fun t ht => Nat.mul_le_mul_right _ ht
    have lp := (forV_foldI (g := hNm 2) (b := b_law_det_1 (sem_law_det (m' + 1))) (chk := []) (fun k : Nat => W.d (.int (k : Int))) (fun t : Nat => [some (wM (gen (n + 1) (n + 1) A)), some (wR (sumN t T)), none, none, none, none]) (fun _ => O) (fun t _ => t + 1) (fun t s => s = t) (fun _ _ _ => chkOf_nil.mpr trivial) (List.range (n + 1)) 0 0 rfl (fun i t k hx hI => by
      have hI : t = i := by omega
      subst hI
      have hi := (List.getElem?_eq_some_iff.mp hx).1
      rw [List.length_range] at hi
      rw [List.getElem?_range hi] at hx
      injection hx with hx
      subst hx
      refine ⟨by omega, .inl ?_⟩
      have hinner : vLc (iSq (vSl uSl (vV 0) (vPart (vC (.int 1))) vNoP)) (.one 5) vYes (vOp uAdd (vSl uSl (vV 5) vNoP (vPart (vV 2))) (vSl uSl (vV 5) (vPart (vOp uAdd (vV 2) (vC (.int 1)))) vNoP)) [5] [some (wM (gen (n + 1) (n + 1) A)), some (wR (sumN t T)), some (.d (.int (t : Int))), none, none, none] O
          = .ok (wM (gen n n fun i j => A (i + 1) (skip t j))) O := by
        have e1 := uSl_from (P := O) (xs := (gen (n + 1) (n + 1) A).map dRow) (k := 1)
        have e2 : ((gen (n + 1) (n + 1) A).map dRow).drop 1 = (List.range n).map fun i => dRow (rowf (n + 1) (A (i + 1))) := by
          have hF : ∀ F : Nat → PyData, ((List.range (n + 1)).map F).drop 1 = (List.range n).map fun i => F (i + 1) := fun F => by
            rw [List.range_succ_eq_map, List.map_cons, List.drop_one, List.tail_cons, List.map_map]; rfl
          unfold gen
          rw [List.map_map, hF]; rfl
        rw [e2] at e1
        have h := lc_map (it := iSq (vSl uSl (vV 0) (vPart (vC (.int 1))) vNoP)) (g := .one 5) (tt := vYes) (te := vOp uAdd (vSl uSl (vV 5) vNoP (vPart (vV 2))) (vSl uSl (vV 5) (vPart (vOp uAdd (vV 2) (vC (.int 1)))) vNoP)) (us := [5]) (Γ := [some (wM (gen (n + 1) (n + 1) A)), some (wR (sumN t T)), some (.d (.int (t : Int))), none, none, none]) (O := O) (O1 := O) (chk := []) (List.range n) (fun i => W.d (dRow (rowf (n + 1) (A (i + 1))))) (fun i => dRow (rowf n fun j => A (i + 1) (skip t j))) (by
          change uSl (wM (gen (n + 1) (n + 1) A)) (some 1) none O = _ at e1
          generalize wM (gen (n + 1) (n + 1) A) = a at *
          simp [e1, List.map_map, Function.comp_def]) (chkOf_nil.mpr trivial) (by rw [List.length_range]; omega) fun i hi => by
          have f1 := uSl_to (P := O) (xs := (rowf (n + 1) (A (i + 1))).map dR) (k := t)
          have f2 := uSl_from (P := O) (xs := (rowf (n + 1) (A (i + 1))).map dR) (k := t + 1)
          rw [← List.map_take] at f1
          rw [← List.map_drop] at f2
          have f3 := uAdd_l (O := O) (xs := ((rowf (n + 1) (A (i + 1))).take t).map dR) (ys := ((rowf (n + 1) (A (i + 1))).drop (t + 1)).map dR) (by simp; omega)
          rw [← List.map_append, rowf_skip (by omega)] at f3
          have ht1 : (t : Int) + 1 = ((t + 1 : Nat) : Int) := by omega
          generalize PyData.list (((rowf (n + 1) (A (i + 1))).take t).map dR) = a at *
          generalize PyData.list (((rowf (n + 1) (A (i + 1))).drop (t + 1)).map dR) = b at *
          change uSl (W.d (dRow (rowf (n + 1) (A (i + 1))))) _ _ _ = _ at f1 f2
          change _ = some (W.d (dRow _), _) at f3
          generalize dRow (rowf (n + 1) (A (i + 1))) = d at *
          generalize dRow (rowf n fun j => A (i + 1) (skip t j)) = e at *
          simp only [e_lcF, e_tgOne, e_Yes, R.calm_ok, R.bind_ok, if_true, e_Op, e_Sl, e_V, e_NoP, e_Part, e_C, e_wipe1, e_wipe0, List.set_cons_succ, List.set_cons_zero, List.getElem?_cons_succ, List.getElem?_cons_zero, uAdd_i, R.ofO_some, ht1, f1, f2, f3]
        rw [h]
        unfold gen
        rw [wM, dM, List.map_map]; rfl
      have a1 := gen_at (P := O) (p := n + 1) (q := n + 1) (f := A) (k := 0) (by omega)
      have a2 := ix_row (P := O) (q := n + 1) (g := A 0) hi
      have hd1 := (hin t hi O).1
      have hd2 := (hin t hi O).2
      have t1 := r_law_mul (O := O) (hs 0 t (by omega) hi) hd2 (by omega)
      have hS1 := hS t (by omega)
      have hb1 := hbound (t + 1) (by omega)
      rw [Nat.add_mul, Nat.one_mul] at hb1
      have hTt : sz (A 0 t * det n fun i j => A (i + 1) (skip t j)) (s + dbn s n) := sz_mul (hs 0 t (by omega) hi) hd2
      have t2 := r_law_sub (O := O) hS1 hTt (by omega)
      have t3 := r_law_add (O := O) hS1 hTt (by omega)
      have hsum : sumN (t + 1) T = if t % 2 = 1 then sumN t T - A 0 t * det n (fun i j => A (i + 1) (skip t j)) else sumN t T + A 0 t * det n (fun i j => A (i + 1) (skip t j)) := by
        show sumN t T + sg t * A 0 t * det n (fun i j => A (i + 1) (skip t j)) = _
        rw [sg_val]
        split <;> grind
      have hm2 : uMod (.d (.int (t : Int))) (.d (.int 2)) O = some (.d (.int ((t % 2 : Nat) : Int)), O) := by
        rw [uMod_i (by decide)]
        rw [show ((2 : Int)) = ((2 : Nat) : Int) from rfl, fmod_nat]
      have hpar : (((t % 2 : Nat) : Int) = 1) ↔ t % 2 = 1 := by omega
      change uIx _ (W.d (PyData.int 0)) _ = _ at a1
      show stepV (hNm 2) (vWipe [2, 3, 4] (vSeq _ _)) _ _ _ = _
      simp only [stepV, e_hNm, e_Wipe, List.set_cons_succ, List.set_cons_zero]
      rw [seq_nx (Γ1 := [some (wM (gen (n + 1) (n + 1) A)), some (wR (sumN t T)), some (.d (.int (t : Int))), some (wM (gen n n fun i j => A (i + 1) (skip t j))), none, none]) (O1 := O) (by rw [e_Set, hinner]; rfl)]
      generalize hD : (det n fun i j => A (i + 1) (skip t j)) = D at *
      rw [seq_nx (Γ1 := [some (wM (gen (n + 1) (n + 1) A)), some (wR (sumN t T)), some (.d (.int (t : Int))), some (wM (gen n n fun i j => A (i + 1) (skip t j))), some (wR (A 0 t * D)), none]) (O1 := O) (by
        generalize wM (gen (n + 1) (n + 1) A) = a at *
        generalize wM (gen n n fun i j => A (i + 1) (skip t j)) = b at *
        generalize W.d (dRow (rowf (n + 1) (A 0))) = d at *
        by_cases z : A 0 t = 0
        · have z2 : A 0 t * D = 0 := by rw [z]; grind
          rw [z2]
          simp [a1, a2, z, dR_0]
        · have z2 : ¬ (A 0 t).num = 0 := fun h => z (num0.mp h)
          simp [a1, a2, z2, hd1, t1])]
      rw [hsum]
      generalize wM (gen (n + 1) (n + 1) A) = a at *
      generalize wM (gen n n fun i j => A (i + 1) (skip t j)) = b at *
      generalize sumN t T = y at *
      by_cases z : t % 2 = 1
      · have z1 := hpar.mpr z
        rw [z1] at hm2
        rw [if_pos z]
        simp [hm2, t2]
      · have z1 : ¬ (((t % 2 : Nat) : Int) = 1) := fun h => z (hpar.mp h)
        rw [if_neg z]
        generalize ((t % 2 : Nat) : Int) = u at *
        simp [hm2, z1, t3])).1
    have : ∀ (l : List Nat) (t : Nat), l.foldl (fun t _ => t + 1) t = t + l.length := fun l => by
      induction l with
      | nil => intro t; rfl
      | cons x l ih => intro t; rw [List.foldl_cons, ih, List.length_cons]; omega
    rw [this, List.length_range, Nat.zero_add, ← rng_0] at lp
    have e0 : uEq (wM (gen (n + 1) (n + 1) A)) (.d (.list [])) O = some (.d (.bool false), O) := by
      have h := eqD_D (α := List (List Rat)) (by decide) (gen (n + 1) (n + 1) A) []
      rw [decide_eq_false (gen_nil (by omega))] at h
      exact uEqN_d (r := false) h
    show fnV N_law_det (t_law_det (sem_law_det (m' + 1))) _ O = _
    unfold t_law_det
    simp only [e_fnV, e_start, N_law_det, List.length_cons, List.length_nil, List.map_cons, List.map_nil, List.replicate, List.cons_append, List.nil_append, Nat.reduceAdd, Nat.reduceSub]
    rw [seq_nx (Γ1 := [some (wM (gen (n + 1) (n + 1) A)), none, none, none, none, none]) (O1 := O) (by
      generalize wM (gen (n + 1) (n + 1) A) = a at *
      simp [e0])]
    rw [seq_nx (Γ1 := [some (wM (gen (n + 1) (n + 1) A)), some (wR (sumN 0 T)), none, none, none, none]) (O1 := O) (by
      show _ = SR.nx [_, some (wR 0), _, _, _, _] _
      simp [dR_0])]
    have hit : iR1 (vCB uLen (vCons (vV 0) vNil)) [some (wM (gen (n + 1) (n + 1) A)), some (wR (sumN 0 T)), none, none, none, none] O = .ok (rng 0 (n + 1), []) O := by
      have u : uLen [wM (gen (n + 1) (n + 1) A)] O = some (.d (.int ((n + 1 : Nat) : Int)), O) := by
        rw [uLen_l, List.length_map, gen_len]
      generalize wM (gen (n + 1) (n + 1) A) = a at *
      simp only [e_iR1, e_CB, e_Cons, e_V, e_Nil, List.getElem?_cons_zero, R.bind_ok, u, R.ofO_some, s1, if_true, Int.toNat_natCast]
    rw [seq_nx (Γ1 := [some (wM (gen (n + 1) (n + 1) A)), some (wR (sumN (n + 1) T)), none, none, none, none]) (O1 := O) (by
      rw [e_Wipe, e_For, hit]
      show (forV (hNm 2) (b_law_det_1 (sem_law_det (m' + 1))) [] (rng 0 (n + 1)) _ O).wipe _ = _
      rw [lp]; rfl)]
    show finW O (wR (sumN (n + 1) T)) O = _
    exact fin_d
end
end UZ
namespace K02
open PySem PySem.W L2 UZ
@[simp] def N_law : List Str := ["script", "state", "size", "rows", "kept", "due", "told", "number", "row", "column", "entry", "k"]
noncomputable def t_law : VS :=
  (vSeq (vSet 1 (vCall 3 sem_law_big (vCons (vV 0) (vCons (vC (.int 0)) (vCons (vC (.int 60)) vNil)))))
    (vSeq (vSet 2 (vOp uAdd (vC (.int 1)) (vCall 2 sem_law_take (vCons (vV 1) (vCons (vC (.int 5)) vNil)))))
    (vSeq (vSet 3 (vLcO (iR1 (vV 2)) (.one 8) vYes (vLc (iR1 (vV 2)) (.one 9) vYes (vCall 2 sem_law_ratio (vCons (vOp uSub (vCall 2 sem_law_take (vCons (vV 1) (vCons (vC (.int 7)) vNil))) (vC (.int 3))) (vCons (vOp uAdd (vC (.int 1)) (vCall 2 sem_law_take (vCons (vV 1) (vCons (vC (.int 2)) vNil)))) vNil))) [9]) [8]))
    (vSeq (vIf (vAndT (vTst (vOp uEq (vCall 2 sem_law_take (vCons (vV 1) (vCons (vC (.int 2)) vNil))) (vC (.int 0)))) (vTst (vOp uGt (vV 2) (vC (.int 1))))) (vSeq (vAsg (vLc (iSq (vOp uIx (vV 3) (vC (.int 0)))) (.one 10) vYes (vCall 2 sem_law_mul (vCons (vTup (vCons (vC (.int 2)) (vCons (vC (.int 1)) vNil))) (vCons (vV 10) vNil))) [10]) (hSub kSet (vV 3) (vUn uNeg (vC (.int 1)))))
    (vIf (vTst (vOp uEq (vCall 2 sem_law_take (vCons (vV 1) (vCons (vC (.int 2)) vNil))) (vC (.int 0)))) (vAsg (vIfE (vTst (vOp uGt (vV 2) (vC (.int 2)))) (vLc (iR1 (vV 2)) (.one 11) vYes (vCall 2 sem_law_add (vCons (vOp uIx (vOp uIx (vV 3) (vUn uNeg (vC (.int 1)))) (vV 11)) (vCons (vOp uIx (vOp uIx (vV 3) (vUn uNeg (vC (.int 2)))) (vV 11)) vNil))) [11]) (vOp uIx (vV 3) (vUn uNeg (vC (.int 1))))) (hSub kSet (vV 3) (vUn uNeg (vC (.int 1))))) vNext)) vNext)
    (vSeal (oAt 3) [3] (vSeq (vSet 4 (vLc (iSq (vV 3)) (.one 8) vYes (vCB uList (vCons (vV 8) vNil)) [8]))
    (vSeq (vSet 5 (vCall 1 sem_law_minv (vCons (vV 3) vNil)))
    (vSeq (vSet 6 (vCall 1 sem_law_told (vCons (vV 3) vNil)))
    (vSeq (vSet 7 (vCall 1 sem_determinant (vCons (vV 3) vNil)))
    (vSeq (vIf (vOrT (vTst (vOp uNe (vV 6) (vV 5))) (vOrT (vTst (vOp uNe (vV 3) (vV 4))) (vOrT (vNotT (vTst (vCall 1 sem_law_is_ratio (vCons (vV 7) vNil)))) (vTst (vOp uNe (vV 7) (vCall 1 (sem_law_det 7) (vCons (vV 3) vNil))))))) (vRet (vC (.bool false))) vNext)
    (vSeq (vIf (vTst (vOp uNe (vOp uEq (vOp uIx (vV 7) (vC (.int 0))) (vC (.int 0))) (vOp uIs (vV 5) (vC .none)))) (vRet (vC (.bool false))) vNext)
    (vRet (vOrV (vOp uIs (vV 5) (vC .none)) (vAndV (vOp uEq (vCall 2 sem_law_mmul (vCons (vV 6) (vCons (vV 3) vNil))) (vCall 1 sem_law_unit (vCons (vV 2) vNil))) (vOp uEq (vCall 2 sem_law_mmul (vCons (vV 3) (vCons (vV 6) vNil))) (vCall 1 sem_law_unit (vCons (vV 2) vNil)))))))))))))))))
noncomputable def sem_law : FV := fnV N_law t_law
end K02
namespace K02
open PySem PySem.Spec PyProof.Rows L2 UZ
def topS (i : Nat) : Stmt := PySem.Challenge.pw_unswapped_k02_inverses_and_determinants.main.body.getD i (.Pass ⟨0, 0, 0, 0⟩)
section
variable {P : Program} {w : World} {K : PySem.W.Frag} {mg : Str → Option Value} {base : Heap}
/-! ### divisor -/
abbrev s_divisor : Stmt := topS 4
theorem sc_divisor : FnScope N_divisor ["one", "two"] (defScope s_divisor) := ⟨rfl, rfl, rfl, by decide +kernel, rfl, by decide +kernel, by decide +kernel⟩
theorem l_divisor (m_abs : mg "abs" = none) {f : Addr} (cdv : Value) (A : Around) (outer : List Env) (s : Shared) (H : Hp) (E : XK) (hr : Room 0 (A.deeper (envOfC "divisor" (defScope s_divisor) s.heap.objs.size f cdv))) (bx : Bx (cxOf (L2.CX P w) P w K mg base N_divisor "divisor" (defScope s_divisor) f cdv A outer s H E) (wE E)) :
    PVSs (cxOf (L2.CX P w) P w K mg base N_divisor "divisor" (defScope s_divisor) f cdv A outer s H E) (wE E) (defBody s_divisor) t_divisor :=
  (w_cons (w_par (i := 0) (j := 1) bx (v_cons (v_cb p_abs m_abs b_abs (v_cons (v_v 0) v_nil)) (v_cons (v_cb p_abs m_abs b_abs (v_cons (v_v 1) v_nil)) v_nil)))
    (w_cons (v_wipe [1] (w_while bx (v_tcmp (p_ne (hu_eq hr)) (v_v 1) v_int) (w_one (w_par (i := 0) (j := 1) bx (v_cons (v_v 1) (v_cons (v_op p_mod (v_v 0) (v_v 1)) v_nil))))))
    (w_one (w_ret (v_v 0)))))
/-! ### ratio -/
abbrev s_ratio : Stmt := topS 5
theorem sc_ratio : FnScope N_ratio ["numerator", "denominator"] (defScope s_ratio) := ⟨rfl, rfl, rfl, by decide +kernel, rfl, by decide +kernel, by decide +kernel⟩
theorem l_ratio (P_NoInverse : ExP K mg "NoInverse") (G_divisor : FnV P w K mg base "divisor" 1 ["one", "two"] sem_divisor) {f : Addr} (cdv : Value) (A : Around) (outer : List Env) (s : Shared) (H : Hp) (E : XK) (hr : Room 2 (A.deeper (envOfC "ratio" (defScope s_ratio) s.heap.objs.size f cdv))) (bx : Bx (cxOf (L2.CX P w) P w K mg base N_ratio "ratio" (defScope s_ratio) f cdv A outer s H E) (wE E)) :
    PVSs (cxOf (L2.CX P w) P w K mg base N_ratio "ratio" (defScope s_ratio) f cdv A outer s H E) (wE E) (defBody s_ratio) t_ratio :=
  (w_cons (w_if (v_tcmp (p_eq (hu_eq hr)) (v_v 1) v_int) (w_one (w_raise0 bx P_NoInverse)) w_nil)
    (w_cons (w_set (i := 2) bx (v_call bx G_divisor (hr.mono (by decide)) (v_cons (v_v 0) (v_cons (v_v 1) v_nil))))
    (w_cons (w_if (v_tcmp p_lt (v_v 1) v_int) (w_one (w_set (i := 2) bx (v_un p_neg (v_v 2)))) w_nil)
    (w_one (w_ret (v_tup (v_cons (v_op p_div (v_v 0) (v_v 2)) (v_cons (v_op p_div (v_v 1) (v_v 2)) v_nil))))))))
/-! ### minus -/
abbrev s_minus : Stmt := topS 6
theorem sc_minus : FnScope N_minus ["one", "two"] (defScope s_minus) := ⟨rfl, rfl, rfl, by decide +kernel, rfl, by decide +kernel, by decide +kernel⟩
theorem l_minus (G_ratio : FnV P w K mg base "ratio" 3 ["numerator", "denominator"] sem_ratio) {f : Addr} (cdv : Value) (A : Around) (outer : List Env) (s : Shared) (H : Hp) (E : XK) (hr : Room 3 (A.deeper (envOfC "minus" (defScope s_minus) s.heap.objs.size f cdv))) (bx : Bx (cxOf (L2.CX P w) P w K mg base N_minus "minus" (defScope s_minus) f cdv A outer s H E) (wE E)) :
    PVSs (cxOf (L2.CX P w) P w K mg base N_minus "minus" (defScope s_minus) f cdv A outer s H E) (wE E) (defBody s_minus) t_minus :=
  (w_cons (w_if (v_w (v_and (v_tcmp (p_eq (hu_eq hr)) (v_ix p_ix (v_v 0) v_int) v_int) (v_and1 (v_tcmp (p_eq (hu_eq hr)) (v_ix p_ix (v_v 1) v_int) v_int)))) (w_one (w_ret (v_tup (v_cons (v_op p_sub (v_ix p_ix (v_v 0) v_int) (v_ix p_ix (v_v 1) v_int)) (v_cons v_int v_nil))))) w_nil)
    (w_one (w_ret (v_call bx G_ratio (hr.mono (by decide)) (v_cons (v_op p_sub (v_op p_mul (v_ix p_ix (v_v 0) v_int) (v_ix p_ix (v_v 1) v_int)) (v_op p_mul (v_ix p_ix (v_v 1) v_int) (v_ix p_ix (v_v 0) v_int))) (v_cons (v_op p_mul (v_ix p_ix (v_v 0) v_int) (v_ix p_ix (v_v 1) v_int)) v_nil))))))
/-! ### times -/
abbrev s_times : Stmt := topS 7
theorem sc_times : FnScope N_times ["one", "two"] (defScope s_times) := ⟨rfl, rfl, rfl, by decide +kernel, rfl, by decide +kernel, by decide +kernel⟩
theorem l_times (G_ratio : FnV P w K mg base "ratio" 3 ["numerator", "denominator"] sem_ratio) {f : Addr} (cdv : Value) (A : Around) (outer : List Env) (s : Shared) (H : Hp) (E : XK) (hr : Room 3 (A.deeper (envOfC "times" (defScope s_times) s.heap.objs.size f cdv))) (bx : Bx (cxOf (L2.CX P w) P w K mg base N_times "times" (defScope s_times) f cdv A outer s H E) (wE E)) :
    PVSs (cxOf (L2.CX P w) P w K mg base N_times "times" (defScope s_times) f cdv A outer s H E) (wE E) (defBody s_times) t_times :=
  (w_cons (w_if (v_w (v_and (v_tcmp (p_eq (hu_eq hr)) (v_ix p_ix (v_v 0) v_int) v_int) (v_and1 (v_tcmp (p_eq (hu_eq hr)) (v_ix p_ix (v_v 1) v_int) v_int)))) (w_one (w_ret (v_tup (v_cons (v_op p_mul (v_ix p_ix (v_v 0) v_int) (v_ix p_ix (v_v 1) v_int)) (v_cons v_int v_nil))))) w_nil)
    (w_one (w_ret (v_call bx G_ratio (hr.mono (by decide)) (v_cons (v_op p_mul (v_ix p_ix (v_v 0) v_int) (v_ix p_ix (v_v 1) v_int)) (v_cons (v_op p_mul (v_ix p_ix (v_v 0) v_int) (v_ix p_ix (v_v 1) v_int)) v_nil))))))
/-! ### over -/
abbrev s_over : Stmt := topS 8
theorem sc_over : FnScope N_over ["one", "two"] (defScope s_over) := ⟨rfl, rfl, rfl, by decide +kernel, rfl, by decide +kernel, by decide +kernel⟩
theorem l_over (G_ratio : FnV P w K mg base "ratio" 3 ["numerator", "denominator"] sem_ratio) {f : Addr} (cdv : Value) (A : Around) (outer : List Env) (s : Shared) (H : Hp) (E : XK) (hr : Room 3 (A.deeper (envOfC "over" (defScope s_over) s.heap.objs.size f cdv))) (bx : Bx (cxOf (L2.CX P w) P w K mg base N_over "over" (defScope s_over) f cdv A outer s H E) (wE E)) :
    PVSs (cxOf (L2.CX P w) P w K mg base N_over "over" (defScope s_over) f cdv A outer s H E) (wE E) (defBody s_over) t_over :=
  (w_one (w_ret (v_call bx G_ratio (hr.mono (by decide)) (v_cons (v_op p_mul (v_ix p_ix (v_v 0) v_int) (v_ix p_ix (v_v 1) v_int)) (v_cons (v_op p_mul (v_ix p_ix (v_v 0) v_int) (v_ix p_ix (v_v 1) v_int)) v_nil)))))
/-! ### unit -/
abbrev s_unit : Stmt := topS 10
theorem sc_unit : FnScope N_unit ["size"] (defScope s_unit) := ⟨rfl, rfl, rfl, by decide +kernel, rfl, by decide +kernel, by decide +kernel⟩
theorem l_unit (m_range : mg "range" = none) (m_int : mg "int" = none) {f : Addr} (cdv : Value) (A : Around) (outer : List Env) (s : Shared) (H : Hp) (E : XK) (hr : Room 0 (A.deeper (envOfC "unit" (defScope s_unit) s.heap.objs.size f cdv))) (bx : Bx (cxOf (L2.CX P w) P w K mg base N_unit "unit" (defScope s_unit) f cdv A outer s H E) (wE E)) :
    PVSs (cxOf (L2.CX P w) P w K mg base N_unit "unit" (defScope s_unit) f cdv A outer s H E) (wE E) (defBody s_unit) t_unit :=
  (w_one (w_ret (v_lc bx [("row", 1)] (.one 1) (i_r1 m_range (v_v 0)) (blkOk_by (own := [("row", 1)]) (N := N_unit) (by kernel_rfl)) (by decide) (fun _ _ _ _ _ => (pg_name (i := 1) (bx.blk _ _ _ _ _).nd rfl (by first | exact Or.inl rfl | exact Or.inr rfl))) (fun _ _ _ _ _ => tv_nil) (fun _ _ _ _ _ => (v_lc (bx.blk _ _ _ _ _) [("column", 2)] (.one 2) (i_r1 m_range (v_v 0)) (blkOk_by (own := [("column", 2)]) (N := N_unit) (by kernel_rfl)) (by decide) (fun _ _ _ _ _ => (pg_name (i := 2) ((bx.blk _ _ _ _ _).blk _ _ _ _ _).nd rfl (by first | exact Or.inl rfl | exact Or.inr rfl))) (fun _ _ _ _ _ => tv_nil) (fun _ _ _ _ _ => (v_tup (v_cons (v_ct p_int m_int b_int (v_cons (v_cmp (p_eq (hu_eq hr)) (v_v 1) (v_v 2)) v_nil)) (v_cons v_int v_nil)))))))))
/-! ### beside -/
abbrev s_beside : Stmt := topS 11
theorem sc_beside : FnScope N_beside ["one", "two"] (defScope s_beside) := ⟨rfl, rfl, rfl, by decide +kernel, rfl, by decide +kernel, by decide +kernel⟩
theorem l_beside (m_zip : mg "zip" = none) {f : Addr} (cdv : Value) (A : Around) (outer : List Env) (s : Shared) (H : Hp) (E : XK) (hr : Room 0 (A.deeper (envOfC "beside" (defScope s_beside) s.heap.objs.size f cdv))) (bx : Bx (cxOf (L2.CX P w) P w K mg base N_beside "beside" (defScope s_beside) f cdv A outer s H E) (wE E)) :
    PVSs (cxOf (L2.CX P w) P w K mg base N_beside "beside" (defScope s_beside) f cdv A outer s H E) (wE E) (defBody s_beside) t_beside :=
  (w_one (w_ret (v_lc bx [("left", 2), ("right", 3)] (.many [2, 3]) (i_zp m_zip (v_v 0) (v_v 1)) (blkOk_by (own := [("left", 2), ("right", 3)]) (N := N_beside) (by kernel_rfl)) (by decide) (fun _ _ _ _ _ => (pg_tup (bx.blk _ _ _ _ _).calm (pgs_cons (pg_name (i := 2) (bx.blk _ _ _ _ _).nd rfl (by first | exact Or.inl rfl | exact Or.inr rfl)) (pgs_cons (pg_name (i := 3) (bx.blk _ _ _ _ _).nd rfl (by first | exact Or.inl rfl | exact Or.inr rfl)) pgs_nil)))) (fun _ _ _ _ _ => tv_nil) (fun _ _ _ _ _ => (v_op p_add (v_v 2) (v_v 3))))))
/-! ### pivot_of -/
abbrev s_pivot_of : Stmt := topS 12
theorem sc_pivot_of : FnScope N_pivot_of ["rows", "at"] (defScope s_pivot_of) := ⟨rfl, rfl, rfl, by decide +kernel, rfl, by decide +kernel, by decide +kernel⟩
theorem l_pivot_of (m_range : mg "range" = none) (m_len : mg "len" = none) {f : Addr} (cdv : Value) (A : Around) (outer : List Env) (s : Shared) (H : Hp) (E : XK) (hr : Room 0 (A.deeper (envOfC "pivot_of" (defScope s_pivot_of) s.heap.objs.size f cdv))) (bx : Bx (cxOf (L2.CX P w) P w K mg base N_pivot_of "pivot_of" (defScope s_pivot_of) f cdv A outer s H E) (wE E)) :
    PVSs (cxOf (L2.CX P w) P w K mg base N_pivot_of "pivot_of" (defScope s_pivot_of) f cdv A outer s H E) (wE E) (defBody s_pivot_of) t_pivot_of :=
  (w_cons (v_wipe [2] (w_for bx (i_r2 m_range (v_v 1) (v_cb p_len m_len b_len (v_cons (v_v 0) v_nil))) (h_nm (i := 2) bx.nd) (v_wipes [2] (w_one (w_if (v_tcmp (p_ne (hu_eq hr)) (v_ix p_ix (v_ix p_ix (v_ix p_ix (v_v 0) (v_v 2)) (v_v 1)) v_int) v_int) (w_one (w_ret (v_v 2))) w_nil)))))
    (w_one (w_ret v_non)))
/-! ### beside@o -/
abbrev s_beside_at_o : Stmt := topS 11
theorem sc_beside_at_o : FnScope N_beside_at_o ["one", "two"] (defScope s_beside_at_o) := ⟨rfl, rfl, rfl, by decide +kernel, rfl, by decide +kernel, by decide +kernel⟩
theorem l_beside_at_o (m_zip : mg "zip" = none) {f : Addr} (cdv : Value) (A : Around) (outer : List Env) (s : Shared) (H : Hp) (E : XK) (hr : Room 0 (A.deeper (envOfC "beside" (defScope s_beside_at_o) s.heap.objs.size f cdv))) (bx : Bx (cxOf (L2.CX P w) P w K mg base N_beside_at_o "beside" (defScope s_beside_at_o) f cdv A outer s H E) (wE E)) :
    PVSs (cxOf (L2.CX P w) P w K mg base N_beside_at_o "beside" (defScope s_beside_at_o) f cdv A outer s H E) (wE E) (defBody s_beside_at_o) t_beside_at_o :=
  (w_one (w_ret (v_lcO bx [("left", 2), ("right", 3)] (.many [2, 3]) (i_zp m_zip (v_v 0) (v_v 1)) (blkOk_by (own := [("left", 2), ("right", 3)]) (N := N_beside_at_o) (by kernel_rfl)) (by decide) (fun _ _ _ _ _ => (pg_tup (bx.blk _ _ _ _ _).calm (pgs_cons (pg_name (i := 2) (bx.blk _ _ _ _ _).nd rfl (by first | exact Or.inl rfl | exact Or.inr rfl)) (pgs_cons (pg_name (i := 3) (bx.blk _ _ _ _ _).nd rfl (by first | exact Or.inl rfl | exact Or.inr rfl)) pgs_nil)))) (fun _ _ _ _ _ => tv_nil) (fun _ _ _ _ _ => (v_op p_add (v_v 2) (v_v 3))))))
/-! ### less -/
abbrev s_less : Stmt := topS 14
theorem sc_less : FnScope N_less ["row", "factor", "other"] (defScope s_less) := ⟨rfl, rfl, rfl, by decide +kernel, rfl, by decide +kernel, by decide +kernel⟩
theorem l_less (m_zip : mg "zip" = none) (G_minus : FnV P w K mg base "minus" 4 ["one", "two"] sem_minus) (G_times : FnV P w K mg base "times" 4 ["one", "two"] sem_times) {f : Addr} (cdv : Value) (A : Around) (outer : List Env) (s : Shared) (H : Hp) (E : XK) (hr : Room 4 (A.deeper (envOfC "less" (defScope s_less) s.heap.objs.size f cdv))) (bx : Bx (cxOf (L2.CX P w) P w K mg base N_less "less" (defScope s_less) f cdv A outer s H E) (wE E)) :
    PVSs (cxOf (L2.CX P w) P w K mg base N_less "less" (defScope s_less) f cdv A outer s H E) (wE E) (defBody s_less) t_less :=
  (w_one (w_ret (v_lc bx [("entry", 3), ("new", 4)] (.many [3, 4]) (i_zp m_zip (v_v 0) (v_v 2)) (blkOk_by (own := [("entry", 3), ("new", 4)]) (N := N_less) (by kernel_rfl)) (by decide) (fun _ _ _ _ _ => (pg_tup (bx.blk _ _ _ _ _).calm (pgs_cons (pg_name (i := 3) (bx.blk _ _ _ _ _).nd rfl (by first | exact Or.inl rfl | exact Or.inr rfl)) (pgs_cons (pg_name (i := 4) (bx.blk _ _ _ _ _).nd rfl (by first | exact Or.inl rfl | exact Or.inr rfl)) pgs_nil)))) (fun _ _ _ _ _ => tv_nil) (fun _ _ _ _ _ => (v_ifE (v_tcmp (p_ne (hu_eq hr)) (v_ix p_ix (v_v 4) v_int) v_int) (v_call (bx.blk _ _ _ _ _) G_minus (hr.mono (by decide)) (v_cons (v_v 3) (v_cons (v_call (bx.blk _ _ _ _ _) G_times (hr.mono (by decide)) (v_cons (v_v 1) (v_cons (v_v 4) v_nil))) v_nil))) (v_v 3))))))
/-! ### inverse_of -/
abbrev s_inverse_of : Stmt := topS 13
theorem sc_inverse_of : FnScope N_inverse_of ["one"] (defScope s_inverse_of) := ⟨rfl, rfl, rfl, by decide +kernel, rfl, by decide +kernel, by decide +kernel⟩
theorem l_inverse_of (m_len : mg "len" = none) (m_range : mg "range" = none) (P_NoInverse : ExP K mg "NoInverse") (G_beside_at_o : FnV P w K mg base "beside" 1 ["one", "two"] sem_beside_at_o) (G_unit : FnV P w K mg base "unit" 1 ["size"] sem_unit) (G_pivot_of : FnV P w K mg base "pivot_of" 1 ["rows", "at"] sem_pivot_of) (G_over : FnV P w K mg base "over" 4 ["one", "two"] sem_over) (G_less : FnV P w K mg base "less" 5 ["row", "factor", "other"] sem_less) {f : Addr} (cdv : Value) (A : Around) (outer : List Env) (s : Shared) (H : Hp) (E : XK) (hr : Room 5 (A.deeper (envOfC "inverse_of" (defScope s_inverse_of) s.heap.objs.size f cdv))) (bx : Bx (cxOf (L2.CX P w) P w K mg base N_inverse_of "inverse_of" (defScope s_inverse_of) f cdv A outer s H E) (wE E)) :
    PVSs (cxOf (L2.CX P w) P w K mg base N_inverse_of "inverse_of" (defScope s_inverse_of) f cdv A outer s H E) (wE E) (defBody s_inverse_of) t_inverse_of :=
  (w_cons (w_set (i := 1) bx (v_cb p_len m_len b_len (v_cons (v_v 0) v_nil)))
    (w_cons (w_set (i := 2) bx (v_call bx G_beside_at_o (hr.mono (by decide)) (v_cons (v_v 0) (v_cons (v_call bx G_unit (hr.mono (by decide)) (v_cons (v_v 1) v_nil)) v_nil))))
    (w_cons (v_wipe [3, 4, 5] (w_for bx (i_r1 m_range (v_v 1)) (h_nm (i := 3) bx.nd) (v_wipes [3, 4, 5] (w_cons (w_set (i := 4) bx (v_call bx G_pivot_of (hr.mono (by decide)) (v_cons (v_v 2) (v_cons (v_v 3) v_nil))))
    (w_cons (w_if (v_tcmp p_is (v_v 4) v_non) (w_one (w_raise0 bx P_NoInverse)) w_nil)
    (w_cons (w_asg (v_tup (v_cons (v_ix p_ix (v_v 2) (v_v 4)) (v_cons (v_ix p_ix (v_v 2) (v_v 3)) v_nil))) (h_tp bx.calm (h_cs (h_sub (Wx := wE E) (v_v 2) (v_v 3)) (h_cs (h_sub (Wx := wE E) (v_v 2) (v_v 4)) h_end))))
    (w_cons (w_asg (v_lc bx [("entry", 7)] (.one 7) (i_sq (v_ix p_ix (v_v 2) (v_v 3))) (blkOk_by (own := [("entry", 7)]) (N := N_inverse_of) (by kernel_rfl)) (by decide) (fun _ _ _ _ _ => (pg_name (i := 7) (bx.blk _ _ _ _ _).nd rfl (by first | exact Or.inl rfl | exact Or.inr rfl))) (fun _ _ _ _ _ => tv_nil) (fun _ _ _ _ _ => (v_ifE (v_tcmp (p_ne (hu_eq hr)) (v_ix p_ix (v_v 7) v_int) v_int) (v_call (bx.blk _ _ _ _ _) G_over (hr.mono (by decide)) (v_cons (v_v 7) (v_cons (v_ix p_ix (v_ix p_ix (v_v 2) (v_v 3)) (v_v 3)) v_nil))) (v_v 7)))) (h_sub (Wx := wE E) (v_v 2) (v_v 3)))
    (w_one (v_wipe [5] (w_for bx (i_r1 m_range (v_v 1)) (h_nm (i := 5) bx.nd) (v_wipes [5] (w_one (w_if (v_w (v_and (v_tcmp (p_ne (hu_eq hr)) (v_v 5) (v_v 3)) (v_and1 (v_tcmp (p_ne (hu_eq hr)) (v_ix p_ix (v_ix p_ix (v_ix p_ix (v_v 2) (v_v 5)) (v_v 3)) v_int) v_int)))) (w_one (w_asg (v_call bx G_less (hr.mono (by decide)) (v_cons (v_ix p_ix (v_v 2) (v_v 5)) (v_cons (v_ix p_ix (v_ix p_ix (v_v 2) (v_v 5)) (v_v 3)) (v_cons (v_ix p_ix (v_v 2) (v_v 3)) v_nil)))) (h_sub (Wx := wE E) (v_v 2) (v_v 5)))) w_nil)))))))))))))
    (w_one (w_ret (v_lc bx [("row", 6)] (.one 6) (i_sq (v_v 2)) (blkOk_by (own := [("row", 6)]) (N := N_inverse_of) (by kernel_rfl)) (by decide) (fun _ _ _ _ _ => (pg_name (i := 6) (bx.blk _ _ _ _ _).nd rfl (by first | exact Or.inl rfl | exact Or.inr rfl))) (fun _ _ _ _ _ => tv_nil) (fun _ _ _ _ _ => (v_sl p_sl (v_v 6) (v_part (v_v 1)) v_noP))))))))
/-! ### determinant -/
abbrev s_determinant : Stmt := topS 15
theorem sc_determinant : FnScope N_determinant ["one"] (defScope s_determinant) := ⟨rfl, rfl, rfl, by decide +kernel, rfl, by decide +kernel, by decide +kernel⟩
theorem l_determinant (m_list : mg "list" = none) (m_range : mg "range" = none) (m_len : mg "len" = none) (G_pivot_of : FnV P w K mg base "pivot_of" 1 ["rows", "at"] sem_pivot_of) (G_times : FnV P w K mg base "times" 4 ["one", "two"] sem_times) (G_less : FnV P w K mg base "less" 5 ["row", "factor", "other"] sem_less) (G_over : FnV P w K mg base "over" 4 ["one", "two"] sem_over) {f : Addr} (cdv : Value) (A : Around) (outer : List Env) (s : Shared) (H : Hp) (E : XK) (hr : Room 5 (A.deeper (envOfC "determinant" (defScope s_determinant) s.heap.objs.size f cdv))) (bx : Bx (cxOf (L2.CX P w) P w K mg base N_determinant "determinant" (defScope s_determinant) f cdv A outer s H E) (wE E)) :
    PVSs (cxOf (L2.CX P w) P w K mg base N_determinant "determinant" (defScope s_determinant) f cdv A outer s H E) (wE E) (defBody s_determinant) t_determinant :=
  (w_cons (w_setLcO (i := 1) bx [("row", 6)] (.one 6) (i_sq (v_v 0)) (blkOk_by (own := [("row", 6)]) (N := N_determinant) (by kernel_rfl)) (by decide) (fun _ _ _ _ _ => (pg_name (i := 6) (bx.blk _ _ _ _ _).nd rfl (by first | exact Or.inl rfl | exact Or.inr rfl))) (fun _ _ _ _ _ => tv_nil) (fun _ _ _ _ _ => (v_ct p_list m_list b_list (v_cons (v_v 6) v_nil))))
    (w_cons (w_set (i := 2) bx (v_tup (v_cons v_int (v_cons v_int v_nil))))
    (w_cons (v_wipe [3, 4, 5] (w_for bx (i_r1 m_range (v_cb p_len m_len b_len (v_cons (v_v 1) v_nil))) (h_nm (i := 3) bx.nd) (v_wipes [3, 4, 5] (w_cons (w_set (i := 4) bx (v_call bx G_pivot_of (hr.mono (by decide)) (v_cons (v_v 1) (v_cons (v_v 3) v_nil))))
    (w_cons (w_if (v_tcmp p_is (v_v 4) v_non) (w_one (w_ret (v_tup (v_cons v_int (v_cons v_int v_nil))))) w_nil)
    (w_cons (w_if (v_tcmp (p_ne (hu_eq hr)) (v_v 4) (v_v 3)) (w_cons (w_asg (v_tup (v_cons (v_ix p_ix (v_v 1) (v_v 4)) (v_cons (v_ix p_ix (v_v 1) (v_v 3)) v_nil))) (h_tp bx.calm (h_cs (h_sub (Wx := wE E) (v_v 1) (v_v 3)) (h_cs (h_sub (Wx := wE E) (v_v 1) (v_v 4)) h_end))))
    (w_one (w_set (i := 2) bx (v_call bx G_times (hr.mono (by decide)) (v_cons (v_tup (v_cons (v_un p_neg v_int) (v_cons v_int v_nil))) (v_cons (v_v 2) v_nil)))))) w_nil)
    (w_cons (w_set (i := 2) bx (v_call bx G_times (hr.mono (by decide)) (v_cons (v_v 2) (v_cons (v_ix p_ix (v_ix p_ix (v_v 1) (v_v 3)) (v_v 3)) v_nil))))
    (w_one (v_wipe [5] (w_for bx (i_r2 m_range (v_op p_add (v_v 3) v_int) (v_cb p_len m_len b_len (v_cons (v_v 1) v_nil))) (h_nm (i := 5) bx.nd) (v_wipes [5] (w_one (w_if (v_tcmp (p_ne (hu_eq hr)) (v_ix p_ix (v_ix p_ix (v_ix p_ix (v_v 1) (v_v 5)) (v_v 3)) v_int) v_int) (w_one (w_asg (v_call bx G_less (hr.mono (by decide)) (v_cons (v_ix p_ix (v_v 1) (v_v 5)) (v_cons (v_call bx G_over (hr.mono (by decide)) (v_cons (v_ix p_ix (v_ix p_ix (v_v 1) (v_v 5)) (v_v 3)) (v_cons (v_ix p_ix (v_ix p_ix (v_v 1) (v_v 3)) (v_v 3)) v_nil))) (v_cons (v_ix p_ix (v_v 1) (v_v 3)) v_nil)))) (h_sub (Wx := wE E) (v_v 1) (v_v 5)))) w_nil)))))))))))))
    (w_one (w_ret (v_v 2))))))
/-! ### _law_cell -/
abbrev s_law_cell : Stmt := topS 17
theorem sc_law_cell : FnScope N_law_cell ["script", "k"] (defScope s_law_cell) := ⟨rfl, rfl, rfl, by decide +kernel, rfl, by decide +kernel, by decide +kernel⟩
theorem l_law_cell (m_len : mg "len" = none) (m_int : mg "int" = none) {f : Addr} (cdv : Value) (A : Around) (outer : List Env) (s : Shared) (H : Hp) (E : XK) (hr : Room 0 (A.deeper (envOfC "_law_cell" (defScope s_law_cell) s.heap.objs.size f cdv))) (bx : Bx (cxOf (L2.CX P w) P w K mg base N_law_cell "_law_cell" (defScope s_law_cell) f cdv A outer s H E) (wE E)) :
    PVSs (cxOf (L2.CX P w) P w K mg base N_law_cell "_law_cell" (defScope s_law_cell) f cdv A outer s H E) (wE E) (defBody s_law_cell) t_law_cell :=
  (w_cons (w_if (v_w (v_and (v_tcmp p_lt (v_v 1) (v_cb p_len m_len b_len (v_cons (v_v 0) v_nil))) (v_and1 (v_tcmp p_ge (v_ix p_ix (v_v 0) (v_v 1)) (v_op p_pow v_int v_int))))) (w_one (w_ret (v_ix p_ix (v_v 0) (v_v 1)))) w_nil)
    (w_cons (w_set (i := 2) bx (v_op p_add (v_op p_mul v_int (v_v 1)) v_int))
    (w_cons (w_if (v_tcmp p_gt (v_cb p_len m_len b_len (v_cons (v_v 0) v_nil)) v_int) (w_one (w_set (i := 2) bx (v_op p_add (v_v 2) (v_op p_mul v_int (v_ix p_ix (v_v 0) (v_op p_mod (v_ct p_int m_int b_int (v_cons (v_v 1) v_nil)) (v_cb p_len m_len b_len (v_cons (v_v 0) v_nil)))))))) w_nil)
    (w_cons (w_set (i := 2) bx (v_op p_mod (v_ct p_int m_int b_int (v_cons (v_op p_add (v_op p_mul (v_v 2) v_int) (v_op p_mul v_int (v_v 1))) v_nil)) v_int))
    (w_one (w_ret (v_op p_mod (v_ct p_int m_int b_int (v_cons (v_op p_add (v_op p_mul (v_v 2) (v_v 2)) (v_op p_mul v_int (v_op p_div (v_v 2) v_int))) v_nil)) v_int)))))))
/-! ### _law_take -/
abbrev s_law_take : Stmt := topS 18
theorem sc_law_take : FnScope N_law_take ["state", "m"] (defScope s_law_take) := ⟨rfl, rfl, rfl, by decide +kernel, rfl, by decide +kernel, by decide +kernel⟩
theorem l_law_take (m_int : mg "int" = none) {f : Addr} (cdv : Value) (A : Around) (outer : List Env) (s : Shared) (H : Hp) (E : XK) (hr : Room 0 (A.deeper (envOfC "_law_take" (defScope s_law_take) s.heap.objs.size f cdv))) (bx : Bx (cxOf (L2.CX P w) P w K mg base N_law_take "_law_take" (defScope s_law_take) f cdv A outer s H E) (wE E)) :
    PVSs (cxOf (L2.CX P w) P w K mg base N_law_take "_law_take" (defScope s_law_take) f cdv A outer s H E) (wE E) (defBody s_law_take) t_law_take :=
  (w_cons (w_set (i := 2) bx (v_op p_mod (v_ct p_int m_int b_int (v_cons (v_ix p_ix (v_v 0) v_int) v_nil)) (v_v 1)))
    (w_cons (w_asg (v_ct p_int m_int b_int (v_cons (v_op p_div (v_ix p_ix (v_v 0) v_int) (v_v 1)) v_nil)) (h_sub (Wx := wE E) (v_v 0) v_int))
    (w_one (w_ret (v_v 2)))))
/-! ### _law_big -/
abbrev s_law_big : Stmt := topS 19
theorem sc_law_big : FnScope N_law_big ["script", "at", "count"] (defScope s_law_big) := ⟨rfl, rfl, rfl, by decide +kernel, rfl, by decide +kernel, by decide +kernel⟩
theorem l_law_big (m_range : mg "range" = none) (G_law_cell : FnV P w K mg base "_law_cell" 1 ["script", "k"] sem_law_cell) {f : Addr} (cdv : Value) (A : Around) (outer : List Env) (s : Shared) (H : Hp) (E : XK) (hr : Room 1 (A.deeper (envOfC "_law_big" (defScope s_law_big) s.heap.objs.size f cdv))) (bx : Bx (cxOf (L2.CX P w) P w K mg base N_law_big "_law_big" (defScope s_law_big) f cdv A outer s H E) (wE E)) :
    PVSs (cxOf (L2.CX P w) P w K mg base N_law_big "_law_big" (defScope s_law_big) f cdv A outer s H E) (wE E) (defBody s_law_big) t_law_big :=
  (w_cons (w_set (i := 3) bx v_int)
    (w_cons (v_wipe [4] (w_for bx (i_r1 m_range (v_v 2)) (h_nm (i := 4) bx.nd) (v_wipes [4] (w_one (w_set (i := 3) bx (v_op p_add (v_op p_mul (v_v 3) v_int) (v_call bx G_law_cell (hr.mono (by decide)) (v_cons (v_v 0) (v_cons (v_op p_add (v_v 1) (v_v 4)) v_nil)))))))))
    (w_one (w_ret (v_lstO (v_cons (v_v 3) v_nil))))))
/-! ### _law_divisor -/
abbrev s_law_divisor : Stmt := topS 20
theorem sc_law_divisor : FnScope N_law_divisor ["one", "two"] (defScope s_law_divisor) := ⟨rfl, rfl, rfl, by decide +kernel, rfl, by decide +kernel, by decide +kernel⟩
theorem l_law_divisor (m_abs : mg "abs" = none) (m_range : mg "range" = none) (m_int : mg "int" = none) {f : Addr} (cdv : Value) (A : Around) (outer : List Env) (s : Shared) (H : Hp) (E : XK) (hr : Room 0 (A.deeper (envOfC "_law_divisor" (defScope s_law_divisor) s.heap.objs.size f cdv))) (bx : Bx (cxOf (L2.CX P w) P w K mg base N_law_divisor "_law_divisor" (defScope s_law_divisor) f cdv A outer s H E) (wE E)) :
    PVSs (cxOf (L2.CX P w) P w K mg base N_law_divisor "_law_divisor" (defScope s_law_divisor) f cdv A outer s H E) (wE E) (defBody s_law_divisor) t_law_divisor :=
  (w_cons (w_set (i := 0) bx (v_cb p_abs m_abs b_abs (v_cons (v_v 0) v_nil)))
    (w_cons (w_set (i := 1) bx (v_cb p_abs m_abs b_abs (v_cons (v_v 1) v_nil)))
    (w_cons (v_wipe [1, 2] (w_for bx (i_r1 m_range v_int) (h_nm (i := 2) bx.nd) (v_wipes [2] (w_cons (w_if (v_tcmp (p_eq (hu_eq hr)) (v_v 1) v_int) (w_one w_break) w_nil)
    (w_one (w_par (i := 0) (j := 1) bx (v_cons (v_v 1) (v_cons (v_op p_mod (v_ct p_int m_int b_int (v_cons (v_v 0) v_nil)) (v_v 1)) v_nil))))))))
    (w_one (w_ret (v_v 0))))))
/-! ### _law_ratio -/
abbrev s_law_ratio : Stmt := topS 21
theorem sc_law_ratio : FnScope N_law_ratio ["p", "q"] (defScope s_law_ratio) := ⟨rfl, rfl, rfl, by decide +kernel, rfl, by decide +kernel, by decide +kernel⟩
theorem l_law_ratio (m_int : mg "int" = none) (G_law_divisor : FnV P w K mg base "_law_divisor" 1 ["one", "two"] sem_law_divisor) {f : Addr} (cdv : Value) (A : Around) (outer : List Env) (s : Shared) (H : Hp) (E : XK) (hr : Room 1 (A.deeper (envOfC "_law_ratio" (defScope s_law_ratio) s.heap.objs.size f cdv))) (bx : Bx (cxOf (L2.CX P w) P w K mg base N_law_ratio "_law_ratio" (defScope s_law_ratio) f cdv A outer s H E) (wE E)) :
    PVSs (cxOf (L2.CX P w) P w K mg base N_law_ratio "_law_ratio" (defScope s_law_ratio) f cdv A outer s H E) (wE E) (defBody s_law_ratio) t_law_ratio :=
  (w_cons (w_set (i := 2) bx (v_call bx G_law_divisor (hr.mono (by decide)) (v_cons (v_v 0) (v_cons (v_v 1) v_nil))))
    (w_cons (w_if (v_tcmp p_lt (v_v 1) v_int) (w_one (w_set (i := 2) bx (v_un p_neg (v_v 2)))) w_nil)
    (w_one (w_ret (v_tup (v_cons (v_ct p_int m_int b_int (v_cons (v_op p_div (v_v 0) (v_v 2)) v_nil)) (v_cons (v_ct p_int m_int b_int (v_cons (v_op p_div (v_v 1) (v_v 2)) v_nil)) v_nil)))))))
/-! ### _law_is_ratio -/
abbrev s_law_is_ratio : Stmt := topS 22
theorem sc_law_is_ratio : FnScope N_law_is_ratio ["pair"] (defScope s_law_is_ratio) := ⟨rfl, rfl, rfl, by decide +kernel, rfl, by decide +kernel, by decide +kernel⟩
theorem l_law_is_ratio (m_tuple : mg "tuple" = none) (m_isinstance : mg "isinstance" = none) (m_len : mg "len" = none) (m_int : mg "int" = none) (m_bool : mg "bool" = none) (G_law_divisor : FnV P w K mg base "_law_divisor" 1 ["one", "two"] sem_law_divisor) {f : Addr} (cdv : Value) (A : Around) (outer : List Env) (s : Shared) (H : Hp) (E : XK) (hr : Room 1 (A.deeper (envOfC "_law_is_ratio" (defScope s_law_is_ratio) s.heap.objs.size f cdv))) (bx : Bx (cxOf (L2.CX P w) P w K mg base N_law_is_ratio "_law_is_ratio" (defScope s_law_is_ratio) f cdv A outer s H E) (wE E)) :
    PVSs (cxOf (L2.CX P w) P w K mg base N_law_is_ratio "_law_is_ratio" (defScope s_law_is_ratio) f cdv A outer s H E) (wE E) (defBody s_law_is_ratio) t_law_is_ratio :=
  (w_cons (w_if (v_w (v_or (v_not (v_tst (v_cb p_isi m_isinstance b_isinstance (v_cons (v_v 0) (v_cons (v_ty m_tuple b_tuple) v_nil))))) (v_or (v_tcmp (p_ne (hu_eq hr)) (v_cb p_len m_len b_len (v_cons (v_v 0) v_nil)) v_int) (v_or1 (v_tcmp (p_in (hu_in hr)) v_bl (v_lc bx [("x", 1)] (.one 1) (i_sq (v_v 0)) (blkOk_by (own := [("x", 1)]) (N := N_law_is_ratio) (by kernel_rfl)) (by decide) (fun _ _ _ _ _ => (pg_name (i := 1) (bx.blk _ _ _ _ _).nd rfl (by first | exact Or.inl rfl | exact Or.inr rfl))) (fun _ _ _ _ _ => tv_nil) (fun _ _ _ _ _ => (v_andV (v_cb p_isi m_isinstance b_isinstance (v_cons (v_v 1) (v_cons (v_ty m_int b_int) v_nil))) (v_oneV (v_notV (v_cb p_isi m_isinstance b_isinstance (v_cons (v_v 1) (v_cons (v_ty m_bool b_bool) v_nil))))))))))))) (w_one (w_ret v_bl)) w_nil)
    (w_one (w_ret (v_andV (v_cmp p_gt (v_ix p_ix (v_v 0) v_int) v_int) (v_oneV (v_cmp (p_eq (hu_eq hr)) (v_call bx G_law_divisor (hr.mono (by decide)) (v_cons (v_ix p_ix (v_v 0) v_int) (v_cons (v_ix p_ix (v_v 0) v_int) v_nil))) v_int))))))
/-! ### _law_add -/
abbrev s_law_add : Stmt := topS 23
theorem sc_law_add : FnScope N_law_add ["one", "two"] (defScope s_law_add) := ⟨rfl, rfl, rfl, by decide +kernel, rfl, by decide +kernel, by decide +kernel⟩
theorem l_law_add (G_law_ratio : FnV P w K mg base "_law_ratio" 2 ["p", "q"] sem_law_ratio) {f : Addr} (cdv : Value) (A : Around) (outer : List Env) (s : Shared) (H : Hp) (E : XK) (hr : Room 2 (A.deeper (envOfC "_law_add" (defScope s_law_add) s.heap.objs.size f cdv))) (bx : Bx (cxOf (L2.CX P w) P w K mg base N_law_add "_law_add" (defScope s_law_add) f cdv A outer s H E) (wE E)) :
    PVSs (cxOf (L2.CX P w) P w K mg base N_law_add "_law_add" (defScope s_law_add) f cdv A outer s H E) (wE E) (defBody s_law_add) t_law_add :=
  (w_cons (w_if (v_w (v_and (v_tcmp (p_eq (hu_eq hr)) (v_ix p_ix (v_v 0) v_int) v_int) (v_and1 (v_tcmp (p_eq (hu_eq hr)) (v_ix p_ix (v_v 1) v_int) v_int)))) (w_one (w_ret (v_tup (v_cons (v_op p_add (v_ix p_ix (v_v 0) v_int) (v_ix p_ix (v_v 1) v_int)) (v_cons v_int v_nil))))) w_nil)
    (w_one (w_ret (v_call bx G_law_ratio (hr.mono (by decide)) (v_cons (v_op p_add (v_op p_mul (v_ix p_ix (v_v 0) v_int) (v_ix p_ix (v_v 1) v_int)) (v_op p_mul (v_ix p_ix (v_v 1) v_int) (v_ix p_ix (v_v 0) v_int))) (v_cons (v_op p_mul (v_ix p_ix (v_v 0) v_int) (v_ix p_ix (v_v 1) v_int)) v_nil))))))
/-! ### _law_sub -/
abbrev s_law_sub : Stmt := topS 24
theorem sc_law_sub : FnScope N_law_sub ["one", "two"] (defScope s_law_sub) := ⟨rfl, rfl, rfl, by decide +kernel, rfl, by decide +kernel, by decide +kernel⟩
theorem l_law_sub (G_law_add : FnV P w K mg base "_law_add" 3 ["one", "two"] sem_law_add) {f : Addr} (cdv : Value) (A : Around) (outer : List Env) (s : Shared) (H : Hp) (E : XK) (hr : Room 3 (A.deeper (envOfC "_law_sub" (defScope s_law_sub) s.heap.objs.size f cdv))) (bx : Bx (cxOf (L2.CX P w) P w K mg base N_law_sub "_law_sub" (defScope s_law_sub) f cdv A outer s H E) (wE E)) :
    PVSs (cxOf (L2.CX P w) P w K mg base N_law_sub "_law_sub" (defScope s_law_sub) f cdv A outer s H E) (wE E) (defBody s_law_sub) t_law_sub :=
  (w_one (w_ret (v_call bx G_law_add (hr.mono (by decide)) (v_cons (v_v 0) (v_cons (v_tup (v_cons (v_un p_neg (v_ix p_ix (v_v 1) v_int)) (v_cons (v_ix p_ix (v_v 1) v_int) v_nil))) v_nil)))))
/-! ### _law_mul -/
abbrev s_law_mul : Stmt := topS 25
theorem sc_law_mul : FnScope N_law_mul ["one", "two"] (defScope s_law_mul) := ⟨rfl, rfl, rfl, by decide +kernel, rfl, by decide +kernel, by decide +kernel⟩
theorem l_law_mul (G_law_ratio : FnV P w K mg base "_law_ratio" 2 ["p", "q"] sem_law_ratio) {f : Addr} (cdv : Value) (A : Around) (outer : List Env) (s : Shared) (H : Hp) (E : XK) (hr : Room 2 (A.deeper (envOfC "_law_mul" (defScope s_law_mul) s.heap.objs.size f cdv))) (bx : Bx (cxOf (L2.CX P w) P w K mg base N_law_mul "_law_mul" (defScope s_law_mul) f cdv A outer s H E) (wE E)) :
    PVSs (cxOf (L2.CX P w) P w K mg base N_law_mul "_law_mul" (defScope s_law_mul) f cdv A outer s H E) (wE E) (defBody s_law_mul) t_law_mul :=
  (w_cons (w_if (v_w (v_and (v_tcmp (p_eq (hu_eq hr)) (v_ix p_ix (v_v 0) v_int) v_int) (v_and1 (v_tcmp (p_eq (hu_eq hr)) (v_ix p_ix (v_v 1) v_int) v_int)))) (w_one (w_ret (v_tup (v_cons (v_op p_mul (v_ix p_ix (v_v 0) v_int) (v_ix p_ix (v_v 1) v_int)) (v_cons v_int v_nil))))) w_nil)
    (w_one (w_ret (v_call bx G_law_ratio (hr.mono (by decide)) (v_cons (v_op p_mul (v_ix p_ix (v_v 0) v_int) (v_ix p_ix (v_v 1) v_int)) (v_cons (v_op p_mul (v_ix p_ix (v_v 0) v_int) (v_ix p_ix (v_v 1) v_int)) v_nil))))))
/-! ### _law_zeros -/
abbrev s_law_zeros : Stmt := topS 26
theorem sc_law_zeros : FnScope N_law_zeros ["rows", "columns"] (defScope s_law_zeros) := ⟨rfl, rfl, rfl, by decide +kernel, rfl, by decide +kernel, by decide +kernel⟩
theorem l_law_zeros (m_range : mg "range" = none) {f : Addr} (cdv : Value) (A : Around) (outer : List Env) (s : Shared) (H : Hp) (E : XK) (hr : Room 0 (A.deeper (envOfC "_law_zeros" (defScope s_law_zeros) s.heap.objs.size f cdv))) (bx : Bx (cxOf (L2.CX P w) P w K mg base N_law_zeros "_law_zeros" (defScope s_law_zeros) f cdv A outer s H E) (wE E)) :
    PVSs (cxOf (L2.CX P w) P w K mg base N_law_zeros "_law_zeros" (defScope s_law_zeros) f cdv A outer s H E) (wE E) (defBody s_law_zeros) t_law_zeros :=
  (w_one (w_ret (v_lc bx [("row", 2)] (.one 2) (i_r1 m_range (v_v 0)) (blkOk_by (own := [("row", 2)]) (N := N_law_zeros) (by kernel_rfl)) (by decide) (fun _ _ _ _ _ => (pg_name (i := 2) (bx.blk _ _ _ _ _).nd rfl (by first | exact Or.inl rfl | exact Or.inr rfl))) (fun _ _ _ _ _ => tv_nil) (fun _ _ _ _ _ => (v_lc (bx.blk _ _ _ _ _) [("column", 3)] (.one 3) (i_r1 m_range (v_v 1)) (blkOk_by (own := [("column", 3)]) (N := N_law_zeros) (by kernel_rfl)) (by decide) (fun _ _ _ _ _ => (pg_name (i := 3) ((bx.blk _ _ _ _ _).blk _ _ _ _ _).nd rfl (by first | exact Or.inl rfl | exact Or.inr rfl))) (fun _ _ _ _ _ => tv_nil) (fun _ _ _ _ _ => (v_tup (v_cons v_int (v_cons v_int v_nil)))))))))
/-! ### _law_unit -/
abbrev s_law_unit : Stmt := topS 27
theorem sc_law_unit : FnScope N_law_unit ["size"] (defScope s_law_unit) := ⟨rfl, rfl, rfl, by decide +kernel, rfl, by decide +kernel, by decide +kernel⟩
theorem l_law_unit (m_range : mg "range" = none) (m_int : mg "int" = none) {f : Addr} (cdv : Value) (A : Around) (outer : List Env) (s : Shared) (H : Hp) (E : XK) (hr : Room 0 (A.deeper (envOfC "_law_unit" (defScope s_law_unit) s.heap.objs.size f cdv))) (bx : Bx (cxOf (L2.CX P w) P w K mg base N_law_unit "_law_unit" (defScope s_law_unit) f cdv A outer s H E) (wE E)) :
    PVSs (cxOf (L2.CX P w) P w K mg base N_law_unit "_law_unit" (defScope s_law_unit) f cdv A outer s H E) (wE E) (defBody s_law_unit) t_law_unit :=
  (w_one (w_ret (v_lc bx [("row", 1)] (.one 1) (i_r1 m_range (v_v 0)) (blkOk_by (own := [("row", 1)]) (N := N_law_unit) (by kernel_rfl)) (by decide) (fun _ _ _ _ _ => (pg_name (i := 1) (bx.blk _ _ _ _ _).nd rfl (by first | exact Or.inl rfl | exact Or.inr rfl))) (fun _ _ _ _ _ => tv_nil) (fun _ _ _ _ _ => (v_lc (bx.blk _ _ _ _ _) [("column", 2)] (.one 2) (i_r1 m_range (v_v 0)) (blkOk_by (own := [("column", 2)]) (N := N_law_unit) (by kernel_rfl)) (by decide) (fun _ _ _ _ _ => (pg_name (i := 2) ((bx.blk _ _ _ _ _).blk _ _ _ _ _).nd rfl (by first | exact Or.inl rfl | exact Or.inr rfl))) (fun _ _ _ _ _ => tv_nil) (fun _ _ _ _ _ => (v_tup (v_cons (v_ct p_int m_int b_int (v_cons (v_cmp (p_eq (hu_eq hr)) (v_v 1) (v_v 2)) v_nil)) (v_cons v_int v_nil)))))))))
/-! ### _law_zeros@o -/
abbrev s_law_zeros_at_o : Stmt := topS 26
theorem sc_law_zeros_at_o : FnScope N_law_zeros_at_o ["rows", "columns"] (defScope s_law_zeros_at_o) := ⟨rfl, rfl, rfl, by decide +kernel, rfl, by decide +kernel, by decide +kernel⟩
theorem l_law_zeros_at_o (m_range : mg "range" = none) {f : Addr} (cdv : Value) (A : Around) (outer : List Env) (s : Shared) (H : Hp) (E : XK) (hr : Room 0 (A.deeper (envOfC "_law_zeros" (defScope s_law_zeros_at_o) s.heap.objs.size f cdv))) (bx : Bx (cxOf (L2.CX P w) P w K mg base N_law_zeros_at_o "_law_zeros" (defScope s_law_zeros_at_o) f cdv A outer s H E) (wE E)) :
    PVSs (cxOf (L2.CX P w) P w K mg base N_law_zeros_at_o "_law_zeros" (defScope s_law_zeros_at_o) f cdv A outer s H E) (wE E) (defBody s_law_zeros_at_o) t_law_zeros_at_o :=
  (w_one (w_ret (v_lcO bx [("row", 2)] (.one 2) (i_r1 m_range (v_v 0)) (blkOk_by (own := [("row", 2)]) (N := N_law_zeros_at_o) (by kernel_rfl)) (by decide) (fun _ _ _ _ _ => (pg_name (i := 2) (bx.blk _ _ _ _ _).nd rfl (by first | exact Or.inl rfl | exact Or.inr rfl))) (fun _ _ _ _ _ => tv_nil) (fun _ _ _ _ _ => (v_lcO (bx.blk _ _ _ _ _) [("column", 3)] (.one 3) (i_r1 m_range (v_v 1)) (blkOk_by (own := [("column", 3)]) (N := N_law_zeros_at_o) (by kernel_rfl)) (by decide) (fun _ _ _ _ _ => (pg_name (i := 3) ((bx.blk _ _ _ _ _).blk _ _ _ _ _).nd rfl (by first | exact Or.inl rfl | exact Or.inr rfl))) (fun _ _ _ _ _ => tv_nil) (fun _ _ _ _ _ => (v_tup (v_cons v_int (v_cons v_int v_nil)))))))))
/-! ### _law_mmul -/
abbrev s_law_mmul : Stmt := topS 28
theorem sc_law_mmul : FnScope N_law_mmul ["one", "two"] (defScope s_law_mmul) := ⟨rfl, rfl, rfl, by decide +kernel, rfl, by decide +kernel, by decide +kernel⟩
theorem l_law_mmul (m_len : mg "len" = none) (m_range : mg "range" = none) (G_law_zeros_at_o : FnV P w K mg base "_law_zeros" 1 ["rows", "columns"] sem_law_zeros_at_o) (G_law_add : FnV P w K mg base "_law_add" 3 ["one", "two"] sem_law_add) (G_law_mul : FnV P w K mg base "_law_mul" 3 ["one", "two"] sem_law_mul) {f : Addr} (cdv : Value) (A : Around) (outer : List Env) (s : Shared) (H : Hp) (E : XK) (hr : Room 3 (A.deeper (envOfC "_law_mmul" (defScope s_law_mmul) s.heap.objs.size f cdv))) (bx : Bx (cxOf (L2.CX P w) P w K mg base N_law_mmul "_law_mmul" (defScope s_law_mmul) f cdv A outer s H E) (wE E)) :
    PVSs (cxOf (L2.CX P w) P w K mg base N_law_mmul "_law_mmul" (defScope s_law_mmul) f cdv A outer s H E) (wE E) (defBody s_law_mmul) t_law_mmul :=
  (w_cons (w_set (i := 2) bx (v_call bx G_law_zeros_at_o (hr.mono (by decide)) (v_cons (v_cb p_len m_len b_len (v_cons (v_v 0) v_nil)) (v_cons (v_cb p_len m_len b_len (v_cons (v_ix p_ix (v_v 1) v_int) v_nil)) v_nil))))
    (w_cons (v_wipe [3, 4, 5] (w_for bx (i_r1 m_range (v_cb p_len m_len b_len (v_cons (v_v 0) v_nil))) (h_nm (i := 3) bx.nd) (v_wipes [3, 4, 5] (w_one (v_wipe [4, 5] (w_for bx (i_r1 m_range (v_cb p_len m_len b_len (v_cons (v_v 1) v_nil))) (h_nm (i := 4) bx.nd) (v_wipes [4, 5] (w_one (v_wipe [5] (w_if (v_tcmp (p_ne (hu_eq hr)) (v_ix p_ix (v_ix p_ix (v_ix p_ix (v_v 0) (v_v 3)) (v_v 4)) v_int) v_int) (w_one (v_wipe [5] (w_for bx (i_r1 m_range (v_cb p_len m_len b_len (v_cons (v_ix p_ix (v_v 1) v_int) v_nil))) (h_nm (i := 5) bx.nd) (v_wipes [5] (w_one (w_if (v_tcmp (p_ne (hu_eq hr)) (v_ix p_ix (v_ix p_ix (v_ix p_ix (v_v 1) (v_v 4)) (v_v 5)) v_int) v_int) (w_one (w_asg (v_call bx G_law_add (hr.mono (by decide)) (v_cons (v_ix p_ix (v_ix p_ix (v_v 2) (v_v 3)) (v_v 5)) (v_cons (v_call bx G_law_mul (hr.mono (by decide)) (v_cons (v_ix p_ix (v_ix p_ix (v_v 0) (v_v 3)) (v_v 4)) (v_cons (v_ix p_ix (v_ix p_ix (v_v 1) (v_v 4)) (v_v 5)) v_nil))) v_nil))) (h_sub (Wx := wE E) (v_ix p_ix (v_v 2) (v_v 3)) (v_v 5)))) w_nil)))))) w_nil))))))))))
    (w_one (w_ret (v_v 2)))))
/-! ### _law_less -/
abbrev s_law_less : Stmt := topS 29
theorem sc_law_less : FnScope N_law_less ["row", "factor", "other"] (defScope s_law_less) := ⟨rfl, rfl, rfl, by decide +kernel, rfl, by decide +kernel, by decide +kernel⟩
theorem l_law_less (m_range : mg "range" = none) (m_len : mg "len" = none) (G_law_sub : FnV P w K mg base "_law_sub" 4 ["one", "two"] sem_law_sub) (G_law_mul : FnV P w K mg base "_law_mul" 3 ["one", "two"] sem_law_mul) {f : Addr} (cdv : Value) (A : Around) (outer : List Env) (s : Shared) (H : Hp) (E : XK) (hr : Room 4 (A.deeper (envOfC "_law_less" (defScope s_law_less) s.heap.objs.size f cdv))) (bx : Bx (cxOf (L2.CX P w) P w K mg base N_law_less "_law_less" (defScope s_law_less) f cdv A outer s H E) (wE E)) :
    PVSs (cxOf (L2.CX P w) P w K mg base N_law_less "_law_less" (defScope s_law_less) f cdv A outer s H E) (wE E) (defBody s_law_less) t_law_less :=
  (w_one (w_ret (v_lc bx [("k", 3)] (.one 3) (i_r1 m_range (v_cb p_len m_len b_len (v_cons (v_v 0) v_nil))) (blkOk_by (own := [("k", 3)]) (N := N_law_less) (by kernel_rfl)) (by decide) (fun _ _ _ _ _ => (pg_name (i := 3) (bx.blk _ _ _ _ _).nd rfl (by first | exact Or.inl rfl | exact Or.inr rfl))) (fun _ _ _ _ _ => tv_nil) (fun _ _ _ _ _ => (v_call (bx.blk _ _ _ _ _) G_law_sub (hr.mono (by decide)) (v_cons (v_ix p_ix (v_v 0) (v_v 3)) (v_cons (v_call (bx.blk _ _ _ _ _) G_law_mul (hr.mono (by decide)) (v_cons (v_v 1) (v_cons (v_ix p_ix (v_v 2) (v_v 3)) v_nil))) v_nil)))))))
/-! ### _law_steps -/
abbrev s_law_steps : Stmt := topS 30
theorem sc_law_steps : FnScope N_law_steps ["rows"] (defScope s_law_steps) := ⟨rfl, rfl, rfl, by decide +kernel, rfl, by decide +kernel, by decide +kernel⟩
theorem l_law_steps (m_list : mg "list" = none) (m_range : mg "range" = none) (m_len : mg "len" = none) (G_law_ratio : FnV P w K mg base "_law_ratio" 2 ["p", "q"] sem_law_ratio) (G_law_mul : FnV P w K mg base "_law_mul" 3 ["one", "two"] sem_law_mul) (G_law_less : FnV P w K mg base "_law_less" 5 ["row", "factor", "other"] sem_law_less) {f : Addr} (cdv : Value) (A : Around) (outer : List Env) (s : Shared) (H : Hp) (E : XK) (hr : Room 5 (A.deeper (envOfC "_law_steps" (defScope s_law_steps) s.heap.objs.size f cdv))) (bx : Bx (cxOf (L2.CX P w) P w K mg base N_law_steps "_law_steps" (defScope s_law_steps) f cdv A outer s H E) (wE E)) :
    PVSs (cxOf (L2.CX P w) P w K mg base N_law_steps "_law_steps" (defScope s_law_steps) f cdv A outer s H E) (wE E) (defBody s_law_steps) t_law_steps :=
  (w_cons (w_set (i := 0) bx (v_lcO bx [("row", 5)] (.one 5) (i_sq (v_v 0)) (blkOk_by (own := [("row", 5)]) (N := N_law_steps) (by kernel_rfl)) (by decide) (fun _ _ _ _ _ => (pg_name (i := 5) (bx.blk _ _ _ _ _).nd rfl (by first | exact Or.inl rfl | exact Or.inr rfl))) (fun _ _ _ _ _ => tv_nil) (fun _ _ _ _ _ => (v_ct p_list m_list b_list (v_cons (v_v 5) v_nil)))))
    (w_cons (w_set (i := 1) bx v_int)
    (w_cons (w_set (i := 2) bx (v_lstO v_nil))
    (w_cons (v_wipe [3, 4, 5, 6, 7] (w_for bx (i_r1 m_range (v_ifE (v_tcmp (p_ne (hu_eq hr)) (v_v 0) (v_lst v_nil)) (v_cb p_len m_len b_len (v_cons (v_ix p_ix (v_v 0) v_int) v_nil)) v_int)) (h_nm (i := 3) bx.nd) (v_wipes [3, 4, 5, 6, 7] (w_cons (w_setLc (i := 4) bx [("k", 7)] (.one 7) (i_r2 m_range (v_v 1) (v_cb p_len m_len b_len (v_cons (v_v 0) v_nil))) (blkOk_by (own := [("k", 7)]) (N := N_law_steps) (by kernel_rfl)) (by decide) (fun _ _ _ _ _ => (pg_name (i := 7) (bx.blk _ _ _ _ _).nd rfl (by first | exact Or.inl rfl | exact Or.inr rfl))) (fun _ _ _ _ _ => (tv_one (v_tcmp (p_ne (hu_eq hr)) (v_ix p_ix (v_ix p_ix (v_ix p_ix (v_v 0) (v_v 7)) (v_v 3)) v_int) v_int))) (fun _ _ _ _ _ => (v_v 7)))
    (w_one (v_wipe [5, 6, 7] (w_if (v_tcmp (p_ne (hu_eq hr)) (v_v 4) (v_lst v_nil)) (w_cons (w_set (i := 5) bx (v_ix p_ix (v_v 0) (v_ix p_ix (v_v 4) v_int)))
    (w_cons (w_asg (v_ix p_ix (v_v 0) (v_v 1)) (h_sub (Wx := wE E) (v_v 0) (v_ix p_ix (v_v 4) v_int)))
    (w_cons (w_set (i := 6) bx (v_call bx G_law_ratio (hr.mono (by decide)) (v_cons (v_ix p_ix (v_ix p_ix (v_v 5) (v_v 3)) v_int) (v_cons (v_ix p_ix (v_ix p_ix (v_v 5) (v_v 3)) v_int) v_nil))))
    (w_cons (w_asg (v_lc bx [("entry", 8)] (.one 8) (i_sq (v_v 5)) (blkOk_by (own := [("entry", 8)]) (N := N_law_steps) (by kernel_rfl)) (by decide) (fun _ _ _ _ _ => (pg_name (i := 8) (bx.blk _ _ _ _ _).nd rfl (by first | exact Or.inl rfl | exact Or.inr rfl))) (fun _ _ _ _ _ => tv_nil) (fun _ _ _ _ _ => (v_call (bx.blk _ _ _ _ _) G_law_mul (hr.mono (by decide)) (v_cons (v_v 6) (v_cons (v_v 8) v_nil))))) (h_sub (Wx := wE E) (v_v 0) (v_v 1)))
    (w_cons (v_wipe [7] (w_for bx (i_r1 m_range (v_cb p_len m_len b_len (v_cons (v_v 0) v_nil))) (h_nm (i := 7) bx.nd) (v_wipes [7] (w_one (w_if (v_w (v_and (v_tcmp (p_ne (hu_eq hr)) (v_v 7) (v_v 1)) (v_and1 (v_tcmp (p_ne (hu_eq hr)) (v_ix p_ix (v_ix p_ix (v_ix p_ix (v_v 0) (v_v 7)) (v_v 3)) v_int) v_int)))) (w_one (w_asg (v_call bx G_law_less (hr.mono (by decide)) (v_cons (v_ix p_ix (v_v 0) (v_v 7)) (v_cons (v_ix p_ix (v_ix p_ix (v_v 0) (v_v 7)) (v_v 3)) (v_cons (v_ix p_ix (v_v 0) (v_v 1)) v_nil)))) (h_sub (Wx := wE E) (v_v 0) (v_v 7)))) w_nil)))))
    (w_cons (w_expr (v_append (v_v 2) (v_v 3)))
    (w_one (w_set (i := 1) bx (v_op p_add (v_v 1) v_int))))))))) w_nil)))))))
    (w_one (w_ret (v_lst (v_cons (v_sl p_sl (v_v 0) v_noP (v_part (v_v 1))) (v_cons (v_v 2) v_nil)))))))))
/-! ### _law_minv -/
abbrev s_law_minv : Stmt := topS 31
theorem sc_law_minv : FnScope N_law_minv ["one"] (defScope s_law_minv) := ⟨rfl, rfl, rfl, by decide +kernel, rfl, by decide +kernel, by decide +kernel⟩
theorem l_law_minv (m_len : mg "len" = none) (m_range : mg "range" = none) (m_list : mg "list" = none) (G_law_unit : FnV P w K mg base "_law_unit" 1 ["size"] sem_law_unit) (G_law_steps : FnV P w K mg base "_law_steps" 6 ["rows"] sem_law_steps) {f : Addr} (cdv : Value) (A : Around) (outer : List Env) (s : Shared) (H : Hp) (E : XK) (hr : Room 6 (A.deeper (envOfC "_law_minv" (defScope s_law_minv) s.heap.objs.size f cdv))) (bx : Bx (cxOf (L2.CX P w) P w K mg base N_law_minv "_law_minv" (defScope s_law_minv) f cdv A outer s H E) (wE E)) :
    PVSs (cxOf (L2.CX P w) P w K mg base N_law_minv "_law_minv" (defScope s_law_minv) f cdv A outer s H E) (wE E) (defBody s_law_minv) t_law_minv :=
  (w_cons (w_set (i := 1) bx (v_cb p_len m_len b_len (v_cons (v_v 0) v_nil)))
    (w_cons (w_setLc (i := 2) bx [("k", 5)] (.one 5) (i_r1 m_range (v_v 1)) (blkOk_by (own := [("k", 5)]) (N := N_law_minv) (by kernel_rfl)) (by decide) (fun _ _ _ _ _ => (pg_name (i := 5) (bx.blk _ _ _ _ _).nd rfl (by first | exact Or.inl rfl | exact Or.inr rfl))) (fun _ _ _ _ _ => tv_nil) (fun _ _ _ _ _ => (v_op p_add (v_ix p_ix (v_v 0) (v_v 5)) (v_ix p_ix (v_call (bx.blk _ _ _ _ _) G_law_unit (hr.mono (by decide)) (v_cons (v_v 1) v_nil)) (v_v 5)))))
    (w_cons (w_asg (v_call bx G_law_steps (hr.mono (by decide)) (v_cons (v_v 2) v_nil)) (h_tpL bx.calm (h_cs (h_nm (i := 3) bx.nd) (h_cs (h_nm (i := 4) bx.nd) h_end))))
    (w_cons (w_if (v_tcmp (p_ne (hu_eq hr)) (v_sl p_sl (v_v 4) v_noP (v_part (v_v 1))) (v_listR bx m_list m_range (v_v 1))) (w_one (w_ret v_non)) w_nil)
    (w_one (w_ret (v_lc bx [("row", 6)] (.one 6) (i_sq (v_v 3)) (blkOk_by (own := [("row", 6)]) (N := N_law_minv) (by kernel_rfl)) (by decide) (fun _ _ _ _ _ => (pg_name (i := 6) (bx.blk _ _ _ _ _).nd rfl (by first | exact Or.inl rfl | exact Or.inr rfl))) (fun _ _ _ _ _ => tv_nil) (fun _ _ _ _ _ => (v_sl p_sl (v_v 6) (v_part (v_v 1)) v_noP)))))))))
/-! ### _law_det -/
abbrev s_law_det : Stmt := topS 32
theorem sc_law_det : FnScope N_law_det ["rows"] (defScope s_law_det) := ⟨rfl, rfl, rfl, by decide +kernel, rfl, by decide +kernel, by decide +kernel⟩
theorem l_law_det (m_range : mg "range" = none) (m_len : mg "len" = none) (m_int : mg "int" = none) (G_law_mul : FnV P w K mg base "_law_mul" 3 ["one", "two"] sem_law_mul) {r : FV} {n : Nat} (G_law_det : FnV P w K mg base "_law_det" (4 + n) ["rows"] r) (G_law_sub : FnV P w K mg base "_law_sub" 4 ["one", "two"] sem_law_sub) (G_law_add : FnV P w K mg base "_law_add" 3 ["one", "two"] sem_law_add) {f : Addr} (cdv : Value) (A : Around) (outer : List Env) (s : Shared) (H : Hp) (E : XK) (hr : Room (4 + n) (A.deeper (envOfC "_law_det" (defScope s_law_det) s.heap.objs.size f cdv))) (bx : Bx (cxOf (L2.CX P w) P w K mg base N_law_det "_law_det" (defScope s_law_det) f cdv A outer s H E) (wE E)) :
    PVSs (cxOf (L2.CX P w) P w K mg base N_law_det "_law_det" (defScope s_law_det) f cdv A outer s H E) (wE E) (defBody s_law_det) (t_law_det r) :=
  (w_cons (w_if (v_tcmp (p_eq (hu_eq hr)) (v_v 0) (v_lst v_nil)) (w_one (w_ret (v_tup (v_cons v_int (v_cons v_int v_nil))))) w_nil)
    (w_cons (w_set (i := 1) bx (v_tup (v_cons v_int (v_cons v_int v_nil))))
    (w_cons (v_wipe [2, 3, 4] (w_for bx (i_r1 m_range (v_cb p_len m_len b_len (v_cons (v_v 0) v_nil))) (h_nm (i := 2) bx.nd) (v_wipes [2, 3, 4] (w_cons (w_setLc (i := 3) bx [("row", 5)] (.one 5) (i_sq (v_sl p_sl (v_v 0) (v_part v_int) v_noP)) (blkOk_by (own := [("row", 5)]) (N := N_law_det) (by kernel_rfl)) (by decide) (fun _ _ _ _ _ => (pg_name (i := 5) (bx.blk _ _ _ _ _).nd rfl (by first | exact Or.inl rfl | exact Or.inr rfl))) (fun _ _ _ _ _ => tv_nil) (fun _ _ _ _ _ => (v_op p_add (v_sl p_sl (v_v 5) v_noP (v_part (v_v 2))) (v_sl p_sl (v_v 5) (v_part (v_op p_add (v_v 2) v_int)) v_noP))))
    (w_cons (w_set (i := 4) bx (v_ifE (v_tcmp (p_ne (hu_eq hr)) (v_ix p_ix (v_ix p_ix (v_ix p_ix (v_v 0) v_int) (v_v 2)) v_int) v_int) (v_call bx G_law_mul (hr.mono (by omega)) (v_cons (v_ix p_ix (v_ix p_ix (v_v 0) v_int) (v_v 2)) (v_cons (v_call bx G_law_det (hr.mono (by omega)) (v_cons (v_v 3) v_nil)) v_nil))) (v_tup (v_cons v_int (v_cons v_int v_nil)))))
    (w_one (w_set (i := 1) bx (v_ifE (v_tcmp (p_eq (hu_eq hr)) (v_op p_mod (v_ct p_int m_int b_int (v_cons (v_v 2) v_nil)) v_int) v_int) (v_call bx G_law_sub (hr.mono (by omega)) (v_cons (v_v 1) (v_cons (v_v 4) v_nil))) (v_call bx G_law_add (hr.mono (by omega)) (v_cons (v_v 1) (v_cons (v_v 4) v_nil)))))))))))
    (w_one (w_ret (v_v 1))))))
/-! ### _law_told -/
abbrev s_law_told : Stmt := topS 33
theorem sc_law_told : FnScope N_law_told ["rows"] (defScope s_law_told) := ⟨rfl, rfl, rfl, by decide +kernel, rfl, by decide +kernel, by decide +kernel⟩
theorem l_law_told {c_NoInverse : Addr} (mx_NoInverse : mg "NoInverse" = some (.ref c_NoInverse)) (so_NoInverse : SubOk K (.ref c_NoInverse) [("NoInverse", true)]) (G_inverse_of : FnV P w K mg base "inverse_of" 6 ["one"] sem_inverse_of) {f : Addr} (cdv : Value) (A : Around) (outer : List Env) (s : Shared) (H : Hp) (E : XK) (hr : Room 6 (A.deeper (envOfC "_law_told" (defScope s_law_told) s.heap.objs.size f cdv))) (bx : Bx (cxOf (L2.CX P w) P w K mg base N_law_told "_law_told" (defScope s_law_told) f cdv A outer s H E) (wE E)) :
    PVSs (cxOf (L2.CX P w) P w K mg base N_law_told "_law_told" (defScope s_law_told) f cdv A outer s H E) (wE E) (defBody s_law_told) t_law_told :=
  (w_one (w_try bx rfl rfl ⟨rfl, by decide, .inl mx_NoInverse⟩ so_NoInverse (fun W pn xe bx => (w_one (w_ret (v_call bx G_inverse_of (hr.mono (by decide)) (v_cons (v_v 0) v_nil))))) (fun a oe pn => (w_one (w_ret v_non)))))
/-! ### law -/
abbrev s_law : Stmt := topS 34
theorem sc_law : FnScope N_law ["script"] (defScope s_law) := ⟨rfl, rfl, rfl, by decide +kernel, rfl, by decide +kernel, by decide +kernel⟩
theorem l_law (m_range : mg "range" = none) (m_list : mg "list" = none) (G_law_big : FnV P w K mg base "_law_big" 2 ["script", "at", "count"] sem_law_big) (G_law_take : FnV P w K mg base "_law_take" 1 ["state", "m"] sem_law_take) (G_law_ratio : FnV P w K mg base "_law_ratio" 2 ["p", "q"] sem_law_ratio) (G_law_mul : FnV P w K mg base "_law_mul" 3 ["one", "two"] sem_law_mul) (G_law_add : FnV P w K mg base "_law_add" 3 ["one", "two"] sem_law_add) (G_law_minv : FnV P w K mg base "_law_minv" 7 ["one"] sem_law_minv) (G_law_told : FnV P w K mg base "_law_told" 7 ["rows"] sem_law_told) (G_determinant : FnV P w K mg base "determinant" 6 ["one"] sem_determinant) (G_law_is_ratio : FnV P w K mg base "_law_is_ratio" 2 ["pair"] sem_law_is_ratio) (G_law_det : FnV P w K mg base "_law_det" 11 ["rows"] (sem_law_det 7)) (G_law_mmul : FnV P w K mg base "_law_mmul" 4 ["one", "two"] sem_law_mmul) (G_law_unit : FnV P w K mg base "_law_unit" 1 ["size"] sem_law_unit) {f : Addr} (cdv : Value) (A : Around) (outer : List Env) (s : Shared) (H : Hp) (E : XK) (hr : Room 11 (A.deeper (envOfC "law" (defScope s_law) s.heap.objs.size f cdv))) (bx : Bx (cxOf (L2.CX P w) P w K mg base N_law "law" (defScope s_law) f cdv A outer s H E) (wE E)) :
    PVSs (cxOf (L2.CX P w) P w K mg base N_law "law" (defScope s_law) f cdv A outer s H E) (wE E) (defBody s_law) t_law :=
  (w_cons (w_set (i := 1) bx (v_call bx G_law_big (hr.mono (by decide)) (v_cons (v_v 0) (v_cons v_int (v_cons v_int v_nil)))))
    (w_cons (w_set (i := 2) bx (v_op p_add v_int (v_call bx G_law_take (hr.mono (by decide)) (v_cons (v_v 1) (v_cons v_int v_nil)))))
    (w_cons (w_set (i := 3) bx (v_lcO bx [("row", 8)] (.one 8) (i_r1 m_range (v_v 2)) (blkOk_by (own := [("row", 8)]) (N := N_law) (by kernel_rfl)) (by decide) (fun _ _ _ _ _ => (pg_name (i := 8) (bx.blk _ _ _ _ _).nd rfl (by first | exact Or.inl rfl | exact Or.inr rfl))) (fun _ _ _ _ _ => tv_nil) (fun _ _ _ _ _ => (v_lc (bx.blk _ _ _ _ _) [("column", 9)] (.one 9) (i_r1 m_range (v_v 2)) (blkOk_by (own := [("column", 9)]) (N := N_law) (by kernel_rfl)) (by decide) (fun _ _ _ _ _ => (pg_name (i := 9) ((bx.blk _ _ _ _ _).blk _ _ _ _ _).nd rfl (by first | exact Or.inl rfl | exact Or.inr rfl))) (fun _ _ _ _ _ => tv_nil) (fun _ _ _ _ _ => (v_call ((bx.blk _ _ _ _ _).blk _ _ _ _ _) G_law_ratio (hr.mono (by decide)) (v_cons (v_op p_sub (v_call ((bx.blk _ _ _ _ _).blk _ _ _ _ _) G_law_take (hr.mono (by decide)) (v_cons (v_v 1) (v_cons v_int v_nil))) v_int) (v_cons (v_op p_add v_int (v_call ((bx.blk _ _ _ _ _).blk _ _ _ _ _) G_law_take (hr.mono (by decide)) (v_cons (v_v 1) (v_cons v_int v_nil)))) v_nil))))))))
    (w_cons (w_if (v_w (v_and (v_tcmp (p_eq (hu_eq hr)) (v_call bx G_law_take (hr.mono (by decide)) (v_cons (v_v 1) (v_cons v_int v_nil))) v_int) (v_and1 (v_tcmp p_gt (v_v 2) v_int)))) (w_cons (w_asg (v_lc bx [("entry", 10)] (.one 10) (i_sq (v_ix p_ix (v_v 3) v_int)) (blkOk_by (own := [("entry", 10)]) (N := N_law) (by kernel_rfl)) (by decide) (fun _ _ _ _ _ => (pg_name (i := 10) (bx.blk _ _ _ _ _).nd rfl (by first | exact Or.inl rfl | exact Or.inr rfl))) (fun _ _ _ _ _ => tv_nil) (fun _ _ _ _ _ => (v_call (bx.blk _ _ _ _ _) G_law_mul (hr.mono (by decide)) (v_cons (v_tup (v_cons v_int (v_cons v_int v_nil))) (v_cons (v_v 10) v_nil))))) (h_sub (Wx := wE E) (v_v 3) (v_un p_neg v_int)))
    (w_one (w_if (v_tcmp (p_eq (hu_eq hr)) (v_call bx G_law_take (hr.mono (by decide)) (v_cons (v_v 1) (v_cons v_int v_nil))) v_int) (w_one (w_asg (v_ifE (v_tcmp p_gt (v_v 2) v_int) (v_lc bx [("k", 11)] (.one 11) (i_r1 m_range (v_v 2)) (blkOk_by (own := [("k", 11)]) (N := N_law) (by kernel_rfl)) (by decide) (fun _ _ _ _ _ => (pg_name (i := 11) (bx.blk _ _ _ _ _).nd rfl (by first | exact Or.inl rfl | exact Or.inr rfl))) (fun _ _ _ _ _ => tv_nil) (fun _ _ _ _ _ => (v_call (bx.blk _ _ _ _ _) G_law_add (hr.mono (by decide)) (v_cons (v_ix p_ix (v_ix p_ix (v_v 3) (v_un p_neg v_int)) (v_v 11)) (v_cons (v_ix p_ix (v_ix p_ix (v_v 3) (v_un p_neg v_int)) (v_v 11)) v_nil))))) (v_ix p_ix (v_v 3) (v_un p_neg v_int))) (h_sub (Wx := wE E) (v_v 3) (v_un p_neg v_int)))) w_nil))) w_nil)
    (v_seal (oAt 3) [3] (w_cons (w_setLc (i := 4) bx [("row", 8)] (.one 8) (i_sq (v_v 3)) (blkOk_by (own := [("row", 8)]) (N := N_law) (by kernel_rfl)) (by decide) (fun _ _ _ _ _ => (pg_name (i := 8) (bx.blk _ _ _ _ _).nd rfl (by first | exact Or.inl rfl | exact Or.inr rfl))) (fun _ _ _ _ _ => tv_nil) (fun _ _ _ _ _ => (v_ct p_list m_list b_list (v_cons (v_v 8) v_nil))))
    (w_cons (w_set (i := 5) bx (v_call bx G_law_minv (hr.mono (by decide)) (v_cons (v_v 3) v_nil)))
    (w_cons (w_set (i := 6) bx (v_call bx G_law_told (hr.mono (by decide)) (v_cons (v_v 3) v_nil)))
    (w_cons (w_set (i := 7) bx (v_call bx G_determinant (hr.mono (by decide)) (v_cons (v_v 3) v_nil)))
    (w_cons (w_if (v_w (v_or (v_tcmp (p_ne (hu_eq hr)) (v_v 6) (v_v 5)) (v_or (v_tcmp (p_ne (hu_eq hr)) (v_v 3) (v_v 4)) (v_or (v_not (v_tst (v_call bx G_law_is_ratio (hr.mono (by decide)) (v_cons (v_v 7) v_nil)))) (v_or1 (v_tcmp (p_ne (hu_eq hr)) (v_v 7) (v_call bx G_law_det (hr.mono (by decide)) (v_cons (v_v 3) v_nil)))))))) (w_one (w_ret v_bl)) w_nil)
    (w_cons (w_if (v_tcmp (p_ne (hu_eq hr)) (v_cmp (p_eq (hu_eq hr)) (v_ix p_ix (v_v 7) v_int) v_int) (v_cmp p_is (v_v 5) v_non)) (w_one (w_ret v_bl)) w_nil)
    (w_one (w_ret (v_orV (v_cmp p_is (v_v 5) v_non) (v_oneV (v_andV (v_cmp (p_eq (hu_eq hr)) (v_call bx G_law_mmul (hr.mono (by decide)) (v_cons (v_v 6) (v_cons (v_v 3) v_nil))) (v_call bx G_law_unit (hr.mono (by decide)) (v_cons (v_v 2) v_nil))) (v_oneV (v_cmp (p_eq (hu_eq hr)) (v_call bx G_law_mmul (hr.mono (by decide)) (v_cons (v_v 3) (v_cons (v_v 6) v_nil))) (v_call bx G_law_unit (hr.mono (by decide)) (v_cons (v_v 2) v_nil))))))))))))))))))))
end
end K02
/-! k02: the law. -/
namespace K02
open PySem PySem.W L2 UZ
/-! ### plain -/
/-- halves of small whole numbers -/
def HB (b : Nat) (x : Rat) : Prop := ∃ N : Int, N.natAbs ≤ b ∧ x * 2 = (N : Rat)
theorem HB.mono {b c : Nat} {x : Rat} (h : HB b x) (hl : b ≤ c) : HB c x := by
  obtain ⟨N, h1, h2⟩ := h
  exact ⟨N, by omega, h2⟩
theorem HB.two {b : Nat} {x : Rat} (h : HB b x) : HB (2 * b) (2 * x) := by
  obtain ⟨N, h1, h2⟩ := h
  refine ⟨2 * N, by omega, ?_⟩
  rw [Rat.intCast_mul, ← h2]
  show 2 * x * 2 = 2 * (x * 2)
  grind
theorem HB.add {b c : Nat} {x y : Rat} (h : HB b x) (g : HB c y) : HB (b + c) (x + y) := by
  obtain ⟨N, h1, h2⟩ := h
  obtain ⟨M, g1, g2⟩ := g
  refine ⟨N + M, by omega, ?_⟩
  rw [Rat.intCast_add, ← h2, ← g2]
  grind
theorem HB.num {b : Nat} {x : Rat} (h : HB b x) : (x * 2).num.natAbs ≤ b ∧ x * 2 = ((x * 2).num : Rat) := by
  obtain ⟨N, h1, h2⟩ := h
  rw [h2]
  exact ⟨h1, rfl⟩
theorem HB.sz {x : Rat} (h : HB 24 x) : sz x 5 := by
  obtain ⟨N, h1, h2⟩ := h
  have : x = Rat.divInt N 2 := by rw [Rat.divInt_eq_div, ← h2]; show x = x * 2 / 2; grind
  rw [this]
  exact sz_divInt (by omega) (by decide) (by decide)
theorem rb_of {n : Nat} {A : Fm} (h : ∀ k j, k < n → j < n → HB 24 (A k j)) : RB A n n 5 := fun k hk =>
  ⟨2, fun j => (A k j * 2).num, by decide, by decide, fun j hj => ⟨by show (A k j * 2).num.natAbs < 2 ^ 5; have := (h k j hk hj).num.1; omega, (h k j hk hj).num.2⟩⟩
theorem rb_aug {n : Nat} {A : Fm} (h : ∀ k j, k < n → j < n → HB 24 (A k j)) : RB (aug n A) n (n + n) 5 := fun k hk => by
  refine ⟨2, fun j => if j < n then (A k j * 2).num else if k + n = j then 2 else 0, by decide, by decide, fun j hj => ?_⟩
  unfold aug
  by_cases h1 : j < n
  · simp only [if_pos h1]
    exact ⟨by have := (h k j hk h1).num.1; omega, (h k j hk h1).num.2⟩
  · simp only [if_neg h1]
    by_cases h2 : k + n = j
    · simp only [if_pos h2]; exact ⟨by decide, by show (1 : Rat) * 2 = 2; grind⟩
    · simp only [if_neg h2]; exact ⟨by decide, by show (0 : Rat) * 2 = 0; grind⟩
theorem zip_rng {α β : Type} {n : Nat} {f : Nat → α} {g : Nat → β} : ((List.range n).map f).zip ((List.range n).map g) = (List.range n).map fun i => (f i, g i) := List.zip_map'
theorem rstep_rowf {q : Nat} {u v : Nat → Rat} {c : Rat} : rstep (rowf q u) (c, rowf q v) = rowf q fun j => u j + c * v j := by
  unfold rstep
  rw [zip_rng, List.map_map]; rfl
theorem rsum_gen {n q : Nat} {F : Nat → Rat} {G : Fm} : rsum (rowf n F) (gen n q G) q = rowf q fun j => sumN n fun i => F i * G i j := by
  unfold rsum gen
  rw [zip_rng, List.foldl_map]
  have : ∀ m, (List.range m).foldl (fun x y => rstep x (F y, (List.range q).map fun j => G y j)) (List.replicate q 0) = rowf q fun j => sumN m fun i => F i * G i j := fun m => by
    induction m with
    | zero =>
      show List.replicate q 0 = rowf q fun _ => 0
      unfold rowf; rw [map_const_range]
    | succ m ih =>
      rw [List.range_succ, List.foldl_append, ih]
      exact rstep_rowf
  exact this n
theorem mmul_gen {p n q : Nat} {F G : Fm} : mmul (gen p n F) (gen n q G) q = gen p q fun k j => sumN n fun i => F k i * G i j := by
  unfold mmul
  show ((List.range p).map _).map _ = _
  rw [List.map_map]
  apply List.map_congr_left
  intro k _
  exact rsum_gen
theorem gen_congr {p q : Nat} {F G : Fm} (h : ∀ k j, k < p → j < q → F k j = G k j) : gen p q F = gen p q G := by
  apply List.map_congr_left
  intro k hk
  apply List.map_congr_left
  intro j hj
  exact h k j (List.mem_range.mp hk) (List.mem_range.mp hj)
theorem dim_gen {p q : Nat} {F : Fm} : Dim (gen p q F) p q := ⟨gen_len, fun r hr => by
  unfold gen at hr
  obtain ⟨k, _, rfl⟩ := List.mem_map.mp hr
  rw [List.length_map, List.length_range]⟩
theorem mb_gen {p q n : Nat} {F : Fm} (h : ∀ k j, k < p → j < q → sz (F k j) n) : MB (gen p q F) n := fun r hr x hx => by
  unfold gen at hr
  obtain ⟨k, hk, rfl⟩ := List.mem_map.mp hr
  obtain ⟨j, hj, rfl⟩ := List.mem_map.mp hx
  exact h k j (List.mem_range.mp hk) (List.mem_range.mp hj)
theorem dRow_rowf {q : Nat} {g : Nat → Rat} : dRow (rowf q g) = .list ((List.range q).map fun j => dR (g j)) := by
  show PyData.list (((List.range q).map g).map dR) = _
  rw [List.map_map]; rfl
/-! ### the state and the rows -/
def S (v : Int) (n : Nat) (f : Fm) : List Ob := stO v [.lst (rws n n f)]
section
variable {v : Int} {n : Nat} {f : Fm}
theorem take_S {m : Int} (h0 : 0 < m) (hl : m.natAbs < 2 ^ 9000) : ∃ (r : Nat) (v' : Int), (r : Int) < m ∧ sem_law_take [.o 0, .d (.int m)] (S v n f) = .ok (.d (.int r)) (S v' n f) := take_ex (T := [.lst (rws n n f)]) h0 hl
theorem ix_S {k : Nat} (h : k < n) : uIx (.o 1) (.d (.int (k : Int))) (S v n f) = some (.d (dRow (rowf n (f k))), S v n f) := ix_E (O := stO v []) (X := []) h
theorem at_neg {α : Type} {xs : List α} {m : Nat} (h0 : 0 < m) (h : m ≤ xs.length) : ixN xs.length (-(m : Int)) = some (xs.length - m) := by
  unfold ixN
  rw [if_neg (by omega), if_pos (by omega)]
  congr 1
  omega
theorem ix_Sm {m : Nat} (h0 : 0 < m) (h : m ≤ n) : uIx (.o 1) (.d (.int (-(m : Int)))) (S v n f) = some (.d (dRow (rowf n (f (n - m)))), S v n f) := by
  have e : (S v n f)[1]? = some (.lst (rws n n f)) := rfl
  unfold uIx
  simp only [tv_o, lv_o e]
  have h1 := at_neg (xs := rws n n f) h0 (by rw [rws_len]; exact h)
  unfold atI
  rw [h1, rws_len]
  show ((rws n n f)[n - m]?).map _ = _
  rw [rws_get (by omega)]; rfl
theorem set_Sm (h : 0 < n) (g : Nat → Rat) : kSet (.o 1) (.d (.int (-1))) (.d (dRow (rowf n g))) (S v n f) = some (S v n (upd f (n - 1) g)) := by
  have e : (S v n f)[1]? = some (.lst (rws n n f)) := rfl
  unfold kSet
  dsimp only
  rw [e]
  dsimp only
  have h1 := at_neg (xs := rws n n f) (m := 1) (by decide) (by rw [rws_len]; exact h)
  rw [show (-((1 : Nat) : Int)) = -1 from rfl] at h1
  rw [h1, rws_len]
  show some ((S v n f).set 1 (.lst ((rws n n f).set (n - 1) (.d (dRow (rowf n g)))))) = _
  rw [rws_set (by omega)]; rfl
end
theorem lcO_ex {α β : Type} {it : VI} {g : Tg} {tt : VT} {te : VE} {us : List Nat} {Γ : Gm} {O O1 : List Ob} {chk : Chk} (l : List α) (f : α → W) (h : β → W) (J : List Ob → Prop) (P : β → Prop) (hi : it Γ O = .ok (l.map f, chk) O1) (hc : ∀ O, J O → chkOf chk O) (hj : J O1) (hl : l.length ≤ 16777216)
    (e : ∀ O x, x ∈ l → J O → ∃ y O', lcF g tt te (wipeD Γ us) (f x) O = .ok (some (h y)) O' ∧ P y ∧ J O') : ∃ (ys : List β) (O' : List Ob), vLcO it g tt te us Γ O = .ok (.o O'.length) (O' ++ [.lst (ys.map h)]) ∧ ys.length = l.length ∧ (∀ y ∈ ys, P y) ∧ J O' := by
  obtain ⟨ys, O', e1, e2, e3, e4⟩ := lcV_ex f h J P hc l O1 hj e
  refine ⟨ys, O', ?_, e2, e3, e4⟩
  show vLcM mkO it g tt te us Γ O = _
  rw [e_LcM, hi, R.bind_ok]
  dsimp only
  rw [e1]
  show (if (ys.map h).length ≤ sizeLine then R.ok _ _ else .bad) = _
  rw [if_pos (by rw [List.length_map, sizeLine_val, e2]; exact hl)]
  rfl
theorem half_ex {r1 r2 : Nat} (h1 : (r1 : Int) < 7) (h2 : (r2 : Int) < 2) : HB 6 (Rat.divInt ((r1 : Int) - 3) (1 + r2)) := by
  have : r2 = 0 ∨ r2 = 1 := by omega
  rcases this with rfl | rfl
  · refine ⟨2 * ((r1 : Int) - 3), by omega, ?_⟩
    rw [Rat.divInt_eq_div, Rat.intCast_mul]
    show ((r1 : Int) - 3 : Int) / ((1 + (0 : Nat) : Int) : Rat) * 2 = 2 * _
    rw [show ((1 + (0 : Nat) : Int) : Rat) = 1 from rfl]
    grind
  · refine ⟨(r1 : Int) - 3, by omega, ?_⟩
    rw [Rat.divInt_eq_div]
    rw [show ((1 + (1 : Nat) : Int) : Rat) = 2 from rfl]
    grind
/-- the rows drawn -/
theorem rows_ex {v : Int} {n : Nat} {w0 : W} (hn : n ≤ 1000) : ∃ (f : Fm) (v' : Int), (∀ k j, k < n → j < n → HB 6 (f k j)) ∧
    vLcO (iR1 (vV 2)) (.one 8) vYes (vLc (iR1 (vV 2)) (.one 9) vYes (vCall 2 sem_law_ratio (vCons (vOp uSub (vCall 2 sem_law_take (vCons (vV 1) (vCons (vC (.int 7)) vNil))) (vC (.int 3))) (vCons (vOp uAdd (vC (.int 1)) (vCall 2 sem_law_take (vCons (vV 1) (vCons (vC (.int 2)) vNil)))) vNil))) [9]) [8]
      [some w0, some (.o 0), some (.d (.int (n : Int))), none, none, none, none, none, none, none, none, none] (stO v []) = .ok (.o 1) (S v' n f) := by
  have inner : ∀ (v : Int) (w : W), ∃ (r : List Rat) (v' : Int), (r.length = n ∧ ∀ x ∈ r, HB 6 x) ∧ vLc (iR1 (vV 2)) (.one 9) vYes (vCall 2 sem_law_ratio (vCons (vOp uSub (vCall 2 sem_law_take (vCons (vV 1) (vCons (vC (.int 7)) vNil))) (vC (.int 3))) (vCons (vOp uAdd (vC (.int 1)) (vCall 2 sem_law_take (vCons (vV 1) (vCons (vC (.int 2)) vNil)))) vNil))) [9]
      [some w0, some (.o 0), some (.d (.int (n : Int))), none, none, none, none, none, some w, none, none, none] (stO v []) = .ok (.d (dRow r)) (stO v' []) := fun v w => by
    obtain ⟨ys, O', e1, e2, e3, v', rfl⟩ := lc_ex (List.range n) (fun i : Nat => W.d (.int (0 + (i : Int)))) dR (fun O => ∃ v, O = stO v []) (HB 6) (it := iR1 (vV 2)) (g := .one 9) (tt := vYes) (te := vCall 2 sem_law_ratio (vCons (vOp uSub (vCall 2 sem_law_take (vCons (vV 1) (vCons (vC (.int 7)) vNil))) (vC (.int 3))) (vCons (vOp uAdd (vC (.int 1)) (vCall 2 sem_law_take (vCons (vV 1) (vCons (vC (.int 2)) vNil)))) vNil))) (us := [9])
      (Γ := [some w0, some (.o 0), some (.d (.int (n : Int))), none, none, none, none, none, some w, none, none, none]) (O := stO v []) (R_nat (show n ≤ 1000000 by omega) 2 rfl) (fun _ _ => chkOf_nil.mpr trivial) ⟨v, rfl⟩ (by rw [List.length_range]; omega) (by
        rintro O x hx ⟨v, rfl⟩
        obtain ⟨r1, v1, h1, e1⟩ := take_ex (v := v) (m := 7) (T := []) (by decide) (by decide)
        obtain ⟨r2, v2, h2, e2⟩ := take_ex (v := v1) (m := 2) (T := []) (by decide) (by decide)
        have hb : (1 + (r2 : Int)).natAbs < 2 ^ 3 := by omega
        have h0 : 1 + (r2 : Int) ≠ 0 := by omega
        have e3 := r_law_ratio (O := stO v2 []) (a := (r1 : Int) - 3) h0 (Nat.lt_of_lt_of_le hb (Nat.pow_le_pow_right (by decide) (by decide)))
        refine ⟨Rat.divInt ((r1 : Int) - 3) (1 + r2), stO v2 [], ?_, half_ex h1 h2, v2, rfl⟩
        generalize Rat.divInt ((r1 : Int) - 3) (1 + r2) = x at *
        simp [e1, e2, e3])
    exact ⟨ys, v', ⟨by rw [e2, List.length_range], e3⟩, e1⟩
  obtain ⟨ys, O', e1, e2, e3, v', rfl⟩ := lcO_ex (List.range n) (fun i : Nat => W.d (.int (0 + (i : Int)))) (fun r : List Rat => W.d (dRow r)) (fun O => ∃ v, O = stO v []) (fun r => r.length = n ∧ ∀ x ∈ r, HB 6 x) (it := iR1 (vV 2)) (g := .one 8) (tt := vYes)
    (te := vLc (iR1 (vV 2)) (.one 9) vYes (vCall 2 sem_law_ratio (vCons (vOp uSub (vCall 2 sem_law_take (vCons (vV 1) (vCons (vC (.int 7)) vNil))) (vC (.int 3))) (vCons (vOp uAdd (vC (.int 1)) (vCall 2 sem_law_take (vCons (vV 1) (vCons (vC (.int 2)) vNil)))) vNil))) [9]) (us := [8])
    (Γ := [some w0, some (.o 0), some (.d (.int (n : Int))), none, none, none, none, none, none, none, none, none]) (O := stO v []) (R_nat (show n ≤ 1000000 by omega) 2 rfl) (fun _ _ => chkOf_nil.mpr trivial) ⟨v, rfl⟩ (by rw [List.length_range]; omega) (by
      rintro O x hx ⟨v, rfl⟩
      obtain ⟨r, v', s, e⟩ := inner v (.d (.int (0 + (x : Int))))
      refine ⟨r, stO v' [], ?_, s, v', rfl⟩
      simp only [Int.zero_add] at e
      simp [e])
  have d : Dim ys n n := ⟨by rw [e2, List.length_range], fun r hr => (e3 r hr).1⟩
  refine ⟨gt ys, v', fun k j hk hj => (e3 _ (getD_mem (by rw [d.len]; exact hk))).2 _ (getD_mem (by rw [d.at hk]; exact hj)), ?_⟩
  rw [e1]
  have : ys.map (fun r : List Rat => W.d (dRow r)) = rws n n (gt ys) := by
    conv => lhs; rw [gen_self d]
    unfold gen rws
    rw [List.map_map]; rfl
  rw [this]; rfl
/-- a row that is a sum of multiples of others -/
theorem bent_ex {v : Int} {n : Nat} {f : Fm} {w0 : W} (h0 : 0 < n) (hn : n ≤ 5) (hf : ∀ k j, k < n → j < n → HB 6 (f k j)) : ∃ (g : Fm) (v' : Int), (∀ k j, k < n → j < n → HB 24 (g k j)) ∧
    (vIf (vAndT (vTst (vOp uEq (vCall 2 sem_law_take (vCons (vV 1) (vCons (vC (.int 2)) vNil))) (vC (.int 0)))) (vTst (vOp uGt (vV 2) (vC (.int 1))))) (vSeq (vAsg (vLc (iSq (vOp uIx (vV 3) (vC (.int 0)))) (.one 10) vYes (vCall 2 sem_law_mul (vCons (vTup (vCons (vC (.int 2)) (vCons (vC (.int 1)) vNil))) (vCons (vV 10) vNil))) [10]) (hSub kSet (vV 3) (vUn uNeg (vC (.int 1)))))
    (vIf (vTst (vOp uEq (vCall 2 sem_law_take (vCons (vV 1) (vCons (vC (.int 2)) vNil))) (vC (.int 0)))) (vAsg (vIfE (vTst (vOp uGt (vV 2) (vC (.int 2)))) (vLc (iR1 (vV 2)) (.one 11) vYes (vCall 2 sem_law_add (vCons (vOp uIx (vOp uIx (vV 3) (vUn uNeg (vC (.int 1)))) (vV 11)) (vCons (vOp uIx (vOp uIx (vV 3) (vUn uNeg (vC (.int 2)))) (vV 11)) vNil))) [11]) (vOp uIx (vV 3) (vUn uNeg (vC (.int 1))))) (hSub kSet (vV 3) (vUn uNeg (vC (.int 1))))) vNext)) vNext)
      [some w0, some (.o 0), some (.d (.int (n : Int))), some (.o 1), none, none, none, none, none, none, none, none] (S v n f) = .nx [some w0, some (.o 0), some (.d (.int (n : Int))), some (.o 1), none, none, none, none, none, none, none, none] (S v' n g) := by
  obtain ⟨r1, v1, h1, e1⟩ := take_S (v := v) (n := n) (f := f) (m := 2) (by decide) (by decide)
  by_cases hc : r1 = 0 ∧ 1 < n
  · obtain ⟨rfl, hn1⟩ := hc
    have x0 := ix_S (v := v1) (f := f) h0
    change uIx _ (.d (.int 0)) _ = _ at x0
    have row1 : vLc (iSq (vOp uIx (vV 3) (vC (.int 0)))) (.one 10) vYes (vCall 2 sem_law_mul (vCons (vTup (vCons (vC (.int 2)) (vCons (vC (.int 1)) vNil))) (vCons (vV 10) vNil))) [10] [some w0, some (.o 0), some (.d (.int (n : Int))), some (.o 1), none, none, none, none, none, none, none, none] (S v1 n f)
        = .ok (.d (dRow (rowf n fun j => 2 * f 0 j))) (S v1 n f) := by
      have h := lc_map (it := iSq (vOp uIx (vV 3) (vC (.int 0)))) (g := .one 10) (tt := vYes) (te := vCall 2 sem_law_mul (vCons (vTup (vCons (vC (.int 2)) (vCons (vC (.int 1)) vNil))) (vCons (vV 10) vNil))) (us := [10]) (Γ := [some w0, some (.o 0), some (.d (.int (n : Int))), some (.o 1), none, none, none, none, none, none, none, none]) (O := S v1 n f) (O1 := S v1 n f) (chk := []) (List.range n) (fun j => wR (f 0 j)) (fun j => dR (2 * f 0 j)) (by
        generalize S v1 n f = P at *
        simp [x0, List.map_map, Function.comp_def]) (chkOf_nil.mpr trivial) (by rw [List.length_range]; omega) fun j hj => by
        rw [List.mem_range] at hj
        have t := r_law_mul (O := S v1 n f) (a := 2) (b := f 0 j) (n := 2) (m := 5) ⟨by decide, by decide⟩ ((hf 0 j h0 hj).mono (by decide)).sz (by decide)
        have em : (W.d (.tuple [.int 2, .int 1])) = wR 2 := rfl
        generalize S v1 n f = P at *
        simp [em, t]
      rw [h, dRow_rowf]
    have st := set_Sm (v := v1) (f := f) h0 (fun j => 2 * f 0 j)
    obtain ⟨r2, v2, h2, e2⟩ := take_S (v := v1) (n := n) (f := upd f (n - 1) fun j => 2 * f 0 j) (m := 2) (by decide) (by decide)
    have hg1 : ∀ k j, k < n → j < n → HB 12 (upd f (n - 1) (fun j => 2 * f 0 j) k j) := fun k j hk hj => by
      unfold UZ.upd
      by_cases e : k = n - 1
      · rw [if_pos e]; exact (hf 0 j h0 hj).two
      · rw [if_neg e]; exact (hf k j hk hj).mono (by decide)
    have hgt : (1 : Int) < (n : Int) := by omega
    have pre : ∀ u : VS, vIf (vAndT (vTst (vOp uEq (vCall 2 sem_law_take (vCons (vV 1) (vCons (vC (.int 2)) vNil))) (vC (.int 0)))) (vTst (vOp uGt (vV 2) (vC (.int 1))))) (vSeq (vAsg (vLc (iSq (vOp uIx (vV 3) (vC (.int 0)))) (.one 10) vYes (vCall 2 sem_law_mul (vCons (vTup (vCons (vC (.int 2)) (vCons (vC (.int 1)) vNil))) (vCons (vV 10) vNil))) [10]) (hSub kSet (vV 3) (vUn uNeg (vC (.int 1))))) u) vNext [some w0, some (.o 0), some (.d (.int (n : Int))), some (.o 1), none, none, none, none, none, none, none, none] (S v n f)
        = u [some w0, some (.o 0), some (.d (.int (n : Int))), some (.o 1), none, none, none, none, none, none, none, none] (S v1 n (upd f (n - 1) fun j => 2 * f 0 j)) := fun u => by
      have hcnd : vAndT (vTst (vOp uEq (vCall 2 sem_law_take (vCons (vV 1) (vCons (vC (.int 2)) vNil))) (vC (.int 0)))) (vTst (vOp uGt (vV 2) (vC (.int 1)))) [some w0, some (.o 0), some (.d (.int (n : Int))), some (.o 1), none, none, none, none, none, none, none, none] (S v n f) = .ok true (S v1 n f) := by
        generalize S v n f = P at *
        generalize S v1 n f = P2 at *
        simp at e1
        simp [e1, hgt, hn1]
      rw [e_If, hcnd]
      simp only [R.toS_ok, if_true]
      refine seq_nx ?_
      rw [e_Asg, row1]
      generalize dRow (rowf n fun j => 2 * f 0 j) = A at *
      generalize S v1 n f = P at *
      simp [st]
    rw [pre]
    generalize upd f (n - 1) (fun j => 2 * f 0 j) = g at *
    by_cases hr2 : r2 = 0
    · subst hr2
      have ht : vTst (vOp uEq (vCall 2 sem_law_take (vCons (vV 1) (vCons (vC (.int 2)) vNil))) (vC (.int 0))) [some w0, some (.o 0), some (.d (.int (n : Int))), some (.o 1), none, none, none, none, none, none, none, none] (S v1 n g) = .ok true (S v2 n g) := by
        generalize S v1 n g = P at *
        generalize S v2 n g = P2 at *
        simp at e2
        simp [e2]
      rw [e_If, ht]
      simp only [R.toS_ok, if_true]
      have x1 := ix_Sm (v := v2) (f := g) (m := 1) (by decide) h0
      rw [show (-((1 : Nat) : Int)) = -1 from rfl] at x1
      by_cases h3 : 2 < n
      · have x2 := ix_Sm (v := v2) (n := n) (f := g) (m := 2) (by decide) (by omega)
        rw [show (-((2 : Nat) : Int)) = -2 from rfl] at x2
        have s1 : smI (n : Int) := smI_nat (by omega)
        have row2 : vLc (iR1 (vV 2)) (.one 11) vYes (vCall 2 sem_law_add (vCons (vOp uIx (vOp uIx (vV 3) (vUn uNeg (vC (.int 1)))) (vV 11)) (vCons (vOp uIx (vOp uIx (vV 3) (vUn uNeg (vC (.int 2)))) (vV 11)) vNil))) [11] [some w0, some (.o 0), some (.d (.int (n : Int))), some (.o 1), none, none, none, none, none, none, none, none] (S v2 n g)
            = .ok (.d (dRow (rowf n fun j => g (n - 1) j + g (n - 2) j))) (S v2 n g) := by
          have h := lc_map (it := iR1 (vV 2)) (g := .one 11) (tt := vYes) (te := vCall 2 sem_law_add (vCons (vOp uIx (vOp uIx (vV 3) (vUn uNeg (vC (.int 1)))) (vV 11)) (vCons (vOp uIx (vOp uIx (vV 3) (vUn uNeg (vC (.int 2)))) (vV 11)) vNil))) (us := [11]) (Γ := [some w0, some (.o 0), some (.d (.int (n : Int))), some (.o 1), none, none, none, none, none, none, none, none]) (O := S v2 n g) (O1 := S v2 n g) (chk := []) (List.range n) (fun k : Nat => W.d (.int (k : Int))) (fun j => dR (g (n - 1) j + g (n - 2) j)) (by
            rw [← rng_0]
            generalize S v2 n g = P at *
            simp [s1]) (chkOf_nil.mpr trivial) (by rw [List.length_range]; omega) fun j hj => by
            rw [List.mem_range] at hj
            have b1 : HB 24 (g (n - 1) j) := (hg1 (n - 1) j (by omega) hj).mono (by decide)
            have b2 : HB 24 (g (n - 2) j) := (hg1 (n - 2) j (by omega) hj).mono (by decide)
            have t := r_law_add (O := S v2 n g) b1.sz b2.sz (by decide)
            have y1 := ix_row (P := S v2 n g) (g := g (n - 1)) hj
            have y2 := ix_row (P := S v2 n g) (g := g (n - 2)) hj
            generalize S v2 n g = P at *
            generalize W.d (dRow (rowf n (g (n - 1)))) = a at *
            generalize W.d (dRow (rowf n (g (n - 2)))) = b at *
            simp [x1, x2, y1, y2, t]
          rw [h, dRow_rowf]
        have st2 := set_Sm (v := v2) (f := g) h0 (fun j => g (n - 1) j + g (n - 2) j)
        refine ⟨upd g (n - 1) fun j => g (n - 1) j + g (n - 2) j, v2, fun k j hk hj => ?_, ?_⟩
        · unfold UZ.upd
          by_cases e : k = n - 1
          · rw [if_pos e]
            have hlast : HB 12 (g (n - 1) j) := hg1 (n - 1) j (by omega) hj
            have h6 : HB 12 (g (n - 2) j) := hg1 (n - 2) j (by omega) hj
            exact hlast.add h6
          · rw [if_neg e]; exact (hg1 k j hk hj).mono (by decide)
        · have hgt2 : (2 : Int) < (n : Int) := by omega
          have hv : vIfE (vTst (vOp uGt (vV 2) (vC (.int 2)))) (vLc (iR1 (vV 2)) (.one 11) vYes (vCall 2 sem_law_add (vCons (vOp uIx (vOp uIx (vV 3) (vUn uNeg (vC (.int 1)))) (vV 11)) (vCons (vOp uIx (vOp uIx (vV 3) (vUn uNeg (vC (.int 2)))) (vV 11)) vNil))) [11]) (vOp uIx (vV 3) (vUn uNeg (vC (.int 1)))) [some w0, some (.o 0), some (.d (.int (n : Int))), some (.o 1), none, none, none, none, none, none, none, none] (S v2 n g) = .ok (.d (dRow (rowf n fun j => g (n - 1) j + g (n - 2) j))) (S v2 n g) := by
            rw [e_IfE]
            have : vTst (vOp uGt (vV 2) (vC (.int 2))) [some w0, some (.o 0), some (.d (.int (n : Int))), some (.o 1), none, none, none, none, none, none, none, none] (S v2 n g) = .ok true (S v2 n g) := by
              generalize S v2 n g = P at *
              simp [hgt2, h3]
            rw [this]
            exact row2
          rw [e_Asg, hv]
          generalize dRow (rowf n fun j => g (n - 1) j + g (n - 2) j) = A at *
          generalize S v2 n g = P at *
          generalize S v2 n (upd g (n - 1) fun j => g (n - 1) j + g (n - 2) j) = P2 at *
          simp [st2]
      · have st2 := set_Sm (v := v2) (f := g) h0 (g (n - 1))
        rw [upd_self] at st2
        refine ⟨g, v2, fun k j hk hj => (hg1 k j hk hj).mono (by decide), ?_⟩
        have hgt2 : ¬ ((2 : Int) < (n : Int)) := by omega
        generalize W.d (dRow (rowf n (g (n - 1)))) = A at *
        generalize S v2 n g = P at *
        simp [hgt2, h3, x1, st2]
    · refine ⟨g, v2, fun k j hk hj => (hg1 k j hk hj).mono (by decide), ?_⟩
      generalize S v1 n g = P at *
      generalize S v2 n g = P2 at *
      simp [e2, hr2]
  · refine ⟨f, v1, fun k j hk hj => (hf k j hk hj).mono (by decide), ?_⟩
    generalize S v n f = P at *
    generalize S v1 n f = P2 at *
    by_cases z : r1 = 0
    · have hn1 : ¬ ((1 : Int) < (n : Int)) := by omega
      subst z
      simp at e1
      have hn2 : ¬ (1 < n) := by omega
      simp [e1, hn1, hn2]
    · simp [e1, z]
theorem uEq_R {neg : Bool} {a b : Rat} {P : List Ob} : uEqN neg (wR a) (wR b) P = some (.d (.bool (if neg then !decide (a = b) else decide (a = b))), P) := uEq_D (α := Rat) (by decide) a b
theorem minv_eq {n : Nat} {f : Fm} {P : List Ob} : uNe (minvW n f) (minvW n f) P = some (.d (.bool false), P) := by
  unfold minvW
  split
  · show uEqN true _ _ _ = _
    rw [uEq_M]; simp
  · exact uEqN_d (r := true) (show eqD .none .none = some true by decide +kernel)
theorem r_law (ns : List Int) : sem_law [.rl (ns.map .int)] [] = .ok (.d (.bool true)) [] := by
  obtain ⟨v, e0⟩ := big_ex (ns := ns) (n := 60) (by decide) (O := [])
  obtain ⟨r1, v1, h1, e1⟩ := take_ex (v := v) (m := 5) (T := []) (by decide) (by decide)
  obtain ⟨n, hn⟩ : ∃ n, n = 1 + r1 := ⟨_, rfl⟩
  have hn0 : 0 < n := by omega
  have hn5 : n ≤ 5 := by omega
  obtain ⟨f, v2, hf, e2⟩ := rows_ex (v := v1) (n := n) (w0 := .rl (ns.map .int)) (by omega)
  obtain ⟨g, v3, hg, e3⟩ := bent_ex (v := v2) (n := n) (f := f) (w0 := .rl (ns.map .int)) hn0 hn5 hf
  have hcast : (1 : Int) + (r1 : Int) = (n : Int) := by omega
  have hsz : ∀ k j, k < n → j < n → sz (g k j) 5 := fun k j hk hj => (hg k j hk hj).sz
  have hp2 : (2 : Nat) ^ n ≤ 2 ^ 5 := Nat.pow_le_pow_right (by decide) hn5
  have ra := rb_aug hg
  have rb := rb_of hg
  unfold sem_law t_law
  simp only [e_fnV, e_start, N_law, List.length_cons, List.length_nil, List.map_cons, List.map_nil, List.replicate, List.cons_append, List.nil_append, Nat.reduceAdd, Nat.reduceSub]
  rw [seq_nx (Γ1 := [some (.rl (ns.map .int)), some (.o 0), none, none, none, none, none, none, none, none, none, none]) (O1 := stO v []) (by simp at e0; simp [e0])]
  rw [seq_nx (Γ1 := [some (.rl (ns.map .int)), some (.o 0), some (.d (.int (n : Int))), none, none, none, none, none, none, none, none, none]) (O1 := stO v1 []) (by simp [e1, hcast])]
  rw [seq_nx (Γ1 := [some (.rl (ns.map .int)), some (.o 0), some (.d (.int (n : Int))), some (.o 1), none, none, none, none, none, none, none, none]) (O1 := S v2 n f) (by rw [e_Set, e2]; rfl)]
  rw [seq_nx e3]
  have hk : kill 1 (S v3 n g) = stO v3 [.dead] := rfl
  have hseal : sealG 1 (S v3 n g) [some (.rl (ns.map .int)), some (.o 0), some (.d (.int (n : Int))), some (.o 1), none, none, none, none, none, none, none, none] [3] [some (.rl (ns.map .int)), some (.o 0), some (.d (.int (n : Int))), some (.o 1), none, none, none, none, none, none, none, none]
      = some [some (.rl (ns.map .int)), some (.o 0), some (.d (.int (n : Int))), some (wM (gen n n g)), none, none, none, none, none, none, none, none] := by
    have hr := rs_E (O := stO v3 []) (p := n) (q := n) (f := g) (X := []) (b := 1) (m := 7) (by simp)
    change rsW 1 (S v3 n g) 8 (.o 1) = _ at hr
    unfold sealG
    simp only [List.getElem?_cons_succ, List.getElem?_cons_zero, hr]
    rfl
  rw [e_Seal]
  have ho : oAt 3 [some (.rl (ns.map .int)), some (.o 0), some (.d (.int (n : Int))), some (.o 1), none, none, none, none, none, none, none, none] (S v3 n g) = 1 := rfl
  rw [ho, hseal, hk]
  dsimp only
  have hkept : vLc (iSq (vV 3)) (.one 8) vYes (vCB uList (vCons (vV 8) vNil)) [8] [some (.rl (ns.map .int)), some (.o 0), some (.d (.int (n : Int))), some (wM (gen n n g)), none, none, none, none, none, none, none, none] (stO v3 [.dead]) = .ok (wM (gen n n g)) (stO v3 [.dead]) :=
    lc_map (gen n n g) (fun r => W.d (dRow r)) dRow (O1 := stO v3 [.dead]) (chk := []) (by simp) (chkOf_nil.mpr trivial) (by rw [gen_len]; omega) fun r _ => by
      have u : uList [.d (dRow r)] (stO v3 [.dead]) = some (.d (dRow r), stO v3 [.dead]) := by
        show some (mkL ((r.map dR).map W.d) _) = _
        rw [mkL_m]
      generalize dRow r = x at *
      simp [u]
  have x1 := r_law_minv (O := stO v3 [.dead]) hn0 ra (by omega) (by omega)
  have x2 := r_law_told (O := stO v3 [.dead]) ra (by omega) (by omega)
  obtain ⟨x3, B, hB, hB5⟩ := r_determinant (O := stO v3 [.dead]) rb (by omega) (by omega)
  have hd5 : dbn 5 n ≤ 8000 := Nat.le_trans (dbn_mono hn5) (by decide)
  have x4 := (r_law_det n 6 g (stO v3 [.dead]) (by omega) hsz hd5 (by omega) (by decide)).1
  have hdet : detG n n 0 g 1 = det n g := by
    rw [detG_det n 0 g 1 (by omega)]
    rw [show (fun i j => g (0 + i) (0 + j)) = g by funext i j; rw [Nat.zero_add, Nat.zero_add]]
    grind
  have hzero := detG_inv (n := n) n 0 (aug n g) g 1 (by omega) (by decide) (fun k j _ _ hj => by unfold aug; rw [if_pos hj])
  rw [hdet] at x3 hB hzero
  have x5 := r_law_is_ratio (O := stO v3 [.dead]) hB (by omega)
  rw [seq_nx (Γ1 := [some (.rl (ns.map .int)), some (.o 0), some (.d (.int (n : Int))), some (wM (gen n n g)), some (wM (gen n n g)), none, none, none, none, none, none, none]) (O1 := stO v3 [.dead]) (by rw [e_Set, hkept]; rfl)]
  rw [seq_nx (Γ1 := [some (.rl (ns.map .int)), some (.o 0), some (.d (.int (n : Int))), some (wM (gen n n g)), some (wM (gen n n g)), some (minvW n (aug n g)), none, none, none, none, none, none]) (O1 := stO v3 [.dead]) (by
    generalize wM (gen n n g) = A at *
    simp [x1])]
  rw [seq_nx (Γ1 := [some (.rl (ns.map .int)), some (.o 0), some (.d (.int (n : Int))), some (wM (gen n n g)), some (wM (gen n n g)), some (minvW n (aug n g)), some (minvW n (aug n g)), none, none, none, none, none]) (O1 := stO v3 [.dead]) (by
    generalize wM (gen n n g) = A at *
    simp [x2])]
  rw [seq_nx (Γ1 := [some (.rl (ns.map .int)), some (.o 0), some (.d (.int (n : Int))), some (wM (gen n n g)), some (wM (gen n n g)), some (minvW n (aug n g)), some (minvW n (aug n g)), some (wR (det n g)), none, none, none, none]) (O1 := stO v3 [.dead]) (by
    generalize wM (gen n n g) = A at *
    simp [x3])]
  have y1 := minv_eq (n := n) (f := aug n g) (P := stO v3 [.dead])
  have y2 := uEq_M (neg := true) (a := gen n n g) (b := gen n n g) (O := stO v3 [.dead])
  have y3 := uEq_R (neg := true) (a := det n g) (b := det n g) (P := stO v3 [.dead])
  rw [decide_eq_true rfl] at y2 y3
  rw [seq_nx (Γ1 := [some (.rl (ns.map .int)), some (.o 0), some (.d (.int (n : Int))), some (wM (gen n n g)), some (wM (gen n n g)), some (minvW n (aug n g)), some (minvW n (aug n g)), some (wR (det n g)), none, none, none, none]) (O1 := stO v3 [.dead]) (by
    generalize wM (gen n n g) = A at *
    generalize minvW n (aug n g) = M at *
    generalize wR (det n g) = D at *
    simp [y1, y2, x5, x4, y3])]
  have hpair : ((det n g).num = 0) ↔ invG n n 0 (aug n g) = none := by rw [num0]; exact hzero
  have hu := r_law_unit (O := stO v3 [.dead]) (n := n) (by omega)
  cases hi : invG n n 0 (aug n g) with
  | none =>
    have hz := hpair.mpr hi
    have hm : minvW n (aug n g) = .d .none := by unfold minvW; rw [hi]
    rw [hm]
    rw [seq_nx (Γ1 := [some (.rl (ns.map .int)), some (.o 0), some (.d (.int (n : Int))), some (wM (gen n n g)), some (wM (gen n n g)), some (.d .none), some (.d .none), some (wR (det n g)), none, none, none, none]) (O1 := stO v3 [.dead]) (by
      generalize wM (gen n n g) = A at *
      simp [hz])]
    generalize wM (gen n n g) = A at *
    simp
    exact fin_app (O := []) (X := stO v3 [.dead])
  | some u =>
    have hz : ¬ (det n g).num = 0 := fun z => by rw [hpair.mp z] at hi; cases hi
    have hm : minvW n (aug n g) = wM (gen n n fun k j => u k (n + j)) := by unfold minvW; rw [hi]
    rw [hm]
    have hru := inv_RB (q := n + n) (by omega) n 0 5 (aug n g) (by omega) ra hi
    have hsu : ∀ k j, k < n → j < n → sz (u k (n + j)) 192 := fun k j hk hj => (sz_of_RB hru hk (by omega)).mono (by omega)
    have hl : n * (192 + 5 + 1) + (192 + 5) ≤ 8000 := by have := Nat.mul_le_mul_right (192 + 5 + 1) hn5; omega
    have hl2 : n * (5 + 192 + 1) + (5 + 192) ≤ 8000 := by have := Nat.mul_le_mul_right (5 + 192 + 1) hn5; omega
    have m1 := r_law_mmul (O := stO v3 [.dead]) (dim_gen (p := n) (q := n) (F := fun k j => u k (n + j))) (dim_gen (p := n) (q := n) (F := g)) hn0 (mb_gen hsu) (mb_gen hsz) hl (by omega) (by omega) (by omega)
    have m2 := r_law_mmul (O := stO v3 [.dead]) (dim_gen (p := n) (q := n) (F := g)) (dim_gen (p := n) (q := n) (F := fun k j => u k (n + j))) hn0 (mb_gen hsz) (mb_gen hsu) hl2 (by omega) (by omega) (by omega)
    rw [mmul_gen, gen_congr (inv_left (A := g) hi), ← iM_gen] at m1
    rw [mmul_gen, gen_congr (inv_right (A := g) hi), ← iM_gen] at m2
    have y4 := uEq_M (neg := false) (a := iM n) (b := iM n) (O := stO v3 [.dead])
    rw [decide_eq_true rfl] at y4
    rw [seq_nx (Γ1 := [some (.rl (ns.map .int)), some (.o 0), some (.d (.int (n : Int))), some (wM (gen n n g)), some (wM (gen n n g)), some (wM (gen n n fun k j => u k (n + j))), some (wM (gen n n fun k j => u k (n + j))), some (wR (det n g)), none, none, none, none]) (O1 := stO v3 [.dead]) (by
      generalize wM (gen n n g) = A at *
      generalize dM (gen n n fun k j => u k (n + j)) = U at *
      simp [hz])]
    generalize wM (gen n n g) = A at *
    generalize wM (gen n n fun k j => u k (n + j)) = U at *
    generalize wM (iM n) = I at *
    simp [m1, m2, hu, y4]
    exact fin_app (O := []) (X := stO v3 [.dead])
end K02
namespace K02
open PySem PySem.Spec PyProof.Rows L2 UZ UZN
theorem cx_no {P : Program} {w : World} {H : Hp} {s s' : Shared} {e : Value} (h : L2.CX P w [] H s (fun _ _ _ => False) e s') : False := by
  obtain ⟨_, _, _, _, _, _, _, _, _, _, _, _, h⟩ := h
  exact h
theorem all_mk {w : World} {K : PySem.W.Frag} {h : Heap} {mg : Str → Option Value} {fa : Addr} (X : K.In h) (G : h.Ns mainGlobals mg) (hfa : mg "law" = some (.ref fa))
    {f0 : Addr} {od0 an0 : Option Addr} {sl0 : Array (Option Value)} {oc0 kV0 dc0 pm0 cd0 ct0 : Value}
    {f1 : Addr} {od1 an1 : Option Addr} {sl1 : Array (Option Value)} {oc1 kV1 dc1 pm1 cd1 ct1 : Value}
    {f2 : Addr} {od2 an2 : Option Addr} {sl2 : Array (Option Value)} {oc2 kV2 dc2 pm2 cd2 ct2 : Value}
    {f3 : Addr} {od3 an3 : Option Addr} {sl3 : Array (Option Value)} {oc3 kV3 dc3 pm3 cd3 ct3 : Value}
    {f4 : Addr} {od4 an4 : Option Addr} {sl4 : Array (Option Value)} {oc4 kV4 dc4 pm4 cd4 ct4 : Value}
    {f5 : Addr} {od5 an5 : Option Addr} {sl5 : Array (Option Value)} {oc5 kV5 dc5 pm5 cd5 ct5 : Value}
    {f6 : Addr} {od6 an6 : Option Addr} {sl6 : Array (Option Value)} {oc6 kV6 dc6 pm6 cd6 ct6 : Value}
    {f7 : Addr} {od7 an7 : Option Addr} {sl7 : Array (Option Value)} {oc7 kV7 dc7 pm7 cd7 ct7 : Value}
    {f8 : Addr} {od8 an8 : Option Addr} {sl8 : Array (Option Value)} {oc8 kV8 dc8 pm8 cd8 ct8 : Value}
    {f9 : Addr} {od9 an9 : Option Addr} {sl9 : Array (Option Value)} {oc9 kV9 dc9 pm9 cd9 ct9 : Value}
    {f10 : Addr} {od10 an10 : Option Addr} {sl10 : Array (Option Value)} {oc10 kV10 dc10 pm10 cd10 ct10 : Value}
    {f11 : Addr} {od11 an11 : Option Addr} {sl11 : Array (Option Value)} {oc11 kV11 dc11 pm11 cd11 ct11 : Value}
    {f12 : Addr} {od12 an12 : Option Addr} {sl12 : Array (Option Value)} {oc12 kV12 dc12 pm12 cd12 ct12 : Value}
    {f13 : Addr} {od13 an13 : Option Addr} {sl13 : Array (Option Value)} {oc13 kV13 dc13 pm13 cd13 ct13 : Value}
    {f14 : Addr} {od14 an14 : Option Addr} {sl14 : Array (Option Value)} {oc14 kV14 dc14 pm14 cd14 ct14 : Value}
    {f15 : Addr} {od15 an15 : Option Addr} {sl15 : Array (Option Value)} {oc15 kV15 dc15 pm15 cd15 ct15 : Value}
    {f16 : Addr} {od16 an16 : Option Addr} {sl16 : Array (Option Value)} {oc16 kV16 dc16 pm16 cd16 ct16 : Value}
    {f17 : Addr} {od17 an17 : Option Addr} {sl17 : Array (Option Value)} {oc17 kV17 dc17 pm17 cd17 ct17 : Value}
    {f18 : Addr} {od18 an18 : Option Addr} {sl18 : Array (Option Value)} {oc18 kV18 dc18 pm18 cd18 ct18 : Value}
    {f19 : Addr} {od19 an19 : Option Addr} {sl19 : Array (Option Value)} {oc19 kV19 dc19 pm19 cd19 ct19 : Value}
    {f20 : Addr} {od20 an20 : Option Addr} {sl20 : Array (Option Value)} {oc20 kV20 dc20 pm20 cd20 ct20 : Value}
    {f21 : Addr} {od21 an21 : Option Addr} {sl21 : Array (Option Value)} {oc21 kV21 dc21 pm21 cd21 ct21 : Value}
    {f22 : Addr} {od22 an22 : Option Addr} {sl22 : Array (Option Value)} {oc22 kV22 dc22 pm22 cd22 ct22 : Value}
    {f23 : Addr} {od23 an23 : Option Addr} {sl23 : Array (Option Value)} {oc23 kV23 dc23 pm23 cd23 ct23 : Value}
    {f24 : Addr} {od24 an24 : Option Addr} {sl24 : Array (Option Value)} {oc24 kV24 dc24 pm24 cd24 ct24 : Value}
    {f25 : Addr} {od25 an25 : Option Addr} {sl25 : Array (Option Value)} {oc25 kV25 dc25 pm25 cd25 ct25 : Value}
    {f26 : Addr} {od26 an26 : Option Addr} {sl26 : Array (Option Value)} {oc26 kV26 dc26 pm26 cd26 ct26 : Value}
    {f27 : Addr} {od27 an27 : Option Addr} {sl27 : Array (Option Value)} {oc27 kV27 dc27 pm27 cd27 ct27 : Value}
    {f28 : Addr} {od28 an28 : Option Addr} {sl28 : Array (Option Value)} {oc28 kV28 dc28 pm28 cd28 ct28 : Value}
    (a0 : PySem.W.nsIn K mainGlobals "divisor" = some (some (.ref f0))) (l0 : K.lookup f0 = some ⟨oc0, od0, .func (PySem.W.fnOf "divisor" "divisor" (defArgs s_divisor) (defBody s_divisor) (defScope s_divisor) .none kV0 dc0 pm0 an0 cd0 ct0), sl0⟩) (c0 : PySem.W.codeIn K cd0 "divisor" = true) (k0 : PySem.W.keepIn K (.ref f0) = true)
    (a1 : PySem.W.nsIn K mainGlobals "ratio" = some (some (.ref f1))) (l1 : K.lookup f1 = some ⟨oc1, od1, .func (PySem.W.fnOf "ratio" "ratio" (defArgs s_ratio) (defBody s_ratio) (defScope s_ratio) .none kV1 dc1 pm1 an1 cd1 ct1), sl1⟩) (c1 : PySem.W.codeIn K cd1 "ratio" = true) (k1 : PySem.W.keepIn K (.ref f1) = true)
    (a2 : PySem.W.nsIn K mainGlobals "minus" = some (some (.ref f2))) (l2 : K.lookup f2 = some ⟨oc2, od2, .func (PySem.W.fnOf "minus" "minus" (defArgs s_minus) (defBody s_minus) (defScope s_minus) .none kV2 dc2 pm2 an2 cd2 ct2), sl2⟩) (c2 : PySem.W.codeIn K cd2 "minus" = true) (k2 : PySem.W.keepIn K (.ref f2) = true)
    (a3 : PySem.W.nsIn K mainGlobals "times" = some (some (.ref f3))) (l3 : K.lookup f3 = some ⟨oc3, od3, .func (PySem.W.fnOf "times" "times" (defArgs s_times) (defBody s_times) (defScope s_times) .none kV3 dc3 pm3 an3 cd3 ct3), sl3⟩) (c3 : PySem.W.codeIn K cd3 "times" = true) (k3 : PySem.W.keepIn K (.ref f3) = true)
    (a4 : PySem.W.nsIn K mainGlobals "over" = some (some (.ref f4))) (l4 : K.lookup f4 = some ⟨oc4, od4, .func (PySem.W.fnOf "over" "over" (defArgs s_over) (defBody s_over) (defScope s_over) .none kV4 dc4 pm4 an4 cd4 ct4), sl4⟩) (c4 : PySem.W.codeIn K cd4 "over" = true) (k4 : PySem.W.keepIn K (.ref f4) = true)
    (a5 : PySem.W.nsIn K mainGlobals "unit" = some (some (.ref f5))) (l5 : K.lookup f5 = some ⟨oc5, od5, .func (PySem.W.fnOf "unit" "unit" (defArgs s_unit) (defBody s_unit) (defScope s_unit) .none kV5 dc5 pm5 an5 cd5 ct5), sl5⟩) (c5 : PySem.W.codeIn K cd5 "unit" = true) (k5 : PySem.W.keepIn K (.ref f5) = true)
    (a6 : PySem.W.nsIn K mainGlobals "beside" = some (some (.ref f6))) (l6 : K.lookup f6 = some ⟨oc6, od6, .func (PySem.W.fnOf "beside" "beside" (defArgs s_beside) (defBody s_beside) (defScope s_beside) .none kV6 dc6 pm6 an6 cd6 ct6), sl6⟩) (c6 : PySem.W.codeIn K cd6 "beside" = true) (k6 : PySem.W.keepIn K (.ref f6) = true)
    (a7 : PySem.W.nsIn K mainGlobals "pivot_of" = some (some (.ref f7))) (l7 : K.lookup f7 = some ⟨oc7, od7, .func (PySem.W.fnOf "pivot_of" "pivot_of" (defArgs s_pivot_of) (defBody s_pivot_of) (defScope s_pivot_of) .none kV7 dc7 pm7 an7 cd7 ct7), sl7⟩) (c7 : PySem.W.codeIn K cd7 "pivot_of" = true) (k7 : PySem.W.keepIn K (.ref f7) = true)
    (a8 : PySem.W.nsIn K mainGlobals "less" = some (some (.ref f8))) (l8 : K.lookup f8 = some ⟨oc8, od8, .func (PySem.W.fnOf "less" "less" (defArgs s_less) (defBody s_less) (defScope s_less) .none kV8 dc8 pm8 an8 cd8 ct8), sl8⟩) (c8 : PySem.W.codeIn K cd8 "less" = true) (k8 : PySem.W.keepIn K (.ref f8) = true)
    (a9 : PySem.W.nsIn K mainGlobals "inverse_of" = some (some (.ref f9))) (l9 : K.lookup f9 = some ⟨oc9, od9, .func (PySem.W.fnOf "inverse_of" "inverse_of" (defArgs s_inverse_of) (defBody s_inverse_of) (defScope s_inverse_of) .none kV9 dc9 pm9 an9 cd9 ct9), sl9⟩) (c9 : PySem.W.codeIn K cd9 "inverse_of" = true) (k9 : PySem.W.keepIn K (.ref f9) = true)
    (a10 : PySem.W.nsIn K mainGlobals "determinant" = some (some (.ref f10))) (l10 : K.lookup f10 = some ⟨oc10, od10, .func (PySem.W.fnOf "determinant" "determinant" (defArgs s_determinant) (defBody s_determinant) (defScope s_determinant) .none kV10 dc10 pm10 an10 cd10 ct10), sl10⟩) (c10 : PySem.W.codeIn K cd10 "determinant" = true) (k10 : PySem.W.keepIn K (.ref f10) = true)
    (a11 : PySem.W.nsIn K mainGlobals "_law_cell" = some (some (.ref f11))) (l11 : K.lookup f11 = some ⟨oc11, od11, .func (PySem.W.fnOf "_law_cell" "_law_cell" (defArgs s_law_cell) (defBody s_law_cell) (defScope s_law_cell) .none kV11 dc11 pm11 an11 cd11 ct11), sl11⟩) (c11 : PySem.W.codeIn K cd11 "_law_cell" = true) (k11 : PySem.W.keepIn K (.ref f11) = true)
    (a12 : PySem.W.nsIn K mainGlobals "_law_take" = some (some (.ref f12))) (l12 : K.lookup f12 = some ⟨oc12, od12, .func (PySem.W.fnOf "_law_take" "_law_take" (defArgs s_law_take) (defBody s_law_take) (defScope s_law_take) .none kV12 dc12 pm12 an12 cd12 ct12), sl12⟩) (c12 : PySem.W.codeIn K cd12 "_law_take" = true) (k12 : PySem.W.keepIn K (.ref f12) = true)
    (a13 : PySem.W.nsIn K mainGlobals "_law_big" = some (some (.ref f13))) (l13 : K.lookup f13 = some ⟨oc13, od13, .func (PySem.W.fnOf "_law_big" "_law_big" (defArgs s_law_big) (defBody s_law_big) (defScope s_law_big) .none kV13 dc13 pm13 an13 cd13 ct13), sl13⟩) (c13 : PySem.W.codeIn K cd13 "_law_big" = true) (k13 : PySem.W.keepIn K (.ref f13) = true)
    (a14 : PySem.W.nsIn K mainGlobals "_law_divisor" = some (some (.ref f14))) (l14 : K.lookup f14 = some ⟨oc14, od14, .func (PySem.W.fnOf "_law_divisor" "_law_divisor" (defArgs s_law_divisor) (defBody s_law_divisor) (defScope s_law_divisor) .none kV14 dc14 pm14 an14 cd14 ct14), sl14⟩) (c14 : PySem.W.codeIn K cd14 "_law_divisor" = true) (k14 : PySem.W.keepIn K (.ref f14) = true)
    (a15 : PySem.W.nsIn K mainGlobals "_law_ratio" = some (some (.ref f15))) (l15 : K.lookup f15 = some ⟨oc15, od15, .func (PySem.W.fnOf "_law_ratio" "_law_ratio" (defArgs s_law_ratio) (defBody s_law_ratio) (defScope s_law_ratio) .none kV15 dc15 pm15 an15 cd15 ct15), sl15⟩) (c15 : PySem.W.codeIn K cd15 "_law_ratio" = true) (k15 : PySem.W.keepIn K (.ref f15) = true)
    (a16 : PySem.W.nsIn K mainGlobals "_law_is_ratio" = some (some (.ref f16))) (l16 : K.lookup f16 = some ⟨oc16, od16, .func (PySem.W.fnOf "_law_is_ratio" "_law_is_ratio" (defArgs s_law_is_ratio) (defBody s_law_is_ratio) (defScope s_law_is_ratio) .none kV16 dc16 pm16 an16 cd16 ct16), sl16⟩) (c16 : PySem.W.codeIn K cd16 "_law_is_ratio" = true) (k16 : PySem.W.keepIn K (.ref f16) = true)
    (a17 : PySem.W.nsIn K mainGlobals "_law_add" = some (some (.ref f17))) (l17 : K.lookup f17 = some ⟨oc17, od17, .func (PySem.W.fnOf "_law_add" "_law_add" (defArgs s_law_add) (defBody s_law_add) (defScope s_law_add) .none kV17 dc17 pm17 an17 cd17 ct17), sl17⟩) (c17 : PySem.W.codeIn K cd17 "_law_add" = true) (k17 : PySem.W.keepIn K (.ref f17) = true)
    (a18 : PySem.W.nsIn K mainGlobals "_law_sub" = some (some (.ref f18))) (l18 : K.lookup f18 = some ⟨oc18, od18, .func (PySem.W.fnOf "_law_sub" "_law_sub" (defArgs s_law_sub) (defBody s_law_sub) (defScope s_law_sub) .none kV18 dc18 pm18 an18 cd18 ct18), sl18⟩) (c18 : PySem.W.codeIn K cd18 "_law_sub" = true) (k18 : PySem.W.keepIn K (.ref f18) = true)
    (a19 : PySem.W.nsIn K mainGlobals "_law_mul" = some (some (.ref f19))) (l19 : K.lookup f19 = some ⟨oc19, od19, .func (PySem.W.fnOf "_law_mul" "_law_mul" (defArgs s_law_mul) (defBody s_law_mul) (defScope s_law_mul) .none kV19 dc19 pm19 an19 cd19 ct19), sl19⟩) (c19 : PySem.W.codeIn K cd19 "_law_mul" = true) (k19 : PySem.W.keepIn K (.ref f19) = true)
    (a20 : PySem.W.nsIn K mainGlobals "_law_zeros" = some (some (.ref f20))) (l20 : K.lookup f20 = some ⟨oc20, od20, .func (PySem.W.fnOf "_law_zeros" "_law_zeros" (defArgs s_law_zeros) (defBody s_law_zeros) (defScope s_law_zeros) .none kV20 dc20 pm20 an20 cd20 ct20), sl20⟩) (c20 : PySem.W.codeIn K cd20 "_law_zeros" = true) (k20 : PySem.W.keepIn K (.ref f20) = true)
    (a21 : PySem.W.nsIn K mainGlobals "_law_unit" = some (some (.ref f21))) (l21 : K.lookup f21 = some ⟨oc21, od21, .func (PySem.W.fnOf "_law_unit" "_law_unit" (defArgs s_law_unit) (defBody s_law_unit) (defScope s_law_unit) .none kV21 dc21 pm21 an21 cd21 ct21), sl21⟩) (c21 : PySem.W.codeIn K cd21 "_law_unit" = true) (k21 : PySem.W.keepIn K (.ref f21) = true)
    (a22 : PySem.W.nsIn K mainGlobals "_law_mmul" = some (some (.ref f22))) (l22 : K.lookup f22 = some ⟨oc22, od22, .func (PySem.W.fnOf "_law_mmul" "_law_mmul" (defArgs s_law_mmul) (defBody s_law_mmul) (defScope s_law_mmul) .none kV22 dc22 pm22 an22 cd22 ct22), sl22⟩) (c22 : PySem.W.codeIn K cd22 "_law_mmul" = true) (k22 : PySem.W.keepIn K (.ref f22) = true)
    (a23 : PySem.W.nsIn K mainGlobals "_law_less" = some (some (.ref f23))) (l23 : K.lookup f23 = some ⟨oc23, od23, .func (PySem.W.fnOf "_law_less" "_law_less" (defArgs s_law_less) (defBody s_law_less) (defScope s_law_less) .none kV23 dc23 pm23 an23 cd23 ct23), sl23⟩) (c23 : PySem.W.codeIn K cd23 "_law_less" = true) (k23 : PySem.W.keepIn K (.ref f23) = true)
    (a24 : PySem.W.nsIn K mainGlobals "_law_steps" = some (some (.ref f24))) (l24 : K.lookup f24 = some ⟨oc24, od24, .func (PySem.W.fnOf "_law_steps" "_law_steps" (defArgs s_law_steps) (defBody s_law_steps) (defScope s_law_steps) .none kV24 dc24 pm24 an24 cd24 ct24), sl24⟩) (c24 : PySem.W.codeIn K cd24 "_law_steps" = true) (k24 : PySem.W.keepIn K (.ref f24) = true)
    (a25 : PySem.W.nsIn K mainGlobals "_law_minv" = some (some (.ref f25))) (l25 : K.lookup f25 = some ⟨oc25, od25, .func (PySem.W.fnOf "_law_minv" "_law_minv" (defArgs s_law_minv) (defBody s_law_minv) (defScope s_law_minv) .none kV25 dc25 pm25 an25 cd25 ct25), sl25⟩) (c25 : PySem.W.codeIn K cd25 "_law_minv" = true) (k25 : PySem.W.keepIn K (.ref f25) = true)
    (a26 : PySem.W.nsIn K mainGlobals "_law_det" = some (some (.ref f26))) (l26 : K.lookup f26 = some ⟨oc26, od26, .func (PySem.W.fnOf "_law_det" "_law_det" (defArgs s_law_det) (defBody s_law_det) (defScope s_law_det) .none kV26 dc26 pm26 an26 cd26 ct26), sl26⟩) (c26 : PySem.W.codeIn K cd26 "_law_det" = true) (k26 : PySem.W.keepIn K (.ref f26) = true)
    (a27 : PySem.W.nsIn K mainGlobals "_law_told" = some (some (.ref f27))) (l27 : K.lookup f27 = some ⟨oc27, od27, .func (PySem.W.fnOf "_law_told" "_law_told" (defArgs s_law_told) (defBody s_law_told) (defScope s_law_told) .none kV27 dc27 pm27 an27 cd27 ct27), sl27⟩) (c27 : PySem.W.codeIn K cd27 "_law_told" = true) (k27 : PySem.W.keepIn K (.ref f27) = true)
    (a28 : PySem.W.nsIn K mainGlobals "law" = some (some (.ref f28))) (l28 : K.lookup f28 = some ⟨oc28, od28, .func (PySem.W.fnOf "law" "law" (defArgs s_law) (defBody s_law) (defScope s_law) .none kV28 dc28 pm28 an28 cd28 ct28), sl28⟩) (c28 : PySem.W.codeIn K cd28 "law" = true) (k28 : PySem.W.keepIn K (.ref f28) = true)
    {C_NoInverse : Addr} (e_NoInverse : PySem.W.nsIn K mainGlobals "NoInverse" = some (some (.ref C_NoInverse)))
    (x_NoInverse : (PySem.W.excIn K C_NoInverse [.type "ValueError", .type "Exception", .type "BaseException", .type "object"] "ValueError.__new__" && (PySem.W.keepIn K (.ref C_NoInverse) && (decide (PySem.W.subIn K (.ref C_NoInverse) (.type "BaseException") = some true) && decide (PySem.W.typeIn K (.ref C_NoInverse) = some (.type "type"))))) = true)
    (m_NoInverse_NoInverse : PySem.W.exmOne K (.ref C_NoInverse) (.ref C_NoInverse) = some true)
    (z_abs : PySem.W.nsIn K mainGlobals "abs" = some none)
    (z_range : PySem.W.nsIn K mainGlobals "range" = some none)
    (z_int : PySem.W.nsIn K mainGlobals "int" = some none)
    (z_zip : PySem.W.nsIn K mainGlobals "zip" = some none)
    (z_len : PySem.W.nsIn K mainGlobals "len" = some none)
    (z_list : PySem.W.nsIn K mainGlobals "list" = some none)
    (z_tuple : PySem.W.nsIn K mainGlobals "tuple" = some none)
    (z_isinstance : PySem.W.nsIn K mainGlobals "isinstance" = some none)
    (z_bool : PySem.W.nsIn K mainGlobals "bool" = some none)
    : ∃ fd : FuncData, (∀ (s : Shared) (v : Value), BindsTo s fd ⟨[v], []⟩ [("script", v)]) ∧ ∀ base : Heap, K.In base → base.Ns mainGlobals mg → FnOk PySem.Challenge.rw_unswapped_k02_inverses_and_determinants.prog w K mg base (L2.CX PySem.Challenge.rw_unswapped_k02_inverses_and_determinants.prog w) 12 fa fd ["script"] (spH K (spV 1 sem_law)) := by
  have e := hfa.symm.trans (PySem.W.mg_of X G a28)
  cases e
  have m_abs := PySem.W.mg_none_of X G z_abs
  have m_range := PySem.W.mg_none_of X G z_range
  have m_int := PySem.W.mg_none_of X G z_int
  have m_zip := PySem.W.mg_none_of X G z_zip
  have m_len := PySem.W.mg_none_of X G z_len
  have m_list := PySem.W.mg_none_of X G z_list
  have m_tuple := PySem.W.mg_none_of X G z_tuple
  have m_isinstance := PySem.W.mg_none_of X G z_isinstance
  have m_bool := PySem.W.mg_none_of X G z_bool
  have F0 := fun_mk (st := s_divisor) l0 c0 k0
  have F1 := fun_mk (st := s_ratio) l1 c1 k1
  have F2 := fun_mk (st := s_minus) l2 c2 k2
  have F3 := fun_mk (st := s_times) l3 c3 k3
  have F4 := fun_mk (st := s_over) l4 c4 k4
  have F5 := fun_mk (st := s_unit) l5 c5 k5
  have F6 := fun_mk (st := s_beside) l6 c6 k6
  have F7 := fun_mk (st := s_pivot_of) l7 c7 k7
  have F8 := fun_mk (st := s_less) l8 c8 k8
  have F9 := fun_mk (st := s_inverse_of) l9 c9 k9
  have F10 := fun_mk (st := s_determinant) l10 c10 k10
  have F11 := fun_mk (st := s_law_cell) l11 c11 k11
  have F12 := fun_mk (st := s_law_take) l12 c12 k12
  have F13 := fun_mk (st := s_law_big) l13 c13 k13
  have F14 := fun_mk (st := s_law_divisor) l14 c14 k14
  have F15 := fun_mk (st := s_law_ratio) l15 c15 k15
  have F16 := fun_mk (st := s_law_is_ratio) l16 c16 k16
  have F17 := fun_mk (st := s_law_add) l17 c17 k17
  have F18 := fun_mk (st := s_law_sub) l18 c18 k18
  have F19 := fun_mk (st := s_law_mul) l19 c19 k19
  have F20 := fun_mk (st := s_law_zeros) l20 c20 k20
  have F21 := fun_mk (st := s_law_unit) l21 c21 k21
  have F22 := fun_mk (st := s_law_mmul) l22 c22 k22
  have F23 := fun_mk (st := s_law_less) l23 c23 k23
  have F24 := fun_mk (st := s_law_steps) l24 c24 k24
  have F25 := fun_mk (st := s_law_minv) l25 c25 k25
  have F26 := fun_mk (st := s_law_det) l26 c26 k26
  have F27 := fun_mk (st := s_law_told) l27 c27 k27
  have F28 := fun_mk (st := s_law) l28 c28 k28
  refine ⟨PySem.W.fnOf "law" "law" (defArgs s_law) (defBody s_law) (defScope s_law) .none kV28 dc28 pm28 an28 cd28 ct28, fun s v => .of_eq rfl, fun base _ _ => ?_⟩
  have mx_NoInverse := PySem.W.mg_of X G e_NoInverse
  have n_NoInverse : ClsN K "NoInverse" C_NoInverse := e_NoInverse
  have P_NoInverse : ExP K mg "NoInverse" := by
    have h := x_NoInverse
    simp only [Bool.and_eq_true, decide_eq_true_eq] at h
    exact ⟨C_NoInverse, h.1, mx_NoInverse, e_NoInverse, h.2.1, h.2.2.1, h.2.2.2⟩
  have so_NoInverse : SubOk K (.ref C_NoInverse) [("NoInverse", true)] := ⟨⟨C_NoInverse, e_NoInverse, m_NoInverse_NoInverse⟩, trivial⟩
  have B0 := F0.binds (ps := ["one", "two"]) fun _ _ _ _ _ _ us hl => match us, hl with | [_, _], _ => rfl
  have G_divisor : FnV PySem.Challenge.rw_unswapped_k02_inverses_and_determinants.prog w K mg base "divisor" 1 ["one", "two"] sem_divisor := fn_V t_divisor F0 (PySem.W.mg_of X G a0) B0 sc_divisor (fun cdv A outer s H E hr bx => l_divisor m_abs      cdv A outer s H E hr bx)
  have B1 := F1.binds (ps := ["numerator", "denominator"]) fun _ _ _ _ _ _ us hl => match us, hl with | [_, _], _ => rfl
  have G_ratio : FnV PySem.Challenge.rw_unswapped_k02_inverses_and_determinants.prog w K mg base "ratio" 3 ["numerator", "denominator"] sem_ratio := fn_V t_ratio F1 (PySem.W.mg_of X G a1) B1 sc_ratio (fun cdv A outer s H E hr bx => l_ratio   P_NoInverse   G_divisor cdv A outer s H E hr bx)
  have B2 := F2.binds (ps := ["one", "two"]) fun _ _ _ _ _ _ us hl => match us, hl with | [_, _], _ => rfl
  have G_minus : FnV PySem.Challenge.rw_unswapped_k02_inverses_and_determinants.prog w K mg base "minus" 4 ["one", "two"] sem_minus := fn_V t_minus F2 (PySem.W.mg_of X G a2) B2 sc_minus (fun cdv A outer s H E hr bx => l_minus      G_ratio cdv A outer s H E hr bx)
  have B3 := F3.binds (ps := ["one", "two"]) fun _ _ _ _ _ _ us hl => match us, hl with | [_, _], _ => rfl
  have G_times : FnV PySem.Challenge.rw_unswapped_k02_inverses_and_determinants.prog w K mg base "times" 4 ["one", "two"] sem_times := fn_V t_times F3 (PySem.W.mg_of X G a3) B3 sc_times (fun cdv A outer s H E hr bx => l_times      G_ratio cdv A outer s H E hr bx)
  have B4 := F4.binds (ps := ["one", "two"]) fun _ _ _ _ _ _ us hl => match us, hl with | [_, _], _ => rfl
  have G_over : FnV PySem.Challenge.rw_unswapped_k02_inverses_and_determinants.prog w K mg base "over" 4 ["one", "two"] sem_over := fn_V t_over F4 (PySem.W.mg_of X G a4) B4 sc_over (fun cdv A outer s H E hr bx => l_over      G_ratio cdv A outer s H E hr bx)
  have B5 := F5.binds (ps := ["size"]) fun _ _ _ _ _ _ us hl => match us, hl with | [_], _ => rfl
  have G_unit : FnV PySem.Challenge.rw_unswapped_k02_inverses_and_determinants.prog w K mg base "unit" 1 ["size"] sem_unit := fn_V t_unit F5 (PySem.W.mg_of X G a5) B5 sc_unit (fun cdv A outer s H E hr bx => l_unit m_range m_int      cdv A outer s H E hr bx)
  have B6 := F6.binds (ps := ["one", "two"]) fun _ _ _ _ _ _ us hl => match us, hl with | [_, _], _ => rfl
  have G_beside : FnV PySem.Challenge.rw_unswapped_k02_inverses_and_determinants.prog w K mg base "beside" 1 ["one", "two"] sem_beside := fn_V t_beside F6 (PySem.W.mg_of X G a6) B6 sc_beside (fun cdv A outer s H E hr bx => l_beside m_zip      cdv A outer s H E hr bx)
  have B7 := F7.binds (ps := ["rows", "at"]) fun _ _ _ _ _ _ us hl => match us, hl with | [_, _], _ => rfl
  have G_pivot_of : FnV PySem.Challenge.rw_unswapped_k02_inverses_and_determinants.prog w K mg base "pivot_of" 1 ["rows", "at"] sem_pivot_of := fn_V t_pivot_of F7 (PySem.W.mg_of X G a7) B7 sc_pivot_of (fun cdv A outer s H E hr bx => l_pivot_of m_range m_len      cdv A outer s H E hr bx)
  have G_beside_at_o : FnV PySem.Challenge.rw_unswapped_k02_inverses_and_determinants.prog w K mg base "beside" 1 ["one", "two"] sem_beside_at_o := fn_K t_beside_at_o F6 (PySem.W.mg_of X G a6) B6 sc_beside_at_o (fun cdv A outer s H E hr bx => l_beside_at_o m_zip      cdv A outer s H E hr bx)
  have B8 := F8.binds (ps := ["row", "factor", "other"]) fun _ _ _ _ _ _ us hl => match us, hl with | [_, _, _], _ => rfl
  have G_less : FnV PySem.Challenge.rw_unswapped_k02_inverses_and_determinants.prog w K mg base "less" 5 ["row", "factor", "other"] sem_less := fn_V t_less F8 (PySem.W.mg_of X G a8) B8 sc_less (fun cdv A outer s H E hr bx => l_less m_zip     G_minus G_times cdv A outer s H E hr bx)
  have B9 := F9.binds (ps := ["one"]) fun _ _ _ _ _ _ us hl => match us, hl with | [_], _ => rfl
  have G_inverse_of : FnV PySem.Challenge.rw_unswapped_k02_inverses_and_determinants.prog w K mg base "inverse_of" 6 ["one"] sem_inverse_of := fn_V t_inverse_of F9 (PySem.W.mg_of X G a9) B9 sc_inverse_of (fun cdv A outer s H E hr bx => l_inverse_of m_len m_range  P_NoInverse   G_beside_at_o G_unit G_pivot_of G_over G_less cdv A outer s H E hr bx)
  have B10 := F10.binds (ps := ["one"]) fun _ _ _ _ _ _ us hl => match us, hl with | [_], _ => rfl
  have G_determinant : FnV PySem.Challenge.rw_unswapped_k02_inverses_and_determinants.prog w K mg base "determinant" 6 ["one"] sem_determinant := fn_V t_determinant F10 (PySem.W.mg_of X G a10) B10 sc_determinant (fun cdv A outer s H E hr bx => l_determinant m_list m_range m_len     G_pivot_of G_times G_less G_over cdv A outer s H E hr bx)
  have B11 := F11.binds (ps := ["script", "k"]) fun _ _ _ _ _ _ us hl => match us, hl with | [_, _], _ => rfl
  have G_law_cell : FnV PySem.Challenge.rw_unswapped_k02_inverses_and_determinants.prog w K mg base "_law_cell" 1 ["script", "k"] sem_law_cell := fn_V t_law_cell F11 (PySem.W.mg_of X G a11) B11 sc_law_cell (fun cdv A outer s H E hr bx => l_law_cell m_len m_int      cdv A outer s H E hr bx)
  have B12 := F12.binds (ps := ["state", "m"]) fun _ _ _ _ _ _ us hl => match us, hl with | [_, _], _ => rfl
  have G_law_take : FnV PySem.Challenge.rw_unswapped_k02_inverses_and_determinants.prog w K mg base "_law_take" 1 ["state", "m"] sem_law_take := fn_V t_law_take F12 (PySem.W.mg_of X G a12) B12 sc_law_take (fun cdv A outer s H E hr bx => l_law_take m_int      cdv A outer s H E hr bx)
  have B13 := F13.binds (ps := ["script", "at", "count"]) fun _ _ _ _ _ _ us hl => match us, hl with | [_, _, _], _ => rfl
  have G_law_big : FnV PySem.Challenge.rw_unswapped_k02_inverses_and_determinants.prog w K mg base "_law_big" 2 ["script", "at", "count"] sem_law_big := fn_K t_law_big F13 (PySem.W.mg_of X G a13) B13 sc_law_big (fun cdv A outer s H E hr bx => l_law_big m_range     G_law_cell cdv A outer s H E hr bx)
  have B14 := F14.binds (ps := ["one", "two"]) fun _ _ _ _ _ _ us hl => match us, hl with | [_, _], _ => rfl
  have G_law_divisor : FnV PySem.Challenge.rw_unswapped_k02_inverses_and_determinants.prog w K mg base "_law_divisor" 1 ["one", "two"] sem_law_divisor := fn_V t_law_divisor F14 (PySem.W.mg_of X G a14) B14 sc_law_divisor (fun cdv A outer s H E hr bx => l_law_divisor m_abs m_range m_int      cdv A outer s H E hr bx)
  have B15 := F15.binds (ps := ["p", "q"]) fun _ _ _ _ _ _ us hl => match us, hl with | [_, _], _ => rfl
  have G_law_ratio : FnV PySem.Challenge.rw_unswapped_k02_inverses_and_determinants.prog w K mg base "_law_ratio" 2 ["p", "q"] sem_law_ratio := fn_V t_law_ratio F15 (PySem.W.mg_of X G a15) B15 sc_law_ratio (fun cdv A outer s H E hr bx => l_law_ratio m_int     G_law_divisor cdv A outer s H E hr bx)
  have B16 := F16.binds (ps := ["pair"]) fun _ _ _ _ _ _ us hl => match us, hl with | [_], _ => rfl
  have G_law_is_ratio : FnV PySem.Challenge.rw_unswapped_k02_inverses_and_determinants.prog w K mg base "_law_is_ratio" 2 ["pair"] sem_law_is_ratio := fn_V t_law_is_ratio F16 (PySem.W.mg_of X G a16) B16 sc_law_is_ratio (fun cdv A outer s H E hr bx => l_law_is_ratio m_tuple m_isinstance m_len m_int m_bool     G_law_divisor cdv A outer s H E hr bx)
  have B17 := F17.binds (ps := ["one", "two"]) fun _ _ _ _ _ _ us hl => match us, hl with | [_, _], _ => rfl
  have G_law_add : FnV PySem.Challenge.rw_unswapped_k02_inverses_and_determinants.prog w K mg base "_law_add" 3 ["one", "two"] sem_law_add := fn_V t_law_add F17 (PySem.W.mg_of X G a17) B17 sc_law_add (fun cdv A outer s H E hr bx => l_law_add      G_law_ratio cdv A outer s H E hr bx)
  have B18 := F18.binds (ps := ["one", "two"]) fun _ _ _ _ _ _ us hl => match us, hl with | [_, _], _ => rfl
  have G_law_sub : FnV PySem.Challenge.rw_unswapped_k02_inverses_and_determinants.prog w K mg base "_law_sub" 4 ["one", "two"] sem_law_sub := fn_V t_law_sub F18 (PySem.W.mg_of X G a18) B18 sc_law_sub (fun cdv A outer s H E hr bx => l_law_sub      G_law_add cdv A outer s H E hr bx)
  have B19 := F19.binds (ps := ["one", "two"]) fun _ _ _ _ _ _ us hl => match us, hl with | [_, _], _ => rfl
  have G_law_mul : FnV PySem.Challenge.rw_unswapped_k02_inverses_and_determinants.prog w K mg base "_law_mul" 3 ["one", "two"] sem_law_mul := fn_V t_law_mul F19 (PySem.W.mg_of X G a19) B19 sc_law_mul (fun cdv A outer s H E hr bx => l_law_mul      G_law_ratio cdv A outer s H E hr bx)
  have B20 := F20.binds (ps := ["rows", "columns"]) fun _ _ _ _ _ _ us hl => match us, hl with | [_, _], _ => rfl
  have G_law_zeros : FnV PySem.Challenge.rw_unswapped_k02_inverses_and_determinants.prog w K mg base "_law_zeros" 1 ["rows", "columns"] sem_law_zeros := fn_V t_law_zeros F20 (PySem.W.mg_of X G a20) B20 sc_law_zeros (fun cdv A outer s H E hr bx => l_law_zeros m_range      cdv A outer s H E hr bx)
  have B21 := F21.binds (ps := ["size"]) fun _ _ _ _ _ _ us hl => match us, hl with | [_], _ => rfl
  have G_law_unit : FnV PySem.Challenge.rw_unswapped_k02_inverses_and_determinants.prog w K mg base "_law_unit" 1 ["size"] sem_law_unit := fn_V t_law_unit F21 (PySem.W.mg_of X G a21) B21 sc_law_unit (fun cdv A outer s H E hr bx => l_law_unit m_range m_int      cdv A outer s H E hr bx)
  have G_law_zeros_at_o : FnV PySem.Challenge.rw_unswapped_k02_inverses_and_determinants.prog w K mg base "_law_zeros" 1 ["rows", "columns"] sem_law_zeros_at_o := fn_K t_law_zeros_at_o F20 (PySem.W.mg_of X G a20) B20 sc_law_zeros_at_o (fun cdv A outer s H E hr bx => l_law_zeros_at_o m_range      cdv A outer s H E hr bx)
  have B22 := F22.binds (ps := ["one", "two"]) fun _ _ _ _ _ _ us hl => match us, hl with | [_, _], _ => rfl
  have G_law_mmul : FnV PySem.Challenge.rw_unswapped_k02_inverses_and_determinants.prog w K mg base "_law_mmul" 4 ["one", "two"] sem_law_mmul := fn_V t_law_mmul F22 (PySem.W.mg_of X G a22) B22 sc_law_mmul (fun cdv A outer s H E hr bx => l_law_mmul m_len m_range     G_law_zeros_at_o G_law_add G_law_mul cdv A outer s H E hr bx)
  have B23 := F23.binds (ps := ["row", "factor", "other"]) fun _ _ _ _ _ _ us hl => match us, hl with | [_, _, _], _ => rfl
  have G_law_less : FnV PySem.Challenge.rw_unswapped_k02_inverses_and_determinants.prog w K mg base "_law_less" 5 ["row", "factor", "other"] sem_law_less := fn_V t_law_less F23 (PySem.W.mg_of X G a23) B23 sc_law_less (fun cdv A outer s H E hr bx => l_law_less m_range m_len     G_law_sub G_law_mul cdv A outer s H E hr bx)
  have B24 := F24.binds (ps := ["rows"]) fun _ _ _ _ _ _ us hl => match us, hl with | [_], _ => rfl
  have G_law_steps : FnV PySem.Challenge.rw_unswapped_k02_inverses_and_determinants.prog w K mg base "_law_steps" 6 ["rows"] sem_law_steps := fn_V t_law_steps F24 (PySem.W.mg_of X G a24) B24 sc_law_steps (fun cdv A outer s H E hr bx => l_law_steps m_list m_range m_len     G_law_ratio G_law_mul G_law_less cdv A outer s H E hr bx)
  have B25 := F25.binds (ps := ["one"]) fun _ _ _ _ _ _ us hl => match us, hl with | [_], _ => rfl
  have G_law_minv : FnV PySem.Challenge.rw_unswapped_k02_inverses_and_determinants.prog w K mg base "_law_minv" 7 ["one"] sem_law_minv := fn_V t_law_minv F25 (PySem.W.mg_of X G a25) B25 sc_law_minv (fun cdv A outer s H E hr bx => l_law_minv m_len m_range m_list     G_law_unit G_law_steps cdv A outer s H E hr bx)
  have B26 := F26.binds (ps := ["rows"]) fun _ _ _ _ _ _ us hl => match us, hl with | [_], _ => rfl
  have G_all_law_det : ∀ n, FnV PySem.Challenge.rw_unswapped_k02_inverses_and_determinants.prog w K mg base "_law_det" (4 + n) ["rows"] (sem_law_det n) := fun n => by
    induction n with
    | zero => exact fn_0 F26 (PySem.W.mg_of X G a26) B26
    | succ n ih => exact fn_V (t_law_det (sem_law_det n)) F26 (PySem.W.mg_of X G a26) B26 sc_law_det (fun cdv A outer s H E hr bx => l_law_det m_range m_len m_int     G_law_mul ih G_law_sub G_law_add cdv A outer s H E hr bx)
  have G_law_det := G_all_law_det 7
  have B27 := F27.binds (ps := ["rows"]) fun _ _ _ _ _ _ us hl => match us, hl with | [_], _ => rfl
  have G_law_told : FnV PySem.Challenge.rw_unswapped_k02_inverses_and_determinants.prog w K mg base "_law_told" 7 ["rows"] sem_law_told := fn_V t_law_told F27 (PySem.W.mg_of X G a27) B27 sc_law_told (fun cdv A outer s H E hr bx => l_law_told    mx_NoInverse so_NoInverse  G_inverse_of cdv A outer s H E hr bx)
  exact fn_L t_law F28 sc_law (fun cdv A outer s H E hr bx => l_law m_range m_list     G_law_big G_law_take G_law_ratio G_law_mul G_law_add G_law_minv G_law_told G_determinant G_law_is_ratio G_law_det G_law_mmul G_law_unit cdv A outer s H E hr bx)
theorem law_v (ns : List Int) (Q : DQ) (q : Q (.d (.bool true)) []) : spV 1 sem_law [.rl (ns.map .int)] [] Q noX := by
  refine ⟨rfl, ?_⟩
  rw [r_law ns]
  exact q
end K02
open PySem PySem.W PyProof.Rows
set_option maxHeartbeats 0 in
theorem PySem.Challenge.cw_unswapped_k02_inverses_and_determinants_holds : PySem.Challenge.rw_unswapped_k02_inverses_and_determinants.Holds := by
  w_on; o_law; k_head; (case hw => w_witness2)
  k_fill
  refine L2.walk_of (l := PySem.Challenge.rw_unswapped_k02_inverses_and_determinants) (n := 63) (k := 12) (x := "script") (CX := fun w => L2.CX PySem.Challenge.rw_unswapped_k02_inverses_and_determinants.prog w) (sp := fun w => UZ.spH _ (UZ.spV 1 K02.sem_law)) rfl (by decide) rfl ⟨rfl, by decide, by decide⟩ (fun w h Y => PySem.W.kIn_of Y) ?F (fun _ _ a ns hl _ hS => UZ.law_sp hS fun Q q => K02.law_v ns Q q) (fun _ _ _ _ _ h => K02.cx_no h)
  case F =>
    intro w mg fa h KX G hmg
    refine' K02.all_mk KX G hmg ?a0 ?l0 ?c0 ?k0 ?a1 ?l1 ?c1 ?k1 ?a2 ?l2 ?c2 ?k2 ?a3 ?l3 ?c3 ?k3 ?a4 ?l4 ?c4 ?k4 ?a5 ?l5 ?c5 ?k5 ?a6 ?l6 ?c6 ?k6 ?a7 ?l7 ?c7 ?k7 ?a8 ?l8 ?c8 ?k8 ?a9 ?l9 ?c9 ?k9 ?a10 ?l10 ?c10 ?k10 ?a11 ?l11 ?c11 ?k11 ?a12 ?l12 ?c12 ?k12 ?a13 ?l13 ?c13 ?k13 ?a14 ?l14 ?c14 ?k14 ?a15 ?l15 ?c15 ?k15 ?a16 ?l16 ?c16 ?k16 ?a17 ?l17 ?c17 ?k17 ?a18 ?l18 ?c18 ?k18 ?a19 ?l19 ?c19 ?k19 ?a20 ?l20 ?c20 ?k20 ?a21 ?l21 ?c21 ?k21 ?a22 ?l22 ?c22 ?k22 ?a23 ?l23 ?c23 ?k23 ?a24 ?l24 ?c24 ?k24 ?a25 ?l25 ?c25 ?k25 ?a26 ?l26 ?c26 ?k26 ?a27 ?l27 ?c27 ?k27 ?a28 ?l28 ?c28 ?k28 ?e_NoInverse ?x_NoInverse ?m_NoInverse_NoInverse ?z_abs ?z_range ?z_int ?z_zip ?z_len ?z_list ?z_tuple ?z_isinstance ?z_bool
    (case a0 => k_is); (case l0 => k_is); (case c0 => k_is); (case k0 => k_is); (case a1 => k_is); (case l1 => k_is); (case c1 => k_is); (case k1 => k_is); (case a2 => k_is); (case l2 => k_is); (case c2 => k_is); (case k2 => k_is)
    (case a3 => k_is); (case l3 => k_is); (case c3 => k_is); (case k3 => k_is); (case a4 => k_is); (case l4 => k_is); (case c4 => k_is); (case k4 => k_is); (case a5 => k_is); (case l5 => k_is); (case c5 => k_is); (case k5 => k_is)
    (case a6 => k_is); (case l6 => k_is); (case c6 => k_is); (case k6 => k_is); (case a7 => k_is); (case l7 => k_is); (case c7 => k_is); (case k7 => k_is); (case a8 => k_is); (case l8 => k_is); (case c8 => k_is); (case k8 => k_is)
    (case a9 => k_is); (case l9 => k_is); (case c9 => k_is); (case k9 => k_is); (case a10 => k_is); (case l10 => k_is); (case c10 => k_is); (case k10 => k_is); (case a11 => k_is); (case l11 => k_is); (case c11 => k_is); (case k11 => k_is)
    (case a12 => k_is); (case l12 => k_is); (case c12 => k_is); (case k12 => k_is); (case a13 => k_is); (case l13 => k_is); (case c13 => k_is); (case k13 => k_is); (case a14 => k_is); (case l14 => k_is); (case c14 => k_is); (case k14 => k_is)
    (case a15 => k_is); (case l15 => k_is); (case c15 => k_is); (case k15 => k_is); (case a16 => k_is); (case l16 => k_is); (case c16 => k_is); (case k16 => k_is); (case a17 => k_is); (case l17 => k_is); (case c17 => k_is); (case k17 => k_is)
    (case a18 => k_is); (case l18 => k_is); (case c18 => k_is); (case k18 => k_is); (case a19 => k_is); (case l19 => k_is); (case c19 => k_is); (case k19 => k_is); (case a20 => k_is); (case l20 => k_is); (case c20 => k_is); (case k20 => k_is)
    (case a21 => k_is); (case l21 => k_is); (case c21 => k_is); (case k21 => k_is); (case a22 => k_is); (case l22 => k_is); (case c22 => k_is); (case k22 => k_is); (case a23 => k_is); (case l23 => k_is); (case c23 => k_is); (case k23 => k_is)
    (case a24 => k_is); (case l24 => k_is); (case c24 => k_is); (case k24 => k_is); (case a25 => k_is); (case l25 => k_is); (case c25 => k_is); (case k25 => k_is); (case a26 => k_is); (case l26 => k_is); (case c26 => k_is); (case k26 => k_is)
    (case a27 => k_is); (case l27 => k_is); (case c27 => k_is); (case k27 => k_is); (case a28 => k_is); (case l28 => k_is); (case c28 => k_is); (case k28 => k_is); (case e_NoInverse => k_is); (case x_NoInverse => first | rfl | kernel_rfl | decide +kernel); (case m_NoInverse_NoInverse => first | rfl | kernel_rfl | decide +kernel); (case z_abs => k_is)
    (case z_range => k_is); (case z_int => k_is); (case z_zip => k_is); (case z_len => k_is); (case z_list => k_is); (case z_tuple => k_is); (case z_isinstance => k_is); (case z_bool => k_is)
