import PyProof.Rows.All
import HandS.ForMost
import HandS.ForExc
import HandS.DeepEq
import HandS.Deep
import HandS.TupAny
import HandS.Wide
import HandS.WideBits
import HandS.TupLe
import HandS.TupMul
import HandS.Style
import HandS.Rev
import HandS.SetFor
import HandS.IsInst
import HandS.Flow
import KE.DataMinMax
import PyProof.StrOps2
import KE.KSortTupG
import HandS.TupSets
import HandS.Strs
import PyProof.WalkInts
import PyProof.TupleOfSeq
import HandS.More
import KE.KDictPairs
import KE.KTupSum
import HandS.ExcCtx
import HandS.HotCalls
import HandS.ExcIs
import HandS.ExcField
import KE.KExcIs
import HandS.Words
import HandS.WordsExc
import HandS.Ends
import HandS.Zip
import KE.GoesEnum
import KE.GoesMore
import KE.DataFind
import HandS.Small
import HandS.TryOnly
import HandS.Conv
import HandS.Iter
import HandS.Comp
import PySem.Challenge.RW_twogoods_k61_fractions_reckoned
import KE.IntBitsLaws
set_option Elab.async false
set_option linter.all false
set_option maxRecDepth 100000
section
namespace TG
open PySem PySem.Spec PyProof.Rows L2

/-- plain data -/
inductive D where
  | non | bl (b : Bool) | int (i : Int) | str (x : Str)
  | tup (ds : List D) | lst (ds : List D) | scr (ds : List D) | dct (kvs : List (Key × D)) | dtt (kvs : List (List Key × D)) | ptp (ds : List D)
  deriving Inhabited

abbrev KTup (K : PySem.W.Frag) (a : Addr) (xs : List V) : Prop :=
  ∃ (o : Obj) (its : Array Value) (n : Nat), K.lookup a = some o ∧ o.cls = .type "tuple" ∧ o.data = .seq its n ∧ its.size ≤ sizeLine ∧ Vals xs its.toList
abbrev KLst (K : PySem.W.Frag) (a : Addr) (xs : List V) : Prop :=
  ∃ (o : Obj) (its : Array Value) (n : Nat), K.lookup a = some o ∧ o.cls = .type "list" ∧ o.dict = none ∧ o.data = .seq its n ∧ its.size ≤ sizeLine ∧ Vals xs its.toList
def TAt (K : PySem.W.Frag) (Z : Addr → Prop) (H : Hp) (a : Addr) (vs : List V) : Prop := (Z a ∧ H a = some (.tup vs)) ∨ KTup K a vs ∨ (Z a ∧ ∃ o, H a = some (.frz o (.tup vs)))
/-- a tuple that is known to have no dict -/
def PAt (Z : Addr → Prop) (H : Hp) (a : Addr) (vs : List V) : Prop := Z a ∧ ∃ o : Obj, o.dict = none ∧ H a = some (.frz o (.tup vs))
def LAt (Z : Addr → Prop) (H : Hp) (a : Addr) (vs : List V) : Prop := Z a ∧ H a = some (.lst vs)
def SAt (K : PySem.W.Frag) (Z : Addr → Prop) (H : Hp) (a : Addr) (vs : List V) : Prop := (Z a ∧ ∃ o, H a = some (.frz o (.lst vs))) ∨ KLst K a vs

mutual
inductive Rep (K : PySem.W.Frag) (Z : Addr → Prop) (H : Hp) : V → D → Prop
  | non : Rep K Z H .non .non
  | bl (b : Bool) : Rep K Z H (.bl b) (.bl b)
  | int (i : Int) : Rep K Z H (.int i) (.int i)
  | str (x : Str) : Rep K Z H (.str x) (.str x)
  | tup {a : Addr} {vs : List V} {ds : List D} (h : TAt K Z H a vs) (r : Reps K Z H vs ds) : Rep K Z H (.ref a) (.tup ds)
  | lst {a : Addr} {vs : List V} {ds : List D} (h : LAt Z H a vs) (r : Reps K Z H vs ds) : Rep K Z H (.ref a) (.lst ds)
  | scr {a : Addr} {vs : List V} {ds : List D} (h : SAt K Z H a vs) (r : Reps K Z H vs ds) : Rep K Z H (.ref a) (.scr ds)
  | dct {a : Addr} {kvs : List (Key × V)} {kds : List (Key × D)} (z : Z a) (h : H a = some (.dK kvs)) (r : RepKs K Z H kvs kds) : Rep K Z H (.ref a) (.dct kds)
  | dtt {a : Addr} {kvs : List (List Key × V)} {kds : List (List Key × D)} (z : Z a) (h : H a = some (.dT kvs)) (r : RepTs K Z H kvs kds) : Rep K Z H (.ref a) (.dtt kds)
  | ptp {a : Addr} {vs : List V} {ds : List D} (h : PAt Z H a vs) (r : Reps K Z H vs ds) : Rep K Z H (.ref a) (.ptp ds)
inductive Reps (K : PySem.W.Frag) (Z : Addr → Prop) (H : Hp) : List V → List D → Prop
  | nil : Reps K Z H [] []
  | cons {v : V} {d : D} {vs : List V} {ds : List D} (h : Rep K Z H v d) (r : Reps K Z H vs ds) : Reps K Z H (v :: vs) (d :: ds)
inductive RepKs (K : PySem.W.Frag) (Z : Addr → Prop) (H : Hp) : List (Key × V) → List (Key × D) → Prop
  | nil : RepKs K Z H [] []
  | cons {k : Key} {v : V} {d : D} {vs : List (Key × V)} {ds : List (Key × D)} (h : Rep K Z H v d) (r : RepKs K Z H vs ds) : RepKs K Z H ((k, v) :: vs) ((k, d) :: ds)
inductive RepTs (K : PySem.W.Frag) (Z : Addr → Prop) (H : Hp) : List (List Key × V) → List (List Key × D) → Prop
  | nil : RepTs K Z H [] []
  | cons {k : List Key} {v : V} {d : D} {vs : List (List Key × V)} {ds : List (List Key × D)} (h : Rep K Z H v d) (r : RepTs K Z H vs ds) : RepTs K Z H ((k, v) :: vs) ((k, d) :: ds)
end

section
variable {K : PySem.W.Frag} {Z Z' : Addr → Prop} {H H' : Hp}
theorem TAt.mono {a : Addr} {vs : List V} (z : ∀ b, Z b → Z' b) (k : ∀ b o, Z b → H b = some o → H' b = some o) (h : TAt K Z H a vs) : TAt K Z' H' a vs := by
  rcases h with ⟨h1, h2⟩ | h | ⟨h1, o, h2⟩
  · exact .inl ⟨z _ h1, k _ _ h1 h2⟩
  · exact .inr (.inl h)
  · exact .inr (.inr ⟨z _ h1, o, k _ _ h1 h2⟩)
theorem PAt.mono {a : Addr} {vs : List V} (z : ∀ b, Z b → Z' b) (k : ∀ b o, Z b → H b = some o → H' b = some o) (h : PAt Z H a vs) : PAt Z' H' a vs := by
  obtain ⟨h1, o, h2, h3⟩ := h
  exact ⟨z _ h1, o, h2, k _ _ h1 h3⟩
theorem PAt.tat {a : Addr} {vs : List V} (h : PAt Z H a vs) : TAt K Z H a vs := by
  obtain ⟨h1, o, h2, h3⟩ := h
  exact .inr (.inr ⟨h1, o, h3⟩)
theorem LAt.mono {a : Addr} {vs : List V} (z : ∀ b, Z b → Z' b) (k : ∀ b o, Z b → H b = some o → H' b = some o) (h : LAt Z H a vs) : LAt Z' H' a vs := by
  exact ⟨z _ h.1, k _ _ h.1 h.2⟩
theorem SAt.mono {a : Addr} {vs : List V} (z : ∀ b, Z b → Z' b) (k : ∀ b o, Z b → H b = some o → H' b = some o) (h : SAt K Z H a vs) : SAt K Z' H' a vs := by
  rcases h with ⟨h1, o, h2⟩ | h
  · exact .inl ⟨z _ h1, o, k _ _ h1 h2⟩
  · exact .inr h
mutual
theorem Rep.mono (z : ∀ b, Z b → Z' b) (k : ∀ b o, Z b → H b = some o → H' b = some o) : ∀ {v : V} {d : D}, Rep K Z H v d → Rep K Z' H' v d
  | _, _, .non => .non
  | _, _, .bl b => .bl b
  | _, _, .int i => .int i
  | _, _, .str x => .str x
  | _, _, .tup h r => .tup (h.mono z k) (Reps.mono z k r)
  | _, _, .lst h r => .lst (h.mono z k) (Reps.mono z k r)
  | _, _, .scr h r => .scr (h.mono z k) (Reps.mono z k r)
  | _, _, .dct h e r => .dct (z _ h) (k _ _ h e) (RepKs.mono z k r)
  | _, _, .dtt h e r => .dtt (z _ h) (k _ _ h e) (RepTs.mono z k r)
  | _, _, .ptp h r => .ptp (h.mono z k) (Reps.mono z k r)
theorem Reps.mono (z : ∀ b, Z b → Z' b) (k : ∀ b o, Z b → H b = some o → H' b = some o) : ∀ {v : List V} {d : List D}, Reps K Z H v d → Reps K Z' H' v d
  | _, _, .nil => .nil
  | _, _, .cons h r => .cons (Rep.mono z k h) (Reps.mono z k r)
theorem RepKs.mono (z : ∀ b, Z b → Z' b) (k : ∀ b o, Z b → H b = some o → H' b = some o) : ∀ {v : List (Key × V)} {d : List (Key × D)}, RepKs K Z H v d → RepKs K Z' H' v d
  | _, _, .nil => .nil
  | _, _, .cons h r => .cons (Rep.mono z k h) (RepKs.mono z k r)
theorem RepTs.mono (z : ∀ b, Z b → Z' b) (k : ∀ b o, Z b → H b = some o → H' b = some o) : ∀ {v : List (List Key × V)} {d : List (List Key × D)}, RepTs K Z H v d → RepTs K Z' H' v d
  | _, _, .nil => .nil
  | _, _, .cons h r => .cons (Rep.mono z k h) (RepTs.mono z k r)
end
theorem Reps.length : ∀ {vs : List V} {ds : List D}, Reps K Z H vs ds → vs.length = ds.length
  | _, _, .nil => rfl
  | _, _, .cons _ r => by rw [List.length_cons, List.length_cons, Reps.length r]
theorem RepKs.length : ∀ {vs : List (Key × V)} {ds : List (Key × D)}, RepKs K Z H vs ds → vs.length = ds.length
  | _, _, .nil => rfl
  | _, _, .cons _ r => by rw [List.length_cons, List.length_cons, RepKs.length r]
theorem RepTs.length : ∀ {vs : List (List Key × V)} {ds : List (List Key × D)}, RepTs K Z H vs ds → vs.length = ds.length
  | _, _, .nil => rfl
  | _, _, .cons _ r => by rw [List.length_cons, List.length_cons, RepTs.length r]
theorem Reps.get : ∀ {vs : List V} {ds : List D} {i : Nat} {d : D}, Reps K Z H vs ds → ds[i]? = some d → ∃ v, vs[i]? = some v ∧ Rep K Z H v d
  | _, _, _, _, .nil, e => by simp at e
  | _, _, 0, _, .cons h _, e => by simp at e; subst e; exact ⟨_, rfl, h⟩
  | _, _, i + 1, d, .cons _ r, e => by
    obtain ⟨v, h1, h2⟩ := Reps.get (i := i) (d := d) r (by simpa using e)
    exact ⟨v, by simpa using h1, h2⟩
theorem Reps.get' : ∀ {vs : List V} {ds : List D} {i : Nat} {v : V}, Reps K Z H vs ds → vs[i]? = some v → ∃ d, ds[i]? = some d ∧ Rep K Z H v d
  | _, _, _, _, .nil, e => by simp at e
  | _, _, 0, _, .cons h _, e => by simp at e; subst e; exact ⟨_, rfl, h⟩
  | _, _, i + 1, d, .cons _ r, e => by
    obtain ⟨v, h1, h2⟩ := Reps.get' (i := i) (v := d) r (by simpa using e)
    exact ⟨v, by simpa using h1, h2⟩
theorem Reps.append : ∀ {vs ws : List V} {ds es : List D}, Reps K Z H vs ds → Reps K Z H ws es → Reps K Z H (vs ++ ws) (ds ++ es)
  | _, _, _, _, .nil, s => s
  | _, _, _, _, .cons h r, s => .cons h (Reps.append r s)
theorem Reps.set {v : V} {d : D} (h : Rep K Z H v d) : ∀ {vs : List V} {ds : List D} (i : Nat), Reps K Z H vs ds → Reps K Z H (vs.set i v) (ds.set i d)
  | _, _, _, .nil => .nil
  | _, _, 0, .cons _ r => .cons h r
  | _, _, i + 1, .cons q r => .cons q (Reps.set h i r)
theorem Reps.take : ∀ {vs : List V} {ds : List D} (n : Nat), Reps K Z H vs ds → Reps K Z H (vs.take n) (ds.take n)
  | _, _, 0, _ => .nil
  | _, _, _ + 1, .nil => .nil
  | _, _, n + 1, .cons h r => .cons h (Reps.take n r)
theorem Reps.drop : ∀ {vs : List V} {ds : List D} (n : Nat), Reps K Z H vs ds → Reps K Z H (vs.drop n) (ds.drop n)
  | _, _, 0, r => r
  | _, _, _ + 1, .nil => .nil
  | _, _, n + 1, .cons _ r => Reps.drop n r
theorem Reps.eraseIdx : ∀ {vs : List V} {ds : List D} (n : Nat), Reps K Z H vs ds → Reps K Z H (vs.eraseIdx n) (ds.eraseIdx n)
  | _, _, _, .nil => .nil
  | _, _, 0, .cons _ r => r
  | _, _, n + 1, .cons h r => .cons h (Reps.eraseIdx n r)
theorem Reps.reverse {vs : List V} {ds : List D} (h : Reps K Z H vs ds) : Reps K Z H vs.reverse ds.reverse := by
  induction vs generalizing ds with
  | nil => cases h; exact .nil
  | cons v vs ih =>
    cases h with
    | cons h r => rw [List.reverse_cons, List.reverse_cons]; exact (ih r).append (.cons h .nil)
theorem Reps.dropLast : ∀ {vs : List V} {ds : List D}, Reps K Z H vs ds → Reps K Z H vs.dropLast ds.dropLast
  | _, _, .nil => .nil
  | _, _, .cons _ .nil => .nil
  | _, _, .cons h (.cons g r) => .cons h (Reps.dropLast (.cons g r))
theorem Reps.rep {vs : List V} {ds : List D} (h : Reps K Z H vs ds) : ∀ n : Nat, Reps K Z H (List.replicate n vs).flatten (List.replicate n ds).flatten
  | 0 => .nil
  | n + 1 => by rw [List.replicate_succ, List.replicate_succ, List.flatten_cons, List.flatten_cons]; exact h.append (Reps.rep h n)
theorem RepKs.val : ∀ {kvs : List (Key × V)} {kds : List (Key × D)} (k : Key), RepKs K Z H kvs kds →
    (valV kvs k = none ∧ kds.find? (fun kv => decide (kv.1 = k)) = none) ∨ ∃ v d, valV kvs k = some v ∧ kds.find? (fun kv => decide (kv.1 = k)) = some (k, d) ∧ Rep K Z H v d
  | _, _, _, .nil => .inl ⟨rfl, rfl⟩
  | _, _, k, .cons (k := j) (v := v) (d := d) h r => by
    by_cases e : j = k
    · subst e
      exact .inr ⟨v, d, valV_pos rfl, by simp [List.find?_cons], h⟩
    · rw [valV_neg e]
      have := RepKs.val k r
      simpa [List.find?_cons, e] using this
theorem RepTs.val : ∀ {kvs : List (List Key × V)} {kds : List (List Key × D)} (k : List Key), RepTs K Z H kvs kds →
    (valV kvs k = none ∧ kds.find? (fun kv => decide (kv.1 = k)) = none) ∨ ∃ v d, valV kvs k = some v ∧ kds.find? (fun kv => decide (kv.1 = k)) = some (k, d) ∧ Rep K Z H v d
  | _, _, _, .nil => .inl ⟨rfl, rfl⟩
  | _, _, k, .cons (k := j) (v := v) (d := d) h r => by
    by_cases e : j = k
    · subst e
      exact .inr ⟨v, d, valV_pos rfl, by simp [List.find?_cons], h⟩
    · rw [valV_neg e]
      have := RepTs.val k r
      simpa [List.find?_cons, e] using this
end

section
variable {κ α : Type} [DecidableEq κ]
def dval (kvs : List (κ × α)) (k : κ) : Option α := (kvs.find? fun kv => decide (kv.1 = k)).map (·.2)
def dput (kvs : List (κ × α)) (k : κ) (v : α) : List (κ × α) :=
  if kvs.any (fun kv => decide (kv.1 = k)) then kvs.map (fun kv => if kv.1 = k then (kv.1, v) else kv) else kvs ++ [(k, v)]
def ddrop (kvs : List (κ × α)) (k : κ) : List (κ × α) := kvs.filter fun kv => decide (kv.1 ≠ k)
def dmerge (kvs more : List (κ × α)) : List (κ × α) := more.foldl (fun acc kv => dput acc kv.1 kv.2) kvs
end

inductive Rv where
  | im (d : D) | fr (d : D) | bo (i : Nat)
inductive Sl where
  | un | im (d : D) | ow (d : D) | io (d : D) | lk (d : D) | xc (n : Str) (f : Option D)
  deriving Inhabited
abbrev Env := List Sl
abbrev XD := Str × Option D

/-- a mutable thing at a: its parts are data -/
inductive Top (K : PySem.W.Frag) (Z : Addr → Prop) (H : Hp) (a : Addr) : D → Prop
  | lst {vs : List V} {ds : List D} (h : H a = some (.lst vs)) (r : Reps K Z H vs ds) : Top K Z H a (.lst ds)
  | dct {kvs : List (Key × V)} {kds : List (Key × D)} (h : H a = some (.dK kvs)) (r : RepKs K Z H kvs kds) : Top K Z H a (.dct kds)
  | dtt {kvs : List (List Key × V)} {kds : List (List Key × D)} (h : H a = some (.dT kvs)) (r : RepTs K Z H kvs kds) : Top K Z H a (.dtt kds)

/-- .. locked -/
inductive Lkd (K : PySem.W.Frag) (Z : Addr → Prop) (H : Hp) (a : Addr) : D → Prop
  | dct {o : Obj} {kvs : List (Key × V)} {kds : List (Key × D)} (h : H a = some (.frz o (.dK kvs))) (r : RepKs K Z H kvs kds) : Lkd K Z H a (.dct kds)

/-- what stays through a def's run: K the written part, H0 the heap at its entry, S the things handed in to be changed, Z0 what stood in what was handed in, ad the addresses of the slots handed in to be changed -/
structure XG where
  i : Nat
  a : Addr
  n : Str
  d : Option Addr
  u : Bool
structure Gh where
  K : PySem.W.Frag
  H0 : Hp
  S : Addr → Prop
  Z0 : Addr → Prop
  ad : Nat → Addr
  x : Option XG
  Hb : Hp
/-- a refusal's own field, by its class -/
def fldOf (n : Str) : Str := if n = "NotPaired" then "tie" else if n = "NoRoom" then "lot" else if n = "NotEven" then "place" else ""
/-- a refusal's value: of its own dict -/
def XFld (K : PySem.W.Frag) (Z : Addr → Prop) (H : Hp) (dd : Option Addr) (n : Str) : Option D → Prop
  | none => dd = none
  | some d => ∃ a v, dd = some a ∧ Z a ∧ H a = some (.xd [(fldOf n, v)]) ∧ Rep K Z H v d

def Siz (H : Hp) : Prop := (∀ a xs, Rd H a (.lst xs) → xs.length ≤ sizeLine) ∧ (∀ a xs, H a = some (.tup xs) → xs.length ≤ sizeLine) ∧
  (∀ a (kvs : List (Key × V)), H a = some (.dK kvs) → kvs.length ≤ sizeLine) ∧ ∀ a (kvs : List (List Key × V)), H a = some (.dT kvs) → kvs.length ≤ sizeLine

def own (env : Env) (i : Nat) : Prop := ∃ d, env[i]? = some (Sl.ow d) ∨ env[i]? = some (Sl.io d)
def ownk (env : Env) (i : Nat) : Prop := own env i ∨ ∃ d, env[i]? = some (Sl.lk d)
def Ow (σ : L2.St) (env : Env) (a : Addr) : Prop := ∃ i : Nat, own env i ∧ σ[i]? = some (some (V.ref a))

/-- the slot of the refusal that is handled; what was frozen at the last try's start is kept -/
structure XcOk (G : Gh) (σ : L2.St) (Z : Addr → Prop) (H : Hp) (env : Env) : Prop where
  sl : ∀ (j : Nat) (n : Str) (f : Option D), env[j]? = some (Sl.xc n f) → ∃ g, G.x = some g ∧ (g.u = true ∧ j = g.i) ∧ g.n = n ∧ σ[j]? = some (some (V.ref g.a)) ∧ XFld G.K Z H g.d n f
  zb : ∀ b, G.Z0 b → Z b
  hb : ∀ b o, G.Z0 b → G.Hb b = some o → H b = some o
structure Rel (G : Gh) (σ : L2.St) (Z : Addr → Prop) (H : Hp) (env : Env) : Prop where
  len : env.length = σ.length
  im : ∀ (i : Nat) (d : D), env[i]? = some (Sl.im d) → ∃ v : V, σ[i]? = some (some v) ∧ Rep G.K Z H v d
  ow : ∀ (i : Nat) (d : D), env[i]? = some (Sl.ow d) → ∃ a : Addr, σ[i]? = some (some (V.ref a)) ∧ ¬ Z a ∧ G.H0 a = none ∧ Top G.K Z H a d
  io : ∀ (i : Nat) (d : D), env[i]? = some (Sl.io d) → σ[i]? = some (some (V.ref (G.ad i))) ∧ ¬ Z (G.ad i) ∧ G.S (G.ad i) ∧ Top G.K Z H (G.ad i) d
  lk : ∀ (i : Nat) (d : D), env[i]? = some (Sl.lk d) → ∃ a : Addr, σ[i]? = some (some (V.ref a)) ∧ ¬ Z a ∧ Lkd G.K Z H a d
  inj : ∀ (i j : Nat) (a : Addr), ownk env i → ownk env j → σ[i]? = some (some (V.ref a)) → σ[j]? = some (some (V.ref a)) → i = j
  z0 : ∀ b, G.Z0 b → Z b
  z1 : ∀ b, Z b → G.Z0 b ∨ G.H0 b = none
  zt : ∀ b, Z b → ∃ o, H b = some o
  keep : ∀ b o, G.H0 b = some o → ¬ G.S b → H b = some o
  tr : ∀ b o, G.H0 b = some o → ∃ u, H b = some u
  xc : XcOk G σ Z H env

structure Grow (O : Addr → Prop) (Z : Addr → Prop) (H : Hp) (Z' : Addr → Prop) (H' : Hp) : Prop where
  zz : ∀ b, Z b → Z' b
  zn : ∀ b, Z' b → Z b ∨ O b ∨ H b = none
  hk : ∀ b o, H b = some o → ¬ O b → H' b = some o
  tr : ∀ b o, H b = some o → ∃ u, H' b = some u
structure Stp (σ : L2.St) (Z : Addr → Prop) (H : Hp) (env : Env) (Z' : Addr → Prop) (H' : Hp) (env' : Env) : Prop where
  grow : Grow (Ow σ env) Z H Z' H'
  sub : ∀ i, own env' i → own env i

/-- at the top a thing of any owner -/
def RepT (K : PySem.W.Frag) (Z : Addr → Prop) (H : Hp) (v : V) (d : D) : Prop := Rep K Z H v d ∨ ∃ a, v = V.ref a ∧ (Top K Z H a d ∨ Lkd K Z H a d)

def RepR (G : Gh) (σ : L2.St) (Z : Addr → Prop) (H : Hp) (env : Env) : Rv → V → Prop
  | .im d, v => Rep G.K Z H v d
  | .fr d, v => ∃ a, v = .ref a ∧ ¬ Z a ∧ ¬ Ow σ env a ∧ G.H0 a = none ∧ Top G.K Z H a d
  | .bo i, v => σ[i]? = some (some v)
/-- a new thing is new -/
def RepN (H : Hp) : Rv → V → Prop
  | .fr _, v => ∀ a, v = V.ref a → H a = none
  | _, _ => True
end TG
end
section
namespace TG
open PySem PySem.Spec PyProof.Rows L2

section
variable {G : Gh} {σ : L2.St} {Z Z' Z2 : Addr → Prop} {H H' H2 : Hp} {env env' env2 : Env} {v : V} {d : D} {a : Addr}
theorem XFld.mono {K : PySem.W.Frag} {dd : Option Addr} {n : Str} {f : Option D} (z : ∀ b, Z b → Z' b) (k : ∀ b o, Z b → H b = some o → H' b = some o) (h : XFld K Z H dd n f) : XFld K Z' H' dd n f := by
  cases f with
  | none => exact h
  | some d =>
    obtain ⟨a, v, e, za, ha, r⟩ := h
    exact ⟨a, v, e, z a za, k a _ za ha, r.mono z k⟩
theorem XcOk.mono (x : XcOk G σ Z H env) (z : ∀ b, Z b → Z' b) (k : ∀ b o, Z b → H b = some o → H' b = some o) : XcOk G σ Z' H' env := ⟨fun j n f e => by
  obtain ⟨g, h1, h2, h3, h4, h5⟩ := x.sl j n f e
  exact ⟨g, h1, h2, h3, h4, h5.mono z k⟩, fun b q => z b (x.zb b q), fun b o q e => k b o (x.zb b q) (x.hb b o q e)⟩
theorem XcOk.part {σ' : L2.St} (x : XcOk G σ Z H env) (h : ∀ (j : Nat) (n : Str) (f : Option D), env'[j]? = some (Sl.xc n f) → env[j]? = some (Sl.xc n f) ∧ σ'[j]? = σ[j]?) : XcOk G σ' Z H env' := ⟨fun j n f e => by
  obtain ⟨q, e2⟩ := h j n f e
  obtain ⟨g, h1, h2, h3, h4, h5⟩ := x.sl j n f q
  exact ⟨g, h1, h2, h3, by rw [e2]; exact h4, h5⟩, x.zb, x.hb⟩
theorem XcOk.set (x : XcOk G σ Z H env) {i : Nat} {s : Sl} (hs : ∀ n f, s ≠ .xc n f) : XcOk G σ Z H (env.set i s) := x.part fun j n f e => by
  by_cases q : i = j
  · subst q
    by_cases l : i < env.length
    · rw [List.getElem?_set_self l] at e
      exact (hs n f (Option.some.inj e)).elim
    · rw [List.getElem?_eq_none (by rw [List.length_set]; omega)] at e; cases e
  · rw [List.getElem?_set_ne q] at e
    exact ⟨e, rfl⟩
theorem XcOk.setv (x : XcOk G σ Z H env) {i : Nat} {s : Sl} {w : Option V} (hs : ∀ n f, s ≠ .xc n f) : XcOk G (σ.set i w) Z H (env.set i s) := (x.set (i := i) hs).part fun j n f e => by
  refine ⟨e, List.getElem?_set_ne fun q => ?_⟩
  subst q
  by_cases l : i < env.length
  · rw [List.getElem?_set_self l] at e
    exact (hs n f (Option.some.inj e)).elim
  · rw [List.getElem?_eq_none (by rw [List.length_set]; omega)] at e; cases e
theorem Rel.nO (R : Rel G σ Z H env) {b : Addr} (z : Z b) : ¬ Ow σ env b := by
  rintro ⟨i, ⟨d, h | h⟩, e⟩
  · obtain ⟨a, e1, nz, _⟩ := R.ow i d h
    rw [e] at e1; cases e1; exact nz z
  · obtain ⟨e1, nz, _⟩ := R.io i d h
    rw [e] at e1; cases e1; exact nz z
theorem Rel.ownT (R : Rel G σ Z H env) {b : Addr} (o : Ow σ env b) : ∃ u, H b = some u ∧ Mut (some u) ∧ ∃ d, Top G.K Z H b d := by
  obtain ⟨i, ⟨d, h | h⟩, e⟩ := o
  · obtain ⟨a, e1, nz, _, t⟩ := R.ow i d h
    rw [e] at e1; cases e1
    cases t with
    | lst h1 r => exact ⟨_, h1, trivial, _, .lst h1 r⟩
    | dct h1 r => exact ⟨_, h1, trivial, _, .dct h1 r⟩
    | dtt h1 r => exact ⟨_, h1, trivial, _, .dtt h1 r⟩
  · obtain ⟨e1, nz, _, t⟩ := R.io i d h
    rw [e] at e1; cases e1
    cases t with
    | lst h1 r => exact ⟨_, h1, trivial, _, .lst h1 r⟩
    | dct h1 r => exact ⟨_, h1, trivial, _, .dct h1 r⟩
    | dtt h1 r => exact ⟨_, h1, trivial, _, .dtt h1 r⟩
theorem Rel.tupO (R : Rel G σ Z H env) {b : Addr} {xs : List V} (h : H b = some (.tup xs)) : ¬ Ow σ env b := fun o => by
  obtain ⟨u, e, m, _⟩ := R.ownT o
  rw [h] at e; cases e; exact m
theorem Stp.refl : Stp σ Z H env Z H env := ⟨⟨fun _ z => z, fun _ z => .inl z, fun _ _ h _ => h, fun _ o h => ⟨o, h⟩⟩, fun _ h => h⟩
theorem Stp.trans (s1 : Stp σ Z H env Z' H' env') (s2 : Stp σ Z' H' env' Z2 H2 env2) : Stp σ Z H env Z2 H2 env2 := by
  have so : ∀ b, Ow σ env' b → Ow σ env b := fun b ⟨i, h, e⟩ => ⟨i, s1.sub i h, e⟩
  refine ⟨⟨fun b z => s2.grow.zz b (s1.grow.zz b z), fun b z => ?_, fun b o h n => s2.grow.hk b o (s1.grow.hk b o h n) fun q => n (so b q), fun b o h => ?_⟩, fun i h => s1.sub i (s2.sub i h)⟩
  rcases s2.grow.zn b z with z | z | z
  · exact s1.grow.zn b z
  · exact .inr (.inl (so b z))
  · by_cases hb : Ow σ env b
    · exact .inr (.inl hb)
    · refine .inr (.inr ?_)
      cases q : H b with
      | none => rfl
      | some o => rw [s1.grow.hk b o q hb] at z; cases z
  · obtain ⟨u, h⟩ := s1.grow.tr b o h
    exact s2.grow.tr b u h
theorem Stp.rep (s : Stp σ Z H env Z' H' env') (R : Rel G σ Z H env) {K : PySem.W.Frag} (r : Rep K Z H v d) : Rep K Z' H' v d :=
  r.mono s.grow.zz fun b o z h => s.grow.hk b o h (R.nO z)
theorem Stp.reps (s : Stp σ Z H env Z' H' env') (R : Rel G σ Z H env) {K : PySem.W.Frag} {vs : List V} {ds : List D} (r : Reps K Z H vs ds) : Reps K Z' H' vs ds :=
  r.mono s.grow.zz fun b o z h => s.grow.hk b o h (R.nO z)
theorem Top.mono {K : PySem.W.Frag} (z : ∀ b, Z b → Z' b) (k : ∀ b o, Z b → H b = some o → H' b = some o) (ka : ∀ o, H a = some o → H' a = some o) (t : Top K Z H a d) : Top K Z' H' a d := by
  cases t with
  | lst h r => exact .lst (ka _ h) (r.mono z k)
  | dct h r => exact .dct (ka _ h) (r.mono z k)
  | dtt h r => exact .dtt (ka _ h) (r.mono z k)
theorem Top.there {K : PySem.W.Frag} (t : Top K Z H a d) : ∃ o, H a = some o := by
  cases t with
  | lst h r => exact ⟨_, h⟩
  | dct h r => exact ⟨_, h⟩
  | dtt h r => exact ⟨_, h⟩
theorem Lkd.mono {K : PySem.W.Frag} (z : ∀ b, Z b → Z' b) (k : ∀ b o, Z b → H b = some o → H' b = some o) (ka : ∀ o, H a = some o → H' a = some o) (t : Lkd K Z H a d) : Lkd K Z' H' a d := by
  cases t with
  | dct h r => exact .dct (ka _ h) (r.mono z k)
theorem Lkd.there {K : PySem.W.Frag} (t : Lkd K Z H a d) : ∃ o, H a = some o := by
  cases t with
  | dct h r => exact ⟨_, h⟩
theorem Rel.lkO (R : Rel G σ Z H env) {b : Addr} {d : D} (l : Lkd G.K Z H b d) : ¬ Ow σ env b := fun o => by
  obtain ⟨u, e, m, _⟩ := R.ownT o
  cases l with
  | dct h r => rw [h] at e; cases e; exact m
theorem Stp.repR (s : Stp σ Z H env Z' H' env') (R : Rel G σ Z H env) {r : Rv} (h : RepR G σ Z H env r v) : RepR G σ Z' H' env' r v := by
  cases r with
  | im d => exact s.rep R h
  | fr d =>
    obtain ⟨a, rfl, nz, no, h0, t⟩ := h
    obtain ⟨o, ho⟩ := t.there
    refine ⟨a, rfl, fun z => ?_, fun ⟨i, q, e⟩ => no ⟨i, s.sub i q, e⟩, h0, t.mono s.grow.zz (fun b o z h => s.grow.hk b o h (R.nO z)) fun o h => s.grow.hk a o h no⟩
    rcases s.grow.zn a z with z | z | z
    · exact nz z
    · exact no z
    · rw [ho] at z; cases z
  | bo i => exact h
theorem Rel.h0n (R : Rel G σ Z H env) {p : Addr} (hp : H p = none) : G.H0 p = none := by
  cases q : G.H0 p with
  | none => rfl
  | some u =>
    obtain ⟨w, h⟩ := R.tr p u q
    rw [hp] at h; cases h
theorem Stp.nn (s : Stp σ Z H env Z' H' env') {b : Addr} (h : H' b = none) : H b = none := by
  cases q : H b with
  | none => rfl
  | some o =>
    obtain ⟨u, e⟩ := s.grow.tr b o q
    rw [h] at e; cases e
theorem Stp.repN (s : Stp σ Z H env Z' H' env') {r : Rv} (h : RepN H' r v) : RepN H r v := by
  cases r with
  | fr d => exact fun a e => s.nn (h a e)
  | im d => trivial
  | bo i => trivial
/-- a new tuple -/
abbrev Zi (Z : Addr → Prop) (a : Addr) : Addr → Prop := fun b => Z b ∨ b = a
theorem hk_upd {p : Addr} {o : HO} (hp : H p = none) : ∀ b u, H b = some u → upd H p o b = some u := fun b u h => by rw [upd_ne (ne_of_none h hp)]; exact h
theorem Rel.frz0 (R : Rel G σ Z H env) {p : Addr} {o : HO} (hp : H p = none) : Rel G σ (Zi Z p) (upd H p o) env := by
  have k := hk_upd (o := o) hp
  have zk : ∀ b u, Z b → H b = some u → upd H p o b = some u := fun b u _ h => k b u h
  have np : ∀ {b}, (∃ u, H b = some u) → b ≠ p := fun ⟨u, h⟩ => ne_of_none h hp
  refine ⟨R.len, fun i d h => ?_, fun i d h => ?_, fun i d h => ?_, fun i d h => ?_, R.inj, fun b z => .inl (R.z0 b z), fun b z => ?_, fun b z => ?_, fun b u h n => k b u (R.keep b u h n), fun b u h => ?_, R.xc.mono (fun b z => .inl z) zk⟩
  · obtain ⟨v, e, r⟩ := R.im i d h
    exact ⟨v, e, r.mono (fun b z => .inl z) zk⟩
  · obtain ⟨a, e, nz, h0, t⟩ := R.ow i d h
    exact ⟨a, e, fun z => z.elim nz (np t.there), h0, t.mono (fun b z => .inl z) zk (k a)⟩
  · obtain ⟨e, nz, h0, t⟩ := R.io i d h
    exact ⟨e, fun z => z.elim nz (np t.there), h0, t.mono (fun b z => .inl z) zk (k _)⟩
  · obtain ⟨a, e, nz, t⟩ := R.lk i d h
    exact ⟨a, e, fun z => z.elim nz (np t.there), t.mono (fun b z => .inl z) zk (k a)⟩
  · rcases z with z | rfl
    · exact R.z1 b z
    · exact .inr (R.h0n hp)
  · rcases z with z | rfl
    · obtain ⟨u, h⟩ := R.zt b z; exact ⟨u, k b u h⟩
    · exact ⟨o, upd_same⟩
  · obtain ⟨w, q⟩ := R.tr b u h
    exact ⟨w, k b w q⟩
/-- a new mutable thing, of nobody yet -/
theorem Rel.fresh (R : Rel G σ Z H env) {p : Addr} {o : HO} (hp : H p = none) : Rel G σ Z (upd H p o) env := by
  have k := hk_upd (o := o) hp
  have zk : ∀ b u, Z b → H b = some u → upd H p o b = some u := fun b u _ h => k b u h
  refine ⟨R.len, fun i d h => ?_, fun i d h => ?_, fun i d h => ?_, fun i d h => ?_, R.inj, R.z0, R.z1, fun b z => ?_, fun b u h n => k b u (R.keep b u h n), fun b u h => ?_, R.xc.mono (fun b z => z) zk⟩
  · obtain ⟨v, e, r⟩ := R.im i d h
    exact ⟨v, e, r.mono (fun b z => z) zk⟩
  · obtain ⟨a, e, nz, h0, t⟩ := R.ow i d h
    exact ⟨a, e, nz, h0, t.mono (fun b z => z) zk (k a)⟩
  · obtain ⟨e, nz, h0, t⟩ := R.io i d h
    exact ⟨e, nz, h0, t.mono (fun b z => z) zk (k _)⟩
  · obtain ⟨a, e, nz, t⟩ := R.lk i d h
    exact ⟨a, e, nz, t.mono (fun b z => z) zk (k a)⟩
  · obtain ⟨u, h⟩ := R.zt b z; exact ⟨u, k b u h⟩
  · obtain ⟨w, q⟩ := R.tr b u h
    exact ⟨w, k b w q⟩
theorem Rel.over (R : Rel G σ Z H env) {p : Addr} {o o' : HO} (hp : H p = some o) (mu : Mut (some o)) (nz : ¬ Z p) (no : ¬ Ow σ env p) (h0 : G.H0 p = none) : Rel G σ Z (upd H p o') env := by
  have k : ∀ b u, b ≠ p → H b = some u → upd H p o' b = some u := fun b u n h => by rw [upd_ne n]; exact h
  have zk : ∀ b u, Z b → H b = some u → upd H p o' b = some u := fun b u z h => k b u (fun e => nz (e ▸ z)) h
  refine ⟨R.len, fun i d h => ?_, fun i d h => ?_, fun i d h => ?_, fun i d h => ?_, R.inj, R.z0, R.z1, fun b z => ?_, fun b u h n => k b u (fun e => by rw [e, h0] at h; cases h) (R.keep b u h n), fun b u h => ?_, R.xc.mono (fun b z => z) zk⟩
  · obtain ⟨v, e, r⟩ := R.im i d h
    exact ⟨v, e, r.mono (fun b z => z) zk⟩
  · obtain ⟨a, e, nz', h0', t⟩ := R.ow i d h
    exact ⟨a, e, nz', h0', t.mono (fun b z => z) zk fun u => k a u fun q => no ⟨i, ⟨d, .inl h⟩, by rw [← q]; exact e⟩⟩
  · obtain ⟨e, nz', h0', t⟩ := R.io i d h
    exact ⟨e, nz', h0', t.mono (fun b z => z) zk fun u => k _ u fun q => no ⟨i, ⟨d, .inr h⟩, by rw [← q]; exact e⟩⟩
  · obtain ⟨a, e, nz', l⟩ := R.lk i d h
    refine ⟨a, e, nz', l.mono (fun b z => z) zk fun u => k a u fun q => ?_⟩
    subst q
    cases l with
    | dct hh r => rw [hh] at hp; cases hp; exact mu
  · obtain ⟨u, h⟩ := R.zt b z; exact ⟨u, zk b u z h⟩
  · obtain ⟨w, q⟩ := R.tr b u h
    exact ⟨w, k b w (fun e => by rw [e, h0] at h; cases h) q⟩
theorem Rel.zn (R : Rel G σ Z H env) {p : Addr} (hp : H p = none) : ¬ Z p := fun z => by
  obtain ⟨u, h⟩ := R.zt p z
  rw [hp] at h; cases h
theorem Rel.on (R : Rel G σ Z H env) {p : Addr} (hp : H p = none) : ¬ Ow σ env p := fun o => by
  obtain ⟨u, h, _⟩ := R.ownT o
  rw [hp] at h; cases h
theorem Stp.frz0 {p : Addr} {o : HO} (hp : H p = none) : Stp σ Z H env (Zi Z p) (upd H p o) env :=
  ⟨⟨fun _ z => .inl z, fun b z => z.elim .inl fun e => .inr (.inr (by rw [e]; exact hp)), fun b u h _ => hk_upd hp b u h, fun b u h => ⟨u, hk_upd hp b u h⟩⟩, fun _ h => h⟩
theorem Stp.fresh {p : Addr} {o : HO} (hp : H p = none) : Stp σ Z H env Z (upd H p o) env :=
  ⟨⟨fun _ z => z, fun b z => .inl z, fun b u h _ => hk_upd hp b u h, fun b u h => ⟨u, hk_upd hp b u h⟩⟩, fun _ h => h⟩
/-- a thing of nobody is kept for good -/
theorem Rel.freeze (R : Rel G σ Z H env) {a : Addr} (no : ¬ Ow σ env a) (h0 : G.H0 a = none) (t : ∃ o, H a = some o ∧ Mut (some o)) : Rel G σ (Zi Z a) H env := by
  have zk : ∀ b u, Z b → H b = some u → H b = some u := fun b u _ h => h
  refine ⟨R.len, fun i d h => ?_, fun i d h => ?_, fun i d h => ?_, fun i d h => ?_, R.inj, fun b z => .inl (R.z0 b z), fun b z => ?_, fun b z => ?_, R.keep, R.tr, R.xc.mono (fun b z => .inl z) zk⟩
  · obtain ⟨v, e, r⟩ := R.im i d h
    exact ⟨v, e, r.mono (fun b z => .inl z) zk⟩
  · obtain ⟨b, e, nz, h0, t⟩ := R.ow i d h
    exact ⟨b, e, fun z => z.elim nz fun q => no ⟨i, ⟨d, .inl h⟩, by rw [← q]; exact e⟩, h0, t.mono (fun b z => .inl z) zk (fun _ h => h)⟩
  · obtain ⟨e, nz, h0, t⟩ := R.io i d h
    exact ⟨e, fun z => z.elim nz fun q => no ⟨i, ⟨d, .inr h⟩, by rw [← q]; exact e⟩, h0, t.mono (fun b z => .inl z) zk (fun _ h => h)⟩
  · obtain ⟨b, e, nz, l⟩ := R.lk i d h
    refine ⟨b, e, fun z => z.elim nz fun q => ?_, l.mono (fun b z => .inl z) zk (fun _ h => h)⟩
    subst q
    obtain ⟨o, ho, m⟩ := t
    cases l with
    | dct hh r => rw [hh] at ho; cases ho; exact m
  · exact z.elim (R.z1 b) fun e => .inr (by rw [e]; exact h0)
  · exact z.elim (R.zt b) fun e => by rw [e]; obtain ⟨o, h, _⟩ := t; exact ⟨o, h⟩
theorem own_set_im {env : Env} {i j : Nat} {d : D} (h : own (env.set i (.im d)) j) : own env j ∧ j ≠ i := by
  obtain ⟨e, h⟩ := h
  by_cases q : j = i
  · subst q
    by_cases l : j < env.length
    · rw [List.getElem?_set_self l] at h
      rcases h with h | h <;> cases h
    · rw [List.getElem?_eq_none (by rw [List.length_set]; omega)] at h
      rcases h with h | h <;> cases h
  · rw [List.getElem?_set_ne (Ne.symm q)] at h
    exact ⟨⟨e, h⟩, q⟩
theorem ownk_set_im {env : Env} {i j : Nat} {d : D} (h : ownk (env.set i (.im d)) j) : ownk env j ∧ j ≠ i := by
  rcases h with h | ⟨e, h⟩
  · exact ⟨.inl (own_set_im h).1, (own_set_im h).2⟩
  · by_cases q : j = i
    · subst q
      by_cases l : j < env.length
      · rw [List.getElem?_set_self l] at h; cases h
      · rw [List.getElem?_eq_none (by rw [List.length_set]; omega)] at h; cases h
    · rw [List.getElem?_set_ne (Ne.symm q)] at h
      exact ⟨.inr ⟨e, h⟩, q⟩
theorem Top.rep {K : PySem.W.Frag} {a : Addr} {d : D} (t : Top K Z H a d) (z : ∀ b, Z b → Z' b) (za : Z' a) : Rep K Z' H (.ref a) d := by
  have k : ∀ b o, Z b → H b = some o → H b = some o := fun _ _ _ h => h
  cases t with
  | lst h r => exact .lst ⟨za, h⟩ (r.mono z k)
  | dct h r => exact .dct za h (r.mono z k)
  | dtt h r => exact .dtt za h (r.mono z k)
/-- a slot's own thing is kept for good -/
theorem Rel.freezeSlot (R : Rel G σ Z H env) {i : Nat} {d : D} (h : env[i]? = some (Sl.ow d)) : ∃ a : Addr, σ[i]? = some (some (V.ref a)) ∧ Rel G σ (Zi Z a) H (env.set i (.im d)) ∧ Stp σ Z H env (Zi Z a) H (env.set i (.im d)) ∧ Rep G.K (Zi Z a) H (.ref a) d := by
  obtain ⟨a, e, nz, h0, t⟩ := R.ow i d h
  have oi : Ow σ env a := ⟨i, ⟨d, .inl h⟩, e⟩
  have il : i < env.length := by
    by_cases l : i < env.length
    · exact l
    · rw [List.getElem?_eq_none (by omega)] at h; cases h
  have zk : ∀ b u, Z b → H b = some u → H b = some u := fun b u _ h => h
  have rr := t.rep (Z' := Zi Z a) (fun b z => .inl z) (.inr rfl)
  refine ⟨a, e, ⟨by rw [List.length_set]; exact R.len, fun j c hj => ?_, fun j c hj => ?_, fun j c hj => ?_, fun j c hj => ?_, fun j k b hj hk => R.inj j k b (ownk_set_im hj).1 (ownk_set_im hk).1, fun b z => .inl (R.z0 b z), fun b z => ?_, fun b z => ?_, R.keep, R.tr, (R.xc.mono (fun b z => .inl z) zk).set (fun _ _ q => nomatch q)⟩, ⟨⟨fun _ z => .inl z, fun b z => z.elim .inl fun q => .inr (.inl (by rw [q]; exact oi)), fun _ _ h _ => h, fun _ o h => ⟨o, h⟩⟩, fun j hj => (own_set_im hj).1⟩, rr⟩
  · by_cases q : i = j
    · subst q
      rw [List.getElem?_set_self il] at hj
      cases hj
      exact ⟨_, e, rr⟩
    · rw [List.getElem?_set_ne q] at hj
      obtain ⟨v, e, r⟩ := R.im j c hj
      exact ⟨v, e, r.mono (fun b z => .inl z) zk⟩
  · have ⟨oj, nj⟩ := own_set_im (⟨c, .inl hj⟩ : own (env.set i (.im d)) j)
    rw [List.getElem?_set_ne (Ne.symm nj)] at hj
    obtain ⟨b, e2, nz2, h02, t2⟩ := R.ow j c hj
    exact ⟨b, e2, fun z => z.elim nz2 fun q => nj (R.inj j i a (.inl oj) (.inl ⟨d, .inl h⟩) (by rw [← q]; exact e2) e), h02, t2.mono (fun b z => .inl z) zk (fun _ h => h)⟩
  · have ⟨oj, nj⟩ := own_set_im (⟨c, .inr hj⟩ : own (env.set i (.im d)) j)
    rw [List.getElem?_set_ne (Ne.symm nj)] at hj
    obtain ⟨e2, nz2, h02, t2⟩ := R.io j c hj
    exact ⟨e2, fun z => z.elim nz2 fun q => nj (R.inj j i a (.inl oj) (.inl ⟨d, .inl h⟩) (by rw [← q]; exact e2) e), h02, t2.mono (fun b z => .inl z) zk (fun _ h => h)⟩
  · have ⟨oj, nj⟩ := ownk_set_im (.inr ⟨c, hj⟩ : ownk (env.set i (.im d)) j)
    rw [List.getElem?_set_ne (Ne.symm nj)] at hj
    obtain ⟨b, e2, nz2, t2⟩ := R.lk j c hj
    exact ⟨b, e2, fun z => z.elim nz2 fun q => nj (R.inj j i a oj (.inl ⟨d, .inl h⟩) (by rw [← q]; exact e2) e), t2.mono (fun b z => .inl z) zk (fun _ h => h)⟩
  · exact z.elim (R.z1 b) fun q => .inr (by rw [q]; exact h0)
  · exact z.elim (R.zt b) fun q => by rw [q]; exact t.there
theorem own_set {env : Env} {i j : Nat} {s : Sl} (h : own (env.set i s) j) : own env j ∨ j = i := by
  obtain ⟨e, h⟩ := h
  by_cases q : j = i
  · exact .inr q
  · rw [List.getElem?_set_ne (Ne.symm q)] at h
    exact .inl ⟨e, h⟩
/-- a slot's own thing is changed: i's thing at a -/
theorem Rel.write (R : Rel G σ Z H env) {i : Nat} {s s' : Sl} {d d' : D} {o : HO} (h : env[i]? = some s) (hs : (s = .ow d ∧ s' = .ow d') ∨ (s = .io d ∧ s' = .io d')) (e : σ[i]? = some (some (V.ref a))) (t : ∀ H', (∀ b u, b ≠ a → H b = some u → H' b = some u) → H' a = some o → Top G.K Z H' a d') :
    Rel G σ Z (upd H a o) (env.set i s') ∧ Stp σ Z H env Z (upd H a o) (env.set i s') := by
  have oi : own env i := by
    rcases hs with ⟨rfl, _⟩ | ⟨rfl, _⟩
    · exact ⟨d, .inl h⟩
    · exact ⟨d, .inr h⟩
  have oa : Ow σ env a := ⟨i, oi, e⟩
  have il : i < env.length := by
    by_cases l : i < env.length
    · exact l
    · rw [List.getElem?_eq_none (by omega)] at h; cases h
  have zne : ∀ b, Z b → b ≠ a := fun b z q => R.nO z (by rw [q]; exact oa)
  have hk : ∀ b u, b ≠ a → H b = some u → upd H a o b = some u := fun b u n h => by rw [upd_ne n]; exact h
  have zk : ∀ b u, Z b → H b = some u → upd H a o b = some u := fun b u z h => hk b u (zne b z) h
  have ta : Top G.K Z (upd H a o) a d' := t _ hk upd_same
  have sub : ∀ j, own (env.set i s') j → own env j := fun j hj => (own_set hj).elim id fun q => by rw [q]; exact oi
  have subk : ∀ j, ownk (env.set i s') j → ownk env j := fun j hj => by
    rcases hj with hj | ⟨c, hj⟩
    · exact .inl (sub j hj)
    · by_cases q : i = j
      · subst q; exact .inl oi
      · rw [List.getElem?_set_ne q] at hj; exact .inr ⟨c, hj⟩
  refine ⟨⟨by rw [List.length_set]; exact R.len, fun j c hj => ?_, fun j c hj => ?_, fun j c hj => ?_, fun j c hj => ?_, fun j k b hj hk => R.inj j k b (subk j hj) (subk k hk), R.z0, R.z1, fun b z => ?_, fun b u _ n => ?_, fun b u hb => ?_, (R.xc.mono (fun b z => z) zk).set (fun _ _ q => by rcases hs with ⟨_, z⟩ | ⟨_, z⟩ <;> (rw [z] at q; cases q))⟩, ⟨⟨fun _ z => z, fun b z => .inl z, fun b u h n => hk b u (fun q => n (by rw [q]; exact oa)) h, fun b u h => by
    by_cases q : b = a
    · exact ⟨o, by rw [q]; exact upd_same⟩
    · exact ⟨u, hk b u q h⟩⟩, sub⟩⟩
  · by_cases q : i = j
    · subst q
      rw [List.getElem?_set_self il] at hj
      rcases hs with ⟨_, rfl⟩ | ⟨_, rfl⟩ <;> cases hj
    · rw [List.getElem?_set_ne q] at hj
      obtain ⟨v, e, r⟩ := R.im j c hj
      exact ⟨v, e, r.mono (fun b z => z) zk⟩
  · by_cases q : i = j
    · subst q
      rw [List.getElem?_set_self il] at hj
      rcases hs with ⟨rfl, rfl⟩ | ⟨_, rfl⟩
      · cases hj
        obtain ⟨b, e2, nz, h0, _⟩ := R.ow i d h
        rw [e] at e2; cases e2
        exact ⟨a, e, nz, h0, ta⟩
      · cases hj
    · rw [List.getElem?_set_ne q] at hj
      obtain ⟨b, e2, nz, h0, t2⟩ := R.ow j c hj
      exact ⟨b, e2, nz, h0, t2.mono (fun b z => z) zk (fun u h => hk b u (fun z => q (R.inj i j a (.inl oi) (.inl ⟨c, .inl hj⟩) e (by rw [← z]; exact e2))) h)⟩
  · by_cases q : i = j
    · subst q
      rw [List.getElem?_set_self il] at hj
      rcases hs with ⟨_, rfl⟩ | ⟨rfl, rfl⟩
      · cases hj
      · cases hj
        obtain ⟨e2, nz, h0, _⟩ := R.io i d h
        rw [e] at e2; cases e2
        exact ⟨e, nz, h0, ta⟩
    · rw [List.getElem?_set_ne q] at hj
      obtain ⟨e2, nz, h0, t2⟩ := R.io j c hj
      exact ⟨e2, nz, h0, t2.mono (fun b z => z) zk (fun u h => hk _ u (fun z => q (R.inj i j a (.inl oi) (.inl ⟨c, .inr hj⟩) e (by rw [← z]; exact e2))) h)⟩
  · by_cases q : i = j
    · subst q
      rw [List.getElem?_set_self il] at hj
      rcases hs with ⟨_, rfl⟩ | ⟨_, rfl⟩ <;> cases hj
    · rw [List.getElem?_set_ne q] at hj
      obtain ⟨b, e2, nz, t2⟩ := R.lk j c hj
      exact ⟨b, e2, nz, t2.mono (fun b z => z) zk (fun u h => hk b u (fun z => q (R.inj i j a (.inl oi) (.inr ⟨c, hj⟩) e (by rw [← z]; exact e2))) h)⟩
  · obtain ⟨u, h⟩ := R.zt b z; exact ⟨u, zk b u z h⟩
  · rename_i hb
    refine hk b u (fun q => ?_) (R.keep b u hb n)
    rw [q] at hb n
    rcases hs with ⟨rfl, _⟩ | ⟨rfl, _⟩
    · obtain ⟨b, e2, _, h0, _⟩ := R.ow i d h
      rw [e] at e2; cases e2
      rw [h0] at hb; cases hb
    · obtain ⟨e2, _, hs, _⟩ := R.io i d h
      rw [e] at e2; cases e2
      exact n hs
  · by_cases q : b = a
    · exact ⟨o, by rw [q]; exact upd_same⟩
    · obtain ⟨w, hw⟩ := R.tr b u hb
      exact ⟨w, hk b w q hw⟩
/-- a slot is stored -/
theorem Rel.setIm (R : Rel G σ Z H env) {j : Nat} (nio : ∀ d, env[j]? ≠ some (Sl.io d)) {v : V} {d : D} (r : Rep G.K Z H v d) : Rel G (σ.set j (some v)) Z H (env.set j (.im d)) := by
  have hne : ∀ i, i ≠ j → (σ.set j (some v))[i]? = σ[i]? := fun i n => List.getElem?_set_ne (Ne.symm n)
  refine ⟨by rw [List.length_set, List.length_set]; exact R.len, fun i c hi => ?_, fun i c hi => ?_, fun i c hi => ?_, fun i c hi => ?_, fun i k b hi hk e1 e2 => ?_, R.z0, R.z1, R.zt, R.keep, R.tr, R.xc.setv (fun _ _ q => nomatch q)⟩
  · by_cases q : j = i
    · subst q
      have jl : j < env.length := by
        by_cases l : j < env.length
        · exact l
        · rw [List.getElem?_eq_none (by rw [List.length_set]; omega)] at hi; cases hi
      rw [List.getElem?_set_self jl] at hi
      cases hi
      exact ⟨v, List.getElem?_set_self (by rw [← R.len]; exact jl), r⟩
    · rw [List.getElem?_set_ne q] at hi
      obtain ⟨w, e, r⟩ := R.im i c hi
      exact ⟨w, by rw [hne i (Ne.symm q)]; exact e, r⟩
  · have ⟨_, n⟩ := own_set_im (⟨c, .inl hi⟩ : own (env.set j (.im d)) i)
    rw [List.getElem?_set_ne (Ne.symm n)] at hi
    obtain ⟨a, e, x⟩ := R.ow i c hi
    exact ⟨a, by rw [hne i n]; exact e, x⟩
  · have ⟨_, n⟩ := own_set_im (⟨c, .inr hi⟩ : own (env.set j (.im d)) i)
    rw [List.getElem?_set_ne (Ne.symm n)] at hi
    obtain ⟨e, x⟩ := R.io i c hi
    exact ⟨by rw [hne i n]; exact e, x⟩
  · have ⟨_, n⟩ := ownk_set_im (.inr ⟨c, hi⟩ : ownk (env.set j (.im d)) i)
    rw [List.getElem?_set_ne (Ne.symm n)] at hi
    obtain ⟨a, e, x⟩ := R.lk i c hi
    exact ⟨a, by rw [hne i n]; exact e, x⟩
  · have ⟨oi, ni⟩ := ownk_set_im hi
    have ⟨ok, nk⟩ := ownk_set_im hk
    rw [hne i ni] at e1
    rw [hne k nk] at e2
    exact R.inj i k b oi ok e1 e2
theorem ownk_out (R : Rel G σ Z H env) {a : Addr} (no : ¬ Ow σ env a) (t : ∃ o, H a = some o ∧ Mut (some o)) {i : Nat} (h : ownk env i) : σ[i]? ≠ some (some (V.ref a)) := fun e => by
  rcases h with h | ⟨d, h⟩
  · exact no ⟨i, h, e⟩
  · obtain ⟨b, e2, _, l⟩ := R.lk i d h
    rw [e] at e2; cases e2
    obtain ⟨o, ho, m⟩ := t
    cases l with
    | dct hh r => rw [hh] at ho; cases ho; exact m
theorem Top.mut {K : PySem.W.Frag} (t : Top K Z H a d) : ∃ o, H a = some o ∧ Mut (some o) := by
  cases t with
  | lst h r => exact ⟨_, h, trivial⟩
  | dct h r => exact ⟨_, h, trivial⟩
  | dtt h r => exact ⟨_, h, trivial⟩
theorem Rel.setOw (R : Rel G σ Z H env) {j : Nat} (nio : ∀ d, env[j]? ≠ some (Sl.io d)) {a : Addr} {d : D} (nz : ¬ Z a) (no : ¬ Ow σ env a) (h0 : G.H0 a = none) (t : Top G.K Z H a d) : Rel G (σ.set j (some (.ref a))) Z H (env.set j (.ow d)) := by
  have hne : ∀ i, i ≠ j → (σ.set j (some (V.ref a)))[i]? = σ[i]? := fun i n => List.getElem?_set_ne (Ne.symm n)
  have jl : ∀ {i : Nat} {s : Sl}, (env.set j (.ow d))[i]? = some s → j = i → j < σ.length := fun {i s} h q => by
    subst q
    rw [← R.len]
    by_cases l : j < env.length
    · exact l
    · rw [List.getElem?_eq_none (by rw [List.length_set]; omega)] at h; cases h
  have ow' : ∀ i, ownk (env.set j (.ow d)) i → i ≠ j → ownk env i := fun i h n => by
    rcases h with h | ⟨c, h⟩
    · exact .inl ((own_set h).elim id fun q => absurd q n)
    · rw [List.getElem?_set_ne (Ne.symm n)] at h; exact .inr ⟨c, h⟩
  have jk : ∀ {i : Nat}, ownk (env.set j (.ow d)) i → j = i → j < σ.length := fun {i} h q => by
    rcases h with ⟨c, h | h⟩ | ⟨c, h⟩ <;> exact jl h q
  refine ⟨by rw [List.length_set, List.length_set]; exact R.len, fun i c hi => ?_, fun i c hi => ?_, fun i c hi => ?_, fun i c hi => ?_, fun i k b hi hk e1 e2 => ?_, R.z0, R.z1, R.zt, R.keep, R.tr, R.xc.setv (fun _ _ q => nomatch q)⟩
  · by_cases q : j = i
    · have l := jl hi q
      subst q
      rw [List.getElem?_set_self (by rw [R.len]; exact l)] at hi
      cases hi
    · rw [List.getElem?_set_ne q] at hi
      obtain ⟨w, e, r⟩ := R.im i c hi
      exact ⟨w, by rw [hne i (Ne.symm q)]; exact e, r⟩
  · by_cases q : j = i
    · have l := jl hi q
      subst q
      rw [List.getElem?_set_self (by rw [R.len]; exact l)] at hi
      cases hi
      exact ⟨a, List.getElem?_set_self l, nz, h0, t⟩
    · rw [List.getElem?_set_ne q] at hi
      obtain ⟨b, e, x⟩ := R.ow i c hi
      exact ⟨b, by rw [hne i (Ne.symm q)]; exact e, x⟩
  · by_cases q : j = i
    · have l := jl hi q
      subst q
      rw [List.getElem?_set_self (by rw [R.len]; exact l)] at hi
      cases hi
    · rw [List.getElem?_set_ne q] at hi
      obtain ⟨e, x⟩ := R.io i c hi
      exact ⟨by rw [hne i (Ne.symm q)]; exact e, x⟩
  · by_cases q : j = i
    · have l := jl hi q
      subst q
      rw [List.getElem?_set_self (by rw [R.len]; exact l)] at hi
      cases hi
    · rw [List.getElem?_set_ne q] at hi
      obtain ⟨b, e, x⟩ := R.lk i c hi
      exact ⟨b, by rw [hne i (Ne.symm q)]; exact e, x⟩
  · by_cases q : i = j
    · by_cases q2 : k = j
      · rw [q, q2]
      · exfalso
        have l : j < σ.length := jk hi q.symm
        subst q
        rw [List.getElem?_set_self l] at e1
        rw [hne k q2] at e2
        cases e1
        exact ownk_out R no t.mut (ow' k hk q2) e2
    · by_cases q2 : k = j
      · exfalso
        have l : j < σ.length := jk hk q2.symm
        subst q2
        rw [List.getElem?_set_self l] at e2
        rw [hne i q] at e1
        cases e2
        exact ownk_out R no t.mut (ow' i hi q) e1
      · rw [hne i q] at e1
        rw [hne k q2] at e2
        exact R.inj i k b (ow' i hi q) (ow' k hk q2) e1 e2
end
end TG
end
section
namespace TG
open PySem PySem.Spec PyProof.Rows L2

mutual
def D.eqb : D → D → Bool
  | .non, .non => true
  | .bl a, .bl b => a == b
  | .bl a, .int j => (if a then 1 else 0) == j
  | .int i, .bl b => i == (if b then 1 else 0)
  | .int i, .int j => i == j
  | .str x, .str y => x == y
  | .lst xs, .lst ys => D.eqbs xs ys
  | .tup xs, .tup ys => D.eqbs xs ys
  | _, _ => false
def D.eqbs : List D → List D → Bool
  | [], [] => true
  | x :: xs, y :: ys => D.eqb x y && D.eqbs xs ys
  | _, _ => false
end
mutual
/-- no dicts within, texts of true signs -/
def D.pln : D → Bool
  | .str x => PyData.strOk x
  | .dct _ => false
  | .dtt _ => false
  | .scr _ => false
  | .ptp _ => false
  | .lst xs => D.plns xs
  | .tup xs => D.plns xs
  | _ => true
def D.plns : List D → Bool
  | [] => true
  | x :: xs => D.pln x && D.plns xs
end
mutual
def D.dep : D → Nat
  | .lst xs => D.deps xs + 1
  | .tup xs => D.deps xs + 1
  | _ => 0
def D.deps : List D → Nat
  | [] => 0
  | x :: xs => max (D.dep x) (D.deps xs)
end
mutual
def D.toP : D → PyData
  | .non => .none
  | .bl b => .bool b
  | .int i => .int i
  | .str x => .str x
  | .lst ds => .list (D.toPs ds)
  | .tup ds => .tuple (D.toPs ds)
  | _ => .none
def D.toPs : List D → List PyData
  | [] => []
  | d :: ds => D.toP d :: D.toPs ds
end
mutual
/-- whole numbers that are shown in at most 501 signs -/
def D.ib : D → Bool
  | .int i => decide (i.natAbs < 10 ^ 500)
  | .lst xs => D.ibs xs
  | .tup xs => D.ibs xs
  | _ => true
def D.ibs : List D → Bool
  | [] => true
  | x :: xs => D.ib x && D.ibs xs
end
mutual
/-- signs and items -/
def D.bk : D → Nat
  | .str x => x.cps.size
  | .lst xs => D.bks xs
  | .tup xs => D.bks xs
  | _ => 0
def D.bks : List D → Nat
  | [] => 0
  | x :: xs => D.bk x + 1 + D.bks xs
end
/-- what repr can show -/
def RpOk (d : D) : Prop := d.pln = true ∧ d.ib = true ∧ d.dep ≤ 40 ∧ d.bk ≤ 20000
def repD (d : D) : Str := d.toP.shown
def D.shp2 (d e : D) : Prop := d.pln = true ∧ e.pln = true ∧ (d.dep ≤ 60 ∨ e.dep ≤ 60)
def D.isDtt : D → Bool
  | .dtt _ => true
  | _ => false
def D.isN : D → Bool
  | .non => true
  | _ => false
def D.flat : D → Bool
  | .non => true | .bl _ => true | .int _ => true | .str _ => true | _ => false
def keyD : D → Option Key
  | .int i => some (.inl i)
  | .str x => some (.inr x)
  | _ => none
def keysD : List D → Option (List Key)
  | [] => some []
  | d :: ds => match keyD d, keysD ds with
    | some k, some ks => some (k :: ks)
    | _, _ => none
def kD : Key → D
  | .inl i => .int i
  | .inr x => .str x

inductive Bt where
  | len | abs | min | max | sum | all | any | sorted | tuple | list | dict | set | int | str | repr | divmod | tupp
  deriving DecidableEq
inductive Mt where
  | get | index | count | join | split | startswith | endswith | replace | upper
  deriving DecidableEq
inductive Mm where
  | append | extend | pop | remove | insert | clear | reverse
  deriving DecidableEq
inductive Tn where
  | int | bool | str | tuple | list | dict
  deriving DecidableEq
def Tn.nm : Tn → String
  | .int => "int" | .bool => "bool" | .str => "str" | .tuple => "tuple" | .list => "list" | .dict => "dict"
def dIsi : D → Tn → Bool
  | .int _, .int => true
  | .bl _, .int => true
  | .bl _, .bool => true
  | .str _, .str => true
  | .tup _, .tuple => true
  | .ptp _, .tuple => true
  | .lst _, .list => true
  | .scr _, .list => true
  | .dct _, .dict => true
  | .dtt _, .dict => true
  | _, _ => false

def dTru : D → Option Bool
  | .non => some false
  | .bl b => some b
  | .int i => some (i != 0)
  | .str y => if y.length ≤ sizeLine then some ((y.length : Int) != 0) else none
  | .lst xs => some (!xs.isEmpty)
  | .tup xs => some (!xs.isEmpty)
  | .dct _ => none
  | .dtt _ => none
  | .scr xs => some (!xs.isEmpty)
  | .ptp _ => none

def repS (x : Str) (n : Int) : Str := ⟨(List.replicate n.toNat x.cps.toList).flatten.toArray⟩
def dBin : Operator → D → D → (Rv → Prop) → Prop
  | .Add, .int i, .int j, K => K (.im (.int (i + j)))
  | .Add, .str x, .str y, K => x.length + y.length ≤ sizeLine ∧ K (.im (.str (x ++ y)))
  | .Add, .tup x, .tup y, K => x.length + y.length ≤ sizeLine ∧ K (.im (.tup (x ++ y)))
  | .Add, .lst x, .lst y, K => x.length + y.length ≤ sizeLine ∧ K (.fr (.lst (x ++ y)))
  | .Sub, .int i, .int j, K => K (.im (.int (i - j)))
  | .Mult, .int i, .int j, K => IntMulOk i j ∧ K (.im (.int (i * j)))
  | .Mult, .tup x, .int j, K => (-1000 ≤ j ∧ j ≤ 1000 ∧ x.length ≤ 1000) ∧ K (.im (.tup (List.replicate j.toNat x).flatten))
  | .Mult, .lst x, .int j, K => (-1000 ≤ j ∧ j ≤ 1000 ∧ x.length ≤ 1000) ∧ K (.fr (.lst (List.replicate j.toNat x).flatten))
  | .Mult, .str x, .int j, K => (-1000 ≤ j ∧ j ≤ 1000 ∧ x.length ≤ 1000) ∧ K (.im (.str (repS x j)))
  | .FloorDiv, .int i, .int j, K => (0 < j ∧ Builtin.divisionGoesByPylong i j = false) ∧ K (.im (.int (i / j)))
  | .Mod, .int i, .int j, K => 0 < j ∧ K (.im (.int (i % j)))
  | .Pow, .int i, .int j, K => CPow i j ∧ K (.im (.int (i ^ j.toNat)))
  | .LShift, .int i, .int j, K => CPow i j ∧ K (.im (.int (i * 2 ^ j.toNat)))
  | .RShift, .int i, .int j, K => 0 ≤ j ∧ K (.im (.int (i / 2 ^ j.toNat)))
  | .BitAnd, .int i, .int j, K => K (.im (.int (Builtin.bitAnd i j)))
  | .BitXor, .int i, .int j, K => K (.im (.int (Builtin.bitXor i j)))
  | _, _, _, _ => False

def dIn : D → D → (Bool → Prop) → Prop
  | .str x, .str y, K => K (!(Builtin.Str.occurrences y x 0 y.length 1).isEmpty)
  | x, .lst ys, K => ((x.flat = true ∧ ys.all D.flat = true) ∨ (x.pln = true ∧ D.plns ys = true ∧ x.dep ≤ 30)) ∧ K (ys.any fun y => D.eqb y x)
  | x, .tup ys, K => (x.flat = true ∧ ys.all D.flat = true) ∧ K (ys.any fun y => D.eqb y x)
  | x, .dct kvs, K => ∃ k, keyD x = some k ∧ K (dval kvs k).isSome
  | .tup xs, .dtt kvs, K => ∃ ks, keysD xs = some ks ∧ K (dval kvs ks).isSome
  | _, _, _ => False

def dCmp : CmpOp → D → D → (Bool → Prop) → Prop
  | .Eq, .str x, .str y, K => K (x == y)
  | .NotEq, .str x, .str y, K => K (!(x == y))
  | .Eq, .dct a, .dct b, K => (a.length = b.length ∧ ∀ p ∈ a, dval b p.1 = some p.2 ∧ p.2.flat = true) ∧ K true
  | .NotEq, .dct a, .dct b, K => (a.length = b.length ∧ ∀ p ∈ a, dval b p.1 = some p.2 ∧ p.2.flat = true) ∧ K false
  | .Eq, x, y, K => D.shp2 x y ∧ K (D.eqb x y)
  | .NotEq, x, y, K => D.shp2 x y ∧ K (!D.eqb x y)
  | .Lt, .int i, .int j, K => K (decide (i < j))
  | .LtE, .int i, .int j, K => K (decide (i ≤ j))
  | .Gt, .int i, .int j, K => K (decide (j < i))
  | .GtE, .int i, .int j, K => K (decide (j ≤ i))
  | .Lt, .str i, .str j, K => K (decide (i.cps.toList < j.cps.toList))
  | .LtE, .str i, .str j, K => K (!decide (j.cps.toList < i.cps.toList))
  | .Gt, .str i, .str j, K => K (decide (j.cps.toList < i.cps.toList))
  | .GtE, .str i, .str j, K => K (!decide (i.cps.toList < j.cps.toList))
  | .Is, .bl a, .bl b, K => K (a == b)
  | .IsNot, .bl a, .bl b, K => K (!(a == b))
  | .Is, x, .non, K => K x.isN
  | .IsNot, x, .non, K => K (!x.isN)
  | .In, x, y, K => dIn x y K
  | .NotIn, x, y, K => dIn x y fun b => K (!b)
  | _, _, _, _ => False

def dIdx : D → D → (D → Prop) → Prop
  | .lst ds, .int i, K => ∃ d, atI ds i = some d ∧ K d
  | .tup ds, .int i, K => ∃ d, atI ds i = some d ∧ K d
  | .scr ds, .int i, K => ∃ d, atI ds i = some d ∧ K d
  | .str z, .int i, K => z.length ≤ sizeLine ∧ ∃ c, atI z.cps.toList i = some c ∧ K (.str ⟨#[c]⟩)
  | .dct kvs, x, K => ∃ k, keyD x = some k ∧ ∃ d, dval kvs k = some d ∧ K d
  | .dtt kvs, .tup xs, K => ∃ ks, keysD xs = some ks ∧ ∃ d, dval kvs ks = some d ∧ K d
  | _, _, _ => False

def cutD {α : Type} (xs : List α) (lo hi : Option Int) : List α := (xs.drop (HT.sIx xs.length 0 lo)).take (HT.sIx xs.length xs.length hi - HT.sIx xs.length 0 lo)
def dSlc : D → Option Int → Option Int → (Rv → Prop) → Prop
  | .lst ds, lo, hi, K => K (.fr (.lst (cutD ds lo hi)))
  | .tup ds, lo, hi, K => K (.im (.tup (cutD ds lo hi)))
  | .str z, lo, hi, K => z.length ≤ sizeLine ∧ K (.im (.str ⟨(cutD z.cps.toList lo hi).toArray⟩))
  | _, _, _, _ => False

/-- each once -/
def uniq : List Str → List Str
  | [] => []
  | x :: xs => if x ∈ xs then uniq xs else x :: uniq xs
theorem mem_uniq {y : Str} : ∀ {xs : List Str}, y ∈ uniq xs ↔ y ∈ xs
  | [] => Iff.rfl
  | x :: xs => by
    unfold uniq
    by_cases h : x ∈ xs
    · rw [if_pos h, mem_uniq, List.mem_cons]
      exact ⟨.inr, fun z => z.elim (fun e => e ▸ h) id⟩
    · rw [if_neg h, List.mem_cons, List.mem_cons, mem_uniq]
theorem uniq_nodup : ∀ xs : List Str, (uniq xs).Nodup
  | [] => List.nodup_nil
  | x :: xs => by
    unfold uniq
    by_cases h : x ∈ xs
    · rw [if_pos h]; exact uniq_nodup xs
    · rw [if_neg h]; exact List.nodup_cons.mpr ⟨fun z => h (mem_uniq.mp z), uniq_nodup xs⟩
theorem uniq_id : ∀ {xs : List Str}, xs.Nodup → uniq xs = xs
  | [], _ => rfl
  | x :: xs, h => by
    obtain ⟨h1, h2⟩ := List.nodup_cons.mp h
    unfold uniq
    rw [if_neg h1, uniq_id h2]
/-- bounds of a range that a list is made of -/
abbrev RgS (a b : Int) : Prop := -(2 ^ 62) ≤ a ∧ a < 2 ^ 62 ∧ -(2 ^ 62) ≤ b ∧ b < 2 ^ 62 ∧ (b - a).toNat ≤ 2 ^ 24
/-- items at places -/
def pickN {α : Type} (xs : List α) (ix : List Nat) : List α := ix.filterMap (xs[·]?)
/-- the places of a slice with a step, of a list and of a tuple -/
def ixL (lo hi : Option Int) (c : Int) (n : Nat) : List Nat := sliceRange (sliceBounds lo hi (some c) n).1 (sliceBounds lo hi (some c) n).2.1 (sliceBounds lo hi (some c) n).2.2
def ixT (lo hi : Option Int) (c : Int) (n : Nat) : List Nat := (List.range (Builtin.Slice.slicePlaces (Builtin.Slice.sliceAdjust lo hi c (n : Int)).1 (Builtin.Slice.sliceAdjust lo hi c (n : Int)).2 c)).map fun (k : Nat) => ((Builtin.Slice.sliceAdjust lo hi c (n : Int)).1 + (k : Int) * c).toNat
def dSls : D → Option Int → Option Int → Int → (Rv → Prop) → Prop
  | .lst ds, lo, hi, c, K => c ≠ 0 ∧ K (.fr (.lst (pickN ds (ixL lo hi c ds.length))))
  | .tup ds, lo, hi, c, K => c ≠ 0 ∧ (c ≠ 1 ∨ (lo = none ∧ hi = none)) ∧ (ixT lo hi c ds.length).length ≤ sizeLine ∧ K (.im (.tup (pickN ds (ixT lo hi c ds.length))))
  | _, _, _, _, _ => False
/-- a list's items as ints, as texts -/
def intsD : List D → Option (List Int)
  | [] => some []
  | .int i :: r => (intsD r).map (i :: ·)
  | _ :: _ => none
def strsD : List D → Option (List Str)
  | [] => some []
  | .str x :: r => (strsD r).map (x :: ·)
  | _ :: _ => none
def blsD : List D → Option (List Bool)
  | [] => some []
  | .bl x :: r => (blsD r).map (x :: ·)
  | _ :: _ => none
def pairsD : List D → Option (List (Key × D))
  | [] => some []
  | .tup [k, v] :: r => match keyD k, pairsD r with
    | some k, some r => some ((k, v) :: r)
    | _, _ => none
  | _ :: _ => none

def un (u : D → (Rv → Prop) → Prop) : List D → (Rv → Prop) → Prop
  | [d], K => u d K
  | _, _ => False
def bi (u : D → D → (Rv → Prop) → Prop) : List D → (Rv → Prop) → Prop
  | [d, e], K => u d e K
  | _, _ => False
def ub (u : D → (Rv → Prop) → Prop) (w : D → D → (Rv → Prop) → Prop) : List D → (Rv → Prop) → Prop
  | [d], K => u d K
  | [d, e], K => w d e K
  | _, _ => False
def u_len : D → (Rv → Prop) → Prop
  | .str z, K => z.length ≤ sizeLine ∧ K (.im (.int z.length))
  | .lst ds, K => K (.im (.int ds.length))
  | .tup ds, K => K (.im (.int ds.length))
  | .scr ds, K => K (.im (.int ds.length))
  | .dct ds, K => K (.im (.int ds.length))
  | _, _ => False
def dd_len : List D → (Rv → Prop) → Prop := un u_len
def u_abs : D → (Rv → Prop) → Prop
  | .int i, K => K (.im (.int (if i < 0 then -i else i)))
  | _, _ => False
def dd_abs : List D → (Rv → Prop) → Prop := un u_abs
/-- the first of the least -/
def minDD (x : D) (r : List D) : D := r.foldl (fun a y => if PySem.W.dataLt y.toP a.toP then y else a) x
def u_minL : List D → (Rv → Prop) → Prop
  | .tup x :: r, K => (D.plns (.tup x :: r) = true ∧ PySem.W.AlikeAll (D.toPs (.tup x :: r)) ∧ D.deps (.tup x :: r) ≤ 30) ∧ K (.im (minDD (.tup x) r))
  | ds, K => ∃ ns, intsD ds = some ns ∧ ns ≠ [] ∧ ∀ m ∈ ns, (∀ y ∈ ns, m ≤ y) → K (.im (.int m))
theorem u_minL_of {ds : List D} {K : Rv → Prop} (h : ∃ ns, intsD ds = some ns ∧ ns ≠ [] ∧ ∀ m ∈ ns, (∀ y ∈ ns, m ≤ y) → K (.im (.int m))) : u_minL ds K := by
  cases ds with
  | nil => exact h
  | cons d r => cases d <;> first | exact h | (obtain ⟨ns, e, _⟩ := h; cases e)
def minS (x y : Str) : Str := if y.cps.toList < x.cps.toList then y else x
def maxS (x y : Str) : Str := if x.cps.toList < y.cps.toList then y else x
def u_min : D → (Rv → Prop) → Prop
  | .lst ds, K => u_minL ds K
  | .tup [.str x, .str y], K => D.plns [.str x, .str y] = true ∧ K (.im (.str (minS x y)))
  | _, _ => False
def b_min : D → D → (Rv → Prop) → Prop
  | .int i, .int j, K => K (.im (.int (if j < i then j else i)))
  | .str x, .str y, K => K (.im (.str (minS x y)))
  | _, _, _ => False
def dd_min : List D → (Rv → Prop) → Prop := ub u_min b_min
def u_max : D → (Rv → Prop) → Prop
  | .lst ds, K => ∃ ns, intsD ds = some ns ∧ ns ≠ [] ∧ ∀ m ∈ ns, (∀ y ∈ ns, y ≤ m) → K (.im (.int m))
  | .tup [.str x, .str y], K => D.plns [.str x, .str y] = true ∧ K (.im (.str (maxS x y)))
  | _, _ => False
def b_max : D → D → (Rv → Prop) → Prop
  | .int i, .int j, K => K (.im (.int (if j > i then j else i)))
  | .str x, .str y, K => K (.im (.str (maxS x y)))
  | _, _, _ => False
def dd_max : List D → (Rv → Prop) → Prop := ub u_max b_max
def u_sum : D → (Rv → Prop) → Prop
  | .lst ds, K => ∃ ns, intsD ds = some ns ∧ K (.im (.int ns.sum))
  | .tup ds, K => ∃ ns, intsD ds = some ns ∧ K (.im (.int ns.sum))
  | _, _ => False
def dd_sum : List D → (Rv → Prop) → Prop := un u_sum
def u_all : D → (Rv → Prop) → Prop
  | .lst ds, K => ∃ bs, blsD ds = some bs ∧ K (.im (.bl (bs.all id)))
  | _, _ => False
def dd_all : List D → (Rv → Prop) → Prop := un u_all
def u_any : D → (Rv → Prop) → Prop
  | .lst ds, K => ∃ bs, blsD ds = some bs ∧ K (.im (.bl (bs.any id)))
  | _, _ => False
def dd_any : List D → (Rv → Prop) → Prop := un u_any
def u_tuple : D → (Rv → Prop) → Prop
  | .lst ds, K => K (.im (.tup ds))
  | .tup ds, K => K (.im (.tup ds))
  | _, _ => False
def u_tupp : D → (Rv → Prop) → Prop
  | .lst ds, K => K (.im (.ptp ds))
  | _, _ => False
def dd_tupp : List D → (Rv → Prop) → Prop := un u_tupp
def dd_tuple : List D → (Rv → Prop) → Prop := un u_tuple
def u_list : D → (Rv → Prop) → Prop
  | .lst ds, K => K (.fr (.lst ds))
  | .tup ds, K => K (.fr (.lst ds))
  | _, _ => False
def dd_list : List D → (Rv → Prop) → Prop := un u_list
def u_dict : D → (Rv → Prop) → Prop
  | .dct kvs, K => K (.fr (.dct kvs))
  | .lst ds, K => ∃ kvs, pairsD ds = some kvs ∧ K (.fr (.dct (dmerge [] kvs)))
  | .ptp ds, K => ∃ kvs, pairsD ds = some kvs ∧ K (.fr (.dct (dmerge [] kvs)))
  | _, _ => False
def dd_dict : List D → (Rv → Prop) → Prop := un u_dict
def u_int : D → (Rv → Prop) → Prop
  | .bl b, K => K (.im (.int (if b then 1 else 0)))
  | .int i, K => K (.im (.int i))
  | .str a, K => ∃ n, PySem.intText? a = some n ∧ a.length ≤ 640 ∧ K (.im (.int n))
  | _, _ => False
def u_str : D → (Rv → Prop) → Prop
  | .int i, K => i.natAbs.log2 < 1920 ∧ K (.im (.str (toString i)))
  | _, _ => False
def dd_str : List D → (Rv → Prop) → Prop := un u_str
def dd_int : List D → (Rv → Prop) → Prop := un u_int
def b_divmod : D → D → (Rv → Prop) → Prop
  | .int i, .int j, K => (0 < j ∧ Builtin.divisionGoesByPylong i j = false) ∧ K (.im (.tup [.int (i / j), .int (i % j)]))
  | _, _, _ => False
def dd_divmod : List D → (Rv → Prop) → Prop := bi b_divmod
def kyD : D → Int ⊕ List Nat
  | .int i => .inl i
  | .str x => .inr x.cps.toList
  | _ => .inl 0
def shD (shape : Nat → Bool) : Nat → List D → Bool
  | _, [] => true
  | i, .int _ :: r => !shape i && shD shape (i + 1) r
  | i, .str _ :: r => shape i && shD shape (i + 1) r
  | _, _ => false
def itLt : Int ⊕ List Nat → Int ⊕ List Nat → Bool
  | .inl a, .inl b => decide (a < b)
  | .inl _, .inr _ => true
  | .inr _, .inl _ => false
  | .inr a, .inr b => decide (a < b)
def rowLt : List (Int ⊕ List Nat) → List (Int ⊕ List Nat) → Bool
  | [], [] => false
  | [], _ :: _ => true
  | _ :: _, [] => false
  | x :: r, y :: t => itLt x y || (!itLt y x && rowLt r t)
def u_sorted : D → (Rv → Prop) → Prop
  | .lst ds, K => (∃ ns, intsD ds = some ns ∧ ns.length < 64 ∧ ∀ ms : List Int, ms.Perm ns → ms.Pairwise (· ≤ ·) → K (.fr (.lst (ms.map .int)))) ∨
      (∃ xs, strsD ds = some xs ∧ xs.length < 64 ∧ ∀ ys : List Str, ys.Perm xs → sortedS ys = true → K (.fr (.lst (ys.map .str)))) ∨
      ∃ (shape : Nat → Bool) (rows : List (List D)), ds = rows.map .tup ∧ (∀ r ∈ rows, r ≠ [] ∧ shD shape 0 r = true) ∧ ∀ rows' : List (List D), rows'.Perm rows → rows'.Pairwise (fun x y => rowLt (y.map kyD) (x.map kyD) = false) → K (.fr (.lst (rows'.map .tup)))
  | .tup ds, K => (∃ (shape : Nat → Bool) (rows : List (List D)), ds = rows.map .tup ∧ (∀ r ∈ rows, r ≠ [] ∧ shD shape 0 r = true) ∧ ∀ rows' : List (List D), rows'.Perm rows → rows'.Pairwise (fun x y => rowLt (y.map kyD) (x.map kyD) = false) → K (.fr (.lst (rows'.map .tup)))) ∨
      ∃ xs, strsD ds = some xs ∧ xs.length < 64 ∧ ∀ ys : List Str, ys.Perm xs → sortedS ys = true → K (.fr (.lst (ys.map .str)))
  | .dct kvs, K => ∃ ks : List Str, kvs.map (·.1) = ks.map Sum.inr ∧ ks.length < 64 ∧ ∀ ys : List Str, ys.Perm ks → sortedS ys = true → K (.fr (.lst (ys.map .str)))
  | _, _ => False
def dd_sorted : List D → (Rv → Prop) → Prop := un u_sorted
def u_repr : D → (Rv → Prop) → Prop
  | .bl b, K => K (.im (.str (if b then "True" else "False")))
  | .non, K => K (.im (.str "None"))
  | .int i, K => i.natAbs.log2 < 1920 ∧ K (.im (.str (toString i)))
  | .str x, K => (reprText x).length ≤ sizeLine ∧ K (.im (.str (reprText x)))
  | .lst ds, K => RpOk (.lst ds) ∧ K (.im (.str (repD (.lst ds))))
  | .tup ds, K => RpOk (.tup ds) ∧ K (.im (.str (repD (.tup ds))))
  | _, _ => False
def dd_repr : List D → (Rv → Prop) → Prop := un u_repr
def dBlt : Bt → List D → (Rv → Prop) → Prop
  | .len => dd_len
  | .abs => dd_abs
  | .min => dd_min
  | .max => dd_max
  | .sum => dd_sum
  | .all => dd_all
  | .any => dd_any
  | .tuple => dd_tuple
  | .tupp => dd_tupp
  | .list => dd_list
  | .dict => dd_dict
  | .int => dd_int
  | .divmod => dd_divmod
  | .sorted => dd_sorted
  | .repr => dd_repr
  | .str => dd_str
  | _ => fun _ _ => False

/-- the receiver's type, asked ahead of the arguments -/
def tyM : Mt → D → Bool
  | .get, .dct _ => true
  | .get, .dtt _ => true
  | .join, .str _ => true
  | .index, .lst _ => true
  | .count, .lst _ => true
  | .split, .str _ => true
  | .startswith, .str _ => true
  | .endswith, .str _ => true
  | _, _ => false
def dMt : Mt → D → List D → (Rv → Prop) → Prop
  | .get, .dct kvs, [x, y], K => y.flat = true ∧ ∃ k, keyD x = some k ∧ K (.im ((dval kvs k).getD y))
  | .get, .dct kvs, [x], K => ∃ k, keyD x = some k ∧ K (.im ((dval kvs k).getD .non))
  | .get, .dtt kvs, [.tup x, y], K => y.flat = true ∧ ∃ k, keysD x = some k ∧ K (.im ((dval kvs k).getD y))
  | .get, .dtt kvs, [.tup x], K => ∃ k, keysD x = some k ∧ K (.im ((dval kvs k).getD .non))
  | .index, .lst ds, [x], K => (x.pln = true ∧ D.plns ds = true ∧ x.dep ≤ 30) ∧ ∃ j, ds.findIdx? (fun y => D.eqb y x) = some j ∧ K (.im (.int (j : Int)))
  | .count, .lst ds, [x], K => (x.pln = true ∧ D.plns ds = true ∧ x.dep ≤ 30) ∧ K (.im (.int ((ds.countP fun y => D.eqb y x : Nat) : Int)))
  | .join, .str a, [.lst ds], K => ∃ ys, strsD ds = some ys ∧ ((ys.map (·.length)).sum + ys.length * a.length ≤ 16777216) ∧ K (.im (.str (Txt.join a ys)))
  | .join, .str a, [.tup ds], K => ∃ ys, strsD ds = some ys ∧ ((ys.map (·.length)).sum + ys.length * a.length ≤ 16777216) ∧ K (.im (.str (Txt.join a ys)))
  | .split, .str a, [.str b], K => ((b.length == 0) = false ∧ a.length + 2 ≤ sizeLine) ∧ K (.fr (.lst ((Txt.split a b).map .str)))
  | .startswith, .str a, [.str b], K => K (.im (.bl (Txt.startswith a b)))
  | .endswith, .str a, [.str b], K => K (.im (.bl (Txt.endswith a b)))
  | _, _, _, _ => False

def tyMm : Mm → D → Bool
  | _, .lst _ => true
  | _, _ => false
/-- a changing method: what the thing is then, and what is handed back -/
def dMm : Mm → D → List D → (D → D → Prop) → Prop
  | .append, .lst ds, [x], K => ds.length < sizeLine ∧ K (.lst (ds ++ [x])) .non
  | .remove, .lst ds, [.int k], K => ∃ ns j, intsD ds = some ns ∧ ns[j]? = some k ∧ (∀ m : Nat, m < j → ns[m]? ≠ some k) ∧ K (.lst (ds.eraseIdx j)) .non
  | .extend, .lst ds, [.lst es], K => ds.length + es.length ≤ sizeLine ∧ K (.lst (ds ++ es)) .non
  | .insert, .lst ds, [.int i, x], K => (ds.length < sizeLine ∧ 0 ≤ i ∧ i < 2 ^ 63) ∧ K (.lst (ds.take i.toNat ++ [x] ++ ds.drop i.toNat)) .non
  | _, _, _, _ => False

def dSet : D → D → D → (D → Prop) → Prop
  | .lst ds, .int k, x, K => ∃ j, ixN ds.length k = some j ∧ K (.lst (ds.set j x))
  | .dct kvs, y, x, K => ∃ k, keyD y = some k ∧ kvs.length < sizeLine ∧ K (.dct (dput kvs k x))
  | .dtt kvs, .tup ys, x, K => ∃ k, keysD ys = some k ∧ kvs.length < sizeLine ∧ K (.dtt (dput kvs k x))
  | _, _, _, _ => False

inductive Tg where
  | nm (i : Nat) | sub (i : Nat) (k : Int) | tp (ts : Tg) | nil | cons (a b : Tg)
inductive Ex where
  | var (i : Nat) | cint (i : Int) | cstr (x : Str) | cbl (b : Bool) | cnon | glob (x : Str)
  | bin (op : Operator) (a b : Ex) | neg (a : Ex) | cmp (op : CmpOp) (a b : Ex) | chain (op op' : CmpOp) (a b c : Ex)
  | andn (a b : Ex) | orn (a b : Ex) | notn (a : Ex) | ife (c a b : Ex)
  | tupn (as : Ex) | lstn (as : Ex) | dnew (t : Bool) | dctn (ks vs : Ex) | dctw (k v k2 v2 : Ex) | ptn (as : Ex) | lrg (a b : Ex) | srs (a : Ex) | fgt (a : Ex) | kept (i : Nat) (a : Ex)
  | nil | cons (a as : Ex)
  | call (f : Str) (as : Ex) | blt (b : Bt) (as : Ex) | meth (m : Mt) (o : Ex) (as : Ex) | mut (m : Mm) (i : Nat) (as : Ex)
  | idx (a i : Ex) | slc (a lo hi : Ex) | sls (a lo hi st : Ex) | isi (a : Ex) (t : Tn)
  | comp (vs : List Nat) (tg : Tg) (it c e : Ex)
  | isx (i : Nat) (cs : List Str) | fld (i : Nat) (f : Str) | callx (f : Str) (i : Nat)
  | zip2 (a b : Ex) | zip3 (a b c : Ex) | enum (a : Ex) | rng1 (a : Ex) | rng2 (a b : Ex) | rng3 (a b c : Ex) | vals (a : Ex) | compd (k : Bool) (vs : List Nat) (tg : Tg) (i : Nat) (c e : Ex)
inductive Sm where
  | asg (t : Tg) (e : Ex) | par2 (i j : Nat) (a b : Ex) | par3 (i j k : Nat) (a b c : Ex) | pak2 (i j : Nat) (a b : Ex) | pak3 (i j k : Nat) (a b c : Ex) | new2 (i j : Nat) | new3 (i j k : Nat) | sub (i : Nat) (k e : Ex)
  | expr (e : Ex) | ret (e : Ex) | retN | ifs (c : Ex) (a b : Sm) | whl (c : Ex) (b : Sm) | forr (t : Tg) (it : Ex) (b : Sm) | lend (i : Nat) (s : Sm)
  | raise (x : Str) (as : Ex) | tryx (b : Sm) (c : Str) (i : Option Nat) (s : Sm) | brk | cont | pass
  | nil | cons (a b : Sm)

/-- a def: which of its parameters it may change; what it does -/
structure FI where
  io : List Bool
  sp : List D → (Rv → List D → Prop) → (XD → List D → Prop) → Prop
structure Post where
  nx : Env → Prop
  rt : Rv → Env → Prop
  bk : Env → Prop
  ct : Env → Prop

def rd (r : Rv) (env : Env) (K : D → Prop) : Prop := match r with
  | .im d => K d
  | .fr d => K d
  | .bo i => match env[i]? with
    | some (.ow d) => K d
    | some (.io d) => K d
    | some (.im d) => K d
    | some (.lk d) => K d
    | _ => False
def fz (r : Rv) (env : Env) (K : D → Env → Prop) : Prop := match r with
  | .im d => K d env
  | .fr d => K d env
  | .bo i => match env[i]? with
    | some (.ow d) => K d (env.set i (.im d))
    | some (.im d) => K d env
    | _ => False
def rds : List Rv → Env → (List D → Prop) → Prop
  | [], _, K => K []
  | r :: rs, env, K => rd r env fun d => rds rs env fun ds => K (d :: ds)
def noFr : List Rv → Bool
  | [] => true
  | .fr _ :: _ => false
  | _ :: r => noFr r
/-- the values of a call's arguments: one to be changed must be of a slot of ours, or new -/
def rdC : List Bool → List Rv → Env → (List D → Prop) → Prop
  | [], [], _, K => K []
  | false :: ms, .im d :: rs, env, K => rdC ms rs env fun ds => K (d :: ds)
  | true :: ms, .fr d :: rs, env, K => noFr rs = true ∧ rdC ms rs env fun ds => K (d :: ds)
  | true :: ms, .bo i :: rs, env, K => match env[i]? with
    | some (.ow d) => rdC ms rs env fun ds => K (d :: ds)
    | some (.io d) => rdC ms rs env fun ds => K (d :: ds)
    | _ => False
  | _, _, _, _ => False
def bos : List Rv → List Nat
  | [] => []
  | .bo i :: r => i :: bos r
  | _ :: r => bos r
def putS (env : Env) (i : Nat) (d : D) : Env := match env[i]? with
  | some (.ow _) => env.set i (.ow d)
  | some (.io _) => env.set i (.io d)
  | _ => env
/-- what a call has changed is put back -/
def putB : List Bool → List Rv → List D → Env → Env
  | true :: ms, .bo i :: rs, d :: ds, env => putB ms rs ds (putS env i d)
  | true :: ms, _ :: rs, _ :: ds, env => putB ms rs ds env
  | false :: ms, _ :: rs, ds, env => putB ms rs ds env
  | _, _, _, env => env
def isIo (env : Env) (j : Nat) : Prop := ∃ d, env[j]? = some (Sl.io d)
def stS (j : Nat) (r : Rv) (env : Env) (K : Env → Prop) : Prop := match env[j]? with
  | some (.io _) => False
  | some (.lk _) => False
  | none => False
  | _ => match r with
    | .im d => K (env.set j (.im d))
    | .fr d => K (env.set j (.ow d))
    | .bo i => match env[i]? with
      | some (.ow d) => if i = j then K env else K ((env.set i (.im d)).set j (.im d))
      | some (.im d) => K (env.set j (.im d))
      | _ => False
def wrS (i : Nat) (env : Env) (f : D → (D → Prop) → Prop) (K : Env → Prop) : Prop := match env[i]? with
  | some (.ow d) => f d fun d' => K (env.set i (.ow d'))
  | some (.io d) => f d fun d' => K (env.set i (.io d'))
  | _ => False
def Tg.len : Tg → Nat
  | .cons _ b => b.len + 1
  | _ => 0
mutual
def bindT : Tg → D → Env → (Env → Prop) → Prop
  | .nm j, d, env, K => stS j (.im d) env K
  | .sub i k, d, env, K => wrS i env (fun x f => dSet x (.int k) d f) K
  | .tp ts, .tup ds, env, K => ds.length = ts.len ∧ bindTs ts ds env K
  | .tp ts, .lst ds, env, K => ds.length = ts.len ∧ bindTs ts ds env K
  | _, _, _, _ => False
def bindTs : Tg → List D → Env → (Env → Prop) → Prop
  | .nil, [], env, K => K env
  | .cons a b, d :: ds, env, K => bindT a d env fun e => bindTs b ds e K
  | _, _, _, _ => False
end
def zipD : List D → List D → List D
  | x :: xs, y :: ys => .tup [x, y] :: zipD xs ys
  | _, _ => []
def zipD3 : List D → List D → List D → List D
  | x :: xs, y :: ys, z :: zs => .tup [x, y, z] :: zipD3 xs ys zs
  | _, _, _ => []
def enumD : Nat → List D → List D
  | _, [] => []
  | n, x :: xs => .tup [.int n, x] :: enumD (n + 1) xs
def seqD : D → Option (List D)
  | .lst ds => some ds
  | .tup ds => some ds
  | _ => none
def itD : D → Option (List D)
  | .lst ds => some ds
  | .tup ds => some ds
  | .str z => some (z.cps.toList.map fun c => .str ⟨#[c]⟩)
  | .scr ds => some ds
  | _ => none
/-- what a walk leans on: the slots whose things must stay -/
def stays (is : List Nat) (env env' : Env) : Prop := ∀ i ∈ is, env'[i]? = env[i]?
def wipeE (env : Env) : List Nat → Env
  | [] => env
  | v :: vs => (wipeE env vs).set v .un
/-- what is walked of a dict: its keys, its pairs -/
def dwalk (k : Bool) (kvs : List (Key × D)) : List D := kvs.map fun kv => if k = true then .tup [kD kv.1, kv.2] else kD kv.1
/-- the loop of a comprehension: items, what is made so far -/
def compW (turn : D → Env → (Option D → Env → Prop) → Prop) (ok : Env → Prop) : List D → List D → Env → (List D → Env → Prop) → Prop
  | [], acc, env, K => ok env ∧ K acc env
  | d :: ds, acc, env, K => ok env ∧ turn d env fun o e1 => compW turn ok ds (match o with | some y => acc ++ [y] | none => acc) e1 K
def forW (turn : D → Env → (Env → Prop) → (Env → Prop) → Prop) (ok : Env → Prop) (K : Env → Prop) : List D → Env → Prop
  | [], env => ok env ∧ K env
  | d :: ds, env => ok env ∧ turn d env (fun e => forW turn ok K ds e) K
end TG
end
section
namespace TG
open PySem PySem.Spec PyProof.Rows L2

/-- is a refusal of the class n one of the class d -/
def isaX (n d : Str) : Bool := decide (n = d) || (decide (d = "GoodsError") || decide (d = "ValueError"))
/-- what a def tells of the refusal that is handled -/
abbrev FX := Str → Option D → Option Rv
structure Ga where
  fn : Str → Option FI
  cs : Str → Option D
  fx : Str → Option FX
abbrev XP := XD → Env → Prop
def noX : XP := fun _ _ => False

/-- what is walked: the slots it leans on, its value -/
def srcR (r : Rv) (env : Env) (K : List Nat → D → Prop) : Prop := match r with
  | .im d => K [] d
  | .fr d => K [] d
  | .bo i => match env[i]? with
    | some (.ow d) => K [i] d
    | some (.io d) => K [i] d
    | some (.im d) => K [] d
    | _ => False
def isOwn (env : Env) (i : Nat) : Prop := match env[i]? with
  | some (.ow _) => True
  | some (.io _) => True
  | _ => False
def isOwnR (env : Env) : Rv → Prop
  | .im _ => False
  | .fr _ => True
  | .bo i => isOwn env i

structure Se where
  E : XP → Env → (Rv → Env → Prop) → Prop
  T : XP → Env → (Bool → Env → Prop) → Prop
  A : XP → Env → (List D → Env → Prop) → Prop
  B : XP → Env → (List Rv → Env → Prop) → Prop
  C : XP → List Bool → Env → (List Rv → Env → Prop) → Prop
  O : XP → Env → (Option Int → Env → Prop) → Prop
  I : XP → Env → (List Nat → List D → Env → Prop) → Prop
/-- of an expression that has a value -/
def ofE (E : XP → Env → (Rv → Env → Prop) → Prop) : Se where
  E := E
  T := fun R env Q => E R env fun r e1 => rd r e1 fun d => ∃ k, dTru d = some k ∧ Q k e1
  A := fun _ _ _ => False
  B := fun _ _ _ => False
  C := fun _ _ _ _ => False
  O := fun R env Q => E R env fun r e1 => rd r e1 fun x => ∃ i, x = .int i ∧ Q (some i) e1
  I := fun R env Q => E R env fun r e1 => srcR r e1 fun is x => ∃ xs, itD x = some xs ∧ Q is xs e1
def ofI (I : XP → Env → (List Nat → List D → Env → Prop) → Prop) : Se := { ofE (fun _ _ _ => False) with I := I }

def sem (Γ : Ga) : Ex → Se
  | .var i => ofE fun _ env Q => match env[i]? with
    | some (.im d) => Q (.im d) env
    | some .un => False
    | some _ => Q (.bo i) env
    | none => False
  | .cint i => ofE fun _ env Q => Q (.im (.int i)) env
  | .cstr x => ofE fun _ env Q => Q (.im (.str x)) env
  | .cbl b => ofE fun _ env Q => Q (.im (.bl b)) env
  | .cnon => ofE fun _ env Q => Q (.im .non) env
  | .glob x => ofE fun _ env Q => ∃ d, Γ.cs x = some d ∧ Q (.im d) env
  | .bin op a b => ofE fun R env Q => (sem Γ a).E R env fun r e1 => (sem Γ b).E R e1 fun r2 e2 => rd r e2 fun x => rd r2 e2 fun y => dBin op x y fun z => Q z e2
  | .neg a => ofE fun R env Q => (sem Γ a).E R env fun r e1 => rd r e1 fun x => ∃ i, x = .int i ∧ Q (.im (.int (-i))) e1
  | .cmp op a b => ofE fun R env Q => (sem Γ a).E R env fun r e1 => (sem Γ b).E R e1 fun r2 e2 => rd r e2 fun x => rd r2 e2 fun y => dCmp op x y fun z => Q (.im (.bl z)) e2
  | .chain op op' a b c => ofE fun R env Q => (sem Γ a).E R env fun r e1 => (sem Γ b).E R e1 fun r2 e2 => rd r e2 fun x => rd r2 e2 fun y => dCmp op x y fun k =>
      if k = true then (sem Γ c).E R e2 fun r3 e3 => rd r2 e3 fun y => rd r3 e3 fun z => dCmp op' y z fun k => Q (.im (.bl k)) e3 else Q (.im (.bl false)) e2
  | .andn a b => { ofE (fun R env Q => (sem Γ a).E R env fun r e1 => rd r e1 fun d => ∃ k, dTru d = some k ∧ if k = true then (sem Γ b).E R e1 Q else Q r e1) with
      T := fun R env Q => (sem Γ a).T R env fun k e1 => if k = true then (sem Γ b).T R e1 Q else Q false e1 }
  | .orn a b => { ofE (fun R env Q => (sem Γ a).E R env fun r e1 => rd r e1 fun d => ∃ k, dTru d = some k ∧ if k = true then Q r e1 else (sem Γ b).E R e1 Q) with
      T := fun R env Q => (sem Γ a).T R env fun k e1 => if k = true then Q true e1 else (sem Γ b).T R e1 Q }
  | .notn a => { ofE (fun R env Q => (sem Γ a).E R env fun r e1 => rd r e1 fun d => ∃ k, dTru d = some k ∧ Q (.im (.bl (!k))) e1) with
      T := fun R env Q => (sem Γ a).T R env fun k e1 => Q (!k) e1 }
  | .ife c a b => { ofE (fun R env Q => (sem Γ c).T R env fun k e1 => if k = true then (sem Γ a).E R e1 Q else (sem Γ b).E R e1 Q) with
      T := fun R env Q => (sem Γ c).T R env fun k e1 => if k = true then (sem Γ a).T R e1 Q else (sem Γ b).T R e1 Q }
  | .tupn as => ofE fun R env Q => (sem Γ as).A R env fun ds e1 => ds.length ≤ sizeLine ∧ Q (.im (.tup ds)) e1
  | .lstn as => ofE fun R env Q => (sem Γ as).A R env fun ds e1 => ds.length ≤ sizeLine ∧ Q (.fr (.lst ds)) e1
  | .dnew t => ofE fun _ env Q => Q (.fr (if t = true then .dtt [] else .dct [])) env
  | .dctn k v => ofE fun R env Q => (sem Γ k).E R env fun r e1 => fz r e1 fun x e2 => (sem Γ v).E R e2 fun r2 e3 => fz r2 e3 fun y e4 => ∃ kk, keyD x = some kk ∧ Q (.fr (.dct (dmerge [] [(kk, y)]))) e4
  | .dctw k v k' v' => ofE fun R env Q => (sem Γ k).E R env fun r e1 => fz r e1 fun x e2 => (sem Γ v).E R e2 fun r2 e3 => fz r2 e3 fun y e4 =>
      (sem Γ k').E R e4 fun r e1 => fz r e1 fun x' e2 => (sem Γ v').E R e2 fun r2 e3 => fz r2 e3 fun y' e4 => ∃ kk kk', keyD x = some kk ∧ keyD x' = some kk' ∧ Q (.fr (.dct (dmerge [] [(kk, y), (kk', y')]))) e4
  | .lrg a b => ofE fun R env Q => (sem Γ a).E R env fun r e1 => (sem Γ b).E R e1 fun r2 e2 => rd r e2 fun x => rd r2 e2 fun y => ∃ m n, x = .int m ∧ y = .int n ∧ RgS m n ∧ Q (.fr (.lst ((List.range (n - m).toNat).map fun (k : Nat) => .int (m + k)))) e2
  | .srs a => ofE fun R env Q => (sem Γ a).E R env fun r e1 => rd r e1 fun x => ∃ ds, seqD x = some ds ∧ ∃ xs, strsD ds = some xs ∧ xs.length < 64 ∧ ∀ ys : List Str, ys.Perm (uniq xs) → sortedS ys = true → Q (.fr (.lst (ys.map .str))) e1
  | .ptn as => ofE fun R env Q => (sem Γ as).A R env fun ds e1 => ds.length ≤ sizeLine ∧ Q (.im (.ptp ds)) e1
  | .fgt a => ofE fun R env Q => (sem Γ a).E R env fun r e1 => rd r e1 fun x => ∃ ds, x = .ptp ds ∧ Q (.im (.tup ds)) e1
  | .kept i a => ofE fun R env Q => ∃ d, env[i]? = some (.im d) ∧ (sem Γ a).E R env fun r e1 => e1[i]? = some .un ∧ ∃ x, r = .fr x ∧ Q (.fr x) (e1.set i (.im d))
  | .nil => ⟨fun _ _ _ => False, fun _ env Q => Q true env, fun _ env Q => Q [] env, fun _ env Q => Q [] env,
      fun _ ms env Q => match ms with
        | [] => Q [] env
        | _ => False, fun _ env Q => Q none env, fun _ _ _ => False⟩
  | .cons a as => ⟨fun _ _ _ => False, fun _ _ _ => False,
      fun R env Q => (sem Γ a).E R env fun r e1 => fz r e1 fun d e2 => (sem Γ as).A R e2 fun ds e3 => Q (d :: ds) e3,
      fun R env Q => (sem Γ a).E R env fun r e1 => (sem Γ as).B R e1 fun rs e2 => Q (r :: rs) e2,
      fun R ms env Q => match ms with
        | true :: ms => (sem Γ a).E R env fun r e1 => isOwnR e1 r ∧ (sem Γ as).C R ms e1 fun rs e2 => Q (r :: rs) e2
        | false :: ms => (sem Γ a).E R env fun r e1 => fz r e1 fun d e2 => (sem Γ as).C R ms e2 fun rs e3 => Q (.im d :: rs) e3
        | [] => False, fun _ _ _ => False, fun _ _ _ => False⟩
  | .call f as => ofE fun R env Q => ∃ fi, Γ.fn f = some fi ∧ (sem Γ as).C R fi.io env fun rs e1 => (bos rs).Nodup ∧ rdC fi.io rs e1 fun ds => fi.sp ds (fun r fins => Q r (putB fi.io rs fins e1)) (fun x fins => R x (putB fi.io rs fins e1))
  | .blt b as => ofE fun R env Q => (sem Γ as).B R env fun rs e1 => rds rs e1 fun ds => dBlt b ds fun r => Q r e1
  | .meth m o as => ofE fun R env Q => (sem Γ o).E R env fun r e1 => rd r e1 fun x0 => tyM m x0 = true ∧ (sem Γ as).B R e1 fun rs e2 => rd r e2 fun x => rds rs e2 fun ds => dMt m x ds fun r => Q r e2
  | .mut m i as => ofE fun R env Q => (match env[i]? with
    | some (.ow d) => tyMm m d = true
    | some (.io d) => tyMm m d = true
    | _ => False) ∧ (sem Γ as).A R env fun ds e1 => match e1[i]? with
    | some (.ow d) => dMm m d ds fun d' x => Q (.im x) (e1.set i (.ow d'))
    | some (.io d) => dMm m d ds fun d' x => Q (.im x) (e1.set i (.io d'))
    | _ => False
  | .idx a i => ofE fun R env Q => (sem Γ a).E R env fun r e1 => (sem Γ i).E R e1 fun r2 e2 => rd r e2 fun x => rd r2 e2 fun y => dIdx x y fun z => Q (.im z) e2
  | .sls a lo hi st => ofE fun R env Q => (sem Γ a).E R env fun r e1 => (sem Γ lo).O R e1 fun l e2 => (sem Γ hi).O R e2 fun h e3 => (sem Γ st).O R e3 fun c e4 => ∃ c', c = some c' ∧ rd r e4 fun x => dSls x l h c' fun z => Q z e4
  | .slc a lo hi => ofE fun R env Q => (sem Γ a).E R env fun r e1 => (sem Γ lo).O R e1 fun l e2 => (sem Γ hi).O R e2 fun h e3 => rd r e3 fun x => dSlc x l h fun z => Q z e3
  | .isi a t => ofE fun R env Q => (sem Γ a).E R env fun r e1 => rd r e1 fun x => Q (.im (.bl (dIsi x t))) e1
  | .comp vs tg it c e => ofE fun R env Q => (sem Γ it).I R env fun is its e1 => its.length ≤ sizeLine ∧
      compW (fun d e2 k => bindT tg d (wipeE e2 vs) fun e3 => (sem Γ c).T noX e3 fun b e4 => if b = true then (sem Γ e).E noX e4 fun r e5 => fz r e5 fun y e6 => k (some y) e6 else k none e4)
        (fun e2 => stays is e1 (wipeE e2 vs)) its [] e1 fun acc e7 => Q (.fr (.lst acc)) (wipeE e7 vs)
  | .isx i cs => ofE fun _ env Q => ∃ n f, env[i]? = some (.xc n f) ∧ Q (.im (.bl (cs.any (isaX n)))) env
  | .fld i x => ofE fun _ env Q => ∃ n d, env[i]? = some (.xc n (some d)) ∧ fldOf n = x ∧ Q (.im d) env
  | .callx x i => ofE fun _ env Q => ∃ h n f r, Γ.fx x = some h ∧ env[i]? = some (.xc n f) ∧ h n f = some r ∧ Q r env
  | .zip2 a b => ofI fun R env Q => (sem Γ a).E R env fun r e1 => (sem Γ b).E R e1 fun r2 e2 => srcR r e2 fun is x => srcR r2 e2 fun js y =>
      ∃ xs ys, seqD x = some xs ∧ seqD y = some ys ∧ Q (is ++ js) (zipD xs ys) e2
  | .zip3 a b c => ofI fun R env Q => (sem Γ a).E R env fun r e1 => (sem Γ b).E R e1 fun r2 e2 => (sem Γ c).E R e2 fun r3 e3 => srcR r e3 fun is x => srcR r2 e3 fun js y => srcR r3 e3 fun ks z =>
      ∃ xs ys zs, seqD x = some xs ∧ seqD y = some ys ∧ seqD z = some zs ∧ Q (is ++ js ++ ks) (zipD3 xs ys zs) e3
  | .enum a => ofI fun R env Q => (sem Γ a).E R env fun r e1 => srcR r e1 fun is x => ∃ xs, seqD x = some xs ∧ Q is (enumD 0 xs) e1
  | .rng1 a => ofI fun R env Q => (sem Γ a).E R env fun r e1 => rd r e1 fun x => ∃ n, x = .int n ∧ (-(2 ^ 62) ≤ n ∧ n < 2 ^ 62) ∧ Q [] ((List.range n.toNat).map fun (k : Nat) => .int k) e1
  | .rng2 a b => ofI fun R env Q => (sem Γ a).E R env fun r e1 => (sem Γ b).E R e1 fun r2 e2 => rd r e2 fun x => rd r2 e2 fun y => ∃ m n, x = .int m ∧ y = .int n ∧ (-(2 ^ 62) ≤ m ∧ m < 2 ^ 62 ∧ -(2 ^ 62) ≤ n ∧ n < 2 ^ 62) ∧
      Q [] ((List.range (n - m).toNat).map fun (k : Nat) => .int (m + k)) e2
  | .rng3 a b c => ofI fun R env Q => (sem Γ a).E R env fun r e1 => (sem Γ b).E R e1 fun r2 e2 => (sem Γ c).E R e2 fun r3 e3 => rd r e3 fun x => rd r2 e3 fun y => rd r3 e3 fun z => ∃ m n, x = .int m ∧ y = .int n ∧ z = .int (-1) ∧ (-(2 ^ 62) ≤ m ∧ m < 2 ^ 62 ∧ -(2 ^ 62) ≤ n ∧ n < 2 ^ 62) ∧
      Q [] ((List.range (m - n).toNat).map fun (k : Nat) => .int (m - k)) e3
  | .vals a => ofI fun R env Q => (sem Γ a).E R env fun r e1 => ∃ kvs, r = .fr (.dct kvs) ∧ Q [] (kvs.map (·.2)) e1
  | .compd k vs tg i c e => ofE fun R env Q => ∃ s kvs, env[i]? = some s ∧ (s = .ow (.dct kvs) ∨ s = .io (.dct kvs)) ∧ i ∉ vs ∧ kvs.length ≤ sizeLine ∧
      compW (fun d e2 k => bindT tg d (wipeE e2 vs) fun e3 => (sem Γ c).T noX e3 fun b e4 => if b = true then (sem Γ e).E noX e4 fun r e5 => fz r e5 fun y e6 => k (some y) e6 else k none e4)
        (fun e2 => (wipeE e2 vs)[i]? = some (.lk (.dct kvs))) (dwalk k kvs) [] (env.set i (.lk (.dct kvs))) fun acc e7 => Q (.fr (.lst acc)) ((wipeE e7 vs).set i s)
abbrev wpE (Γ : Ga) (R : XP) (ex : Ex) : Env → (Rv → Env → Prop) → Prop := (sem Γ ex).E R
abbrev wpT (Γ : Ga) (R : XP) (ex : Ex) : Env → (Bool → Env → Prop) → Prop := (sem Γ ex).T R
abbrev wpA (Γ : Ga) (R : XP) (ex : Ex) : Env → (List D → Env → Prop) → Prop := (sem Γ ex).A R
abbrev wpB (Γ : Ga) (R : XP) (ex : Ex) : Env → (List Rv → Env → Prop) → Prop := (sem Γ ex).B R
abbrev wpC (Γ : Ga) (R : XP) (ex : Ex) (ms : List Bool) : Env → (List Rv → Env → Prop) → Prop := (sem Γ ex).C R ms
abbrev wpO (Γ : Ga) (R : XP) (ex : Ex) : Env → (Option Int → Env → Prop) → Prop := (sem Γ ex).O R
abbrev wpI (Γ : Ga) (R : XP) (ex : Ex) : Env → (List Nat → List D → Env → Prop) → Prop := (sem Γ ex).I R

/-- a loop's sources are kept for good, but those handed in to be changed -/
def frzL : List Nat → Env → Env
  | [], env => env
  | i :: is, env => match env[i]? with
    | some (.ow d) => frzL is (env.set i (.im d))
    | _ => frzL is env
def staysIo (is : List Nat) (env env' : Env) : Prop := ∀ i ∈ is, isIo env i → env'[i]? = env[i]?

/-- slot i of ours, lent for a statement's run as one handed in to be changed is -/
def lendE (i : Nat) (K : Env → Prop) : Env → Prop := fun e => match e[i]? with
  | some (.io d) => K (e.set i (.ow d))
  | _ => False
def lendP (i : Nat) (P : Post) : Post := { nx := lendE i P.nx, rt := fun r => lendE i (P.rt r), bk := lendE i P.bk, ct := lendE i P.ct }
/-- a slot that a clause's name may take -/
def slX (e : Env) (i : Nat) : Prop := match e[i]? with
  | some (.io _) => False
  | some (.lk _) => False
  | none => False
  | _ => True
/-- behind a clause its name is gone -/
def goneP (i : Nat) (P : Post) : Post := { nx := fun e => P.nx (e.set i .un), rt := fun r e => P.rt r (e.set i .un), bk := fun e => P.bk (e.set i .un), ct := fun e => P.ct (e.set i .un) }
def wpS (Γ : Ga) : XP → Sm → Env → Post → Prop
  | R, .nil, env, P => P.nx env
  | R, .cons a b, env, P => wpS Γ R a env { P with nx := fun e => wpS Γ R b e P }
  | R, .pass, env, P => P.nx env
  | R, .brk, env, P => P.bk env
  | R, .cont, env, P => P.ct env
  | R, .asg (.nm j) e, env, P => wpE Γ R e env fun r e1 => stS j r e1 P.nx
  | R, .asg t e, env, P => wpE Γ R e env fun r e1 => rd r e1 fun d => bindT t d e1 P.nx
  | R, .par2 i j a b, env, P => wpA Γ R (.cons a (.cons b .nil)) env fun ds e1 => match ds with
    | [x, y] => stS i (.im x) e1 fun e2 => stS j (.im y) e2 P.nx
    | _ => False
  | R, .pak2 i j a b, env, P => wpE Γ R a env fun r e1 => wpE Γ R b e1 fun r2 e2 => match r, r2 with
    | .fr x, .fr y => stS i (.fr x) e2 fun e3 => stS j (.fr y) e3 P.nx
    | _, _ => False
  | R, .pak3 i j k a b c, env, P => wpE Γ R a env fun r e1 => wpE Γ R b e1 fun r2 e2 => wpE Γ R c e2 fun r3 e3 => match r, r2, r3 with
    | .fr x, .fr y, .im z => stS i (.fr x) e3 fun e4 => stS j (.fr y) e4 fun e5 => stS k (.im z) e5 P.nx
    | _, _, _ => False
  | R, .new2 i j, env, P => stS i (.fr (.lst [])) env fun e2 => stS j (.fr (.lst [])) e2 P.nx
  | R, .new3 i j k, env, P => stS i (.fr (.lst [])) env fun e2 => stS j (.fr (.lst [])) e2 fun e3 => stS k (.fr (.lst [])) e3 P.nx
  | R, .par3 i j k a b c, env, P => wpA Γ R (.cons a (.cons b (.cons c .nil))) env fun ds e1 => match ds with
    | [x, y, z] => stS i (.im x) e1 fun e2 => stS j (.im y) e2 fun e3 => stS k (.im z) e3 P.nx
    | _ => False
  | R, .sub i k e, env, P => wpE Γ R e env fun r e1 => fz r e1 fun v e2 => isOwn e2 i ∧ match k with
    | .tupn as => wpA Γ R as e2 fun ds e3 => ds.length ≤ sizeLine ∧ wrS i e3 (fun x f => x.isDtt = true ∧ dSet x (.tup ds) v f) P.nx
    | k => wpE Γ R k e2 fun r2 e3 => rd r2 e3 fun y => wrS i e3 (fun x f => x.isDtt = false ∧ dSet x y v f) P.nx
  | R, .expr e, env, P => wpE Γ R e env fun _ e1 => P.nx e1
  | R, .ret e, env, P => wpE Γ R e env fun r e1 => match r with
    | .im d => P.rt (.im d) e1
    | .fr d => P.rt (.fr d) e1
    | .bo i => match e1[i]? with
      | some (.ow d) => P.rt (.fr d) (e1.set i .un)
      | some (.im d) => P.rt (.im d) e1
      | _ => False
  | R, .retN, env, P => P.rt (.im .non) env
  | R, .ifs c a b, env, P => wpT Γ R c env fun k e1 => if k = true then wpS Γ R a e1 P else wpS Γ R b e1 P
  | R, .whl c b, env, P => ∃ I : Nat → Env → Prop, (∃ m, I m env) ∧ ∀ m e, I m e → wpT Γ R c e fun k e1 =>
      if k = true then wpS Γ R b e1 { nx := fun e2 => ∃ m', m' < m ∧ I m' e2, rt := P.rt, bk := P.nx, ct := fun e2 => ∃ m', m' < m ∧ I m' e2 } else P.nx e1
  | R, .forr t it b, env, P => wpI Γ R it env fun is its e1 =>
      forW (fun d e2 next brk => bindT t d e2 fun e3 => wpS Γ R b e3 { nx := next, rt := P.rt, bk := brk, ct := next }) (staysIo is (frzL is e1)) P.nx its (frzL is e1)
  | R, .lend i s, env, P => match env[i]? with
    | some (.ow d) => wpS Γ (fun x => lendE i (R x)) s (env.set i (.io d)) (lendP i P)
    | _ => False
  | R, .raise c .nil, env, _ => R (c, none) env
  | R, .raise c (.cons a .nil), env, _ => wpE Γ R a env fun r e1 => fz r e1 fun d e2 => R (c, some d) e2
  | R, .tryx b c none s, env, P => wpS Γ (fun x e => (isaX x.1 c = true → wpS Γ noX s e P) ∧ (isaX x.1 c = false → R x e)) b env P
  | R, .tryx b c (some i) s, env, P => wpS Γ (fun x e => (isaX x.1 c = true → slX e i ∧ wpS Γ noX s (e.set i (.xc x.1 x.2)) (goneP i P)) ∧ (isaX x.1 c = false → R x e)) b env P
  | _, _, _, _ => False
end TG
end
section
namespace TG
open PySem PySem.Spec PyProof.Rows L2
theorem tuple_mul_none (l : Addr) (items : Array Value) (n : Nat) (dd : Option Addr) (sl : Array (Option Value)) (x : Int) (u : Tok) (c0 : (decide (x < -(2 ^ 63)) || decide (x ≥ 2 ^ 63)) = false) (c1 : (items.isEmpty || x == 1) = false) (c2 : (decide (x ≤ 0) || items.isEmpty) = true) :
    Meets (Builtin.«tuple.__mul__» ⟨[.ref l, .int x u], []⟩) (fun _ R s => s.heap.get? l = some { cls := .type "tuple", dict := dd, data := .seq items n, slots := sl } ∧
      R (.ok (.ret (Value.ref s.heap.objs.size))) { s with heap := s.heap.push { cls := Value.type "tuple", data := Data.seq #[] }, toks := s.toks }) :=
  .of_wp fun prog w A R s h => by
    obtain ⟨hp, g, d, tk, os⟩ := s
    obtain ⟨hl, h⟩ := h
    have f1 := AutoSeq1.idx_int
    wp_walk using wpAny_loadPart' hl
    repeat (first
      | (refine wpAny_ite_false (decide_eq_false (by rw [c0]; exact Bool.false_ne_true)) ?_; wp_walk using wpAny_loadPart' hl)
      | (refine wpAny_ite_false (decide_eq_false (by rw [c1]; exact Bool.false_ne_true)) ?_; wp_walk using wpAny_loadPart' hl)
      | (refine wpAny_ite_true (decide_eq_true c2) ?_; wp_walk using wpAny_loadPart' hl))
    exact ⟨_, rfl, h⟩
theorem tuple_mul_same (l : Addr) (items : Array Value) (n : Nat) (dd : Option Addr) (sl : Array (Option Value)) (x : Int) (u : Tok) (c0 : (decide (x < -(2 ^ 63)) || decide (x ≥ 2 ^ 63)) = false) (c1 : (items.isEmpty || x == 1) = true) :
    Meets (Builtin.«tuple.__mul__» ⟨[.ref l, .int x u], []⟩) (fun _ R s => s.heap.get? l = some { cls := .type "tuple", dict := dd, data := .seq items n, slots := sl } ∧ R (.ok (.ret (Value.ref l))) s) :=
  .of_wp fun prog w A R s h => by
    obtain ⟨hp, g, d, tk, os⟩ := s
    obtain ⟨hl, h⟩ := h
    have f1 := AutoSeq1.idx_int
    wp_walk using wpAny_loadPart' hl
    repeat (first
      | (refine wpAny_ite_false (decide_eq_false (by rw [c0]; exact Bool.false_ne_true)) ?_; wp_walk using wpAny_loadPart' hl)
      | (refine wpAny_ite_true (decide_eq_true c1) ?_; wp_walk using wpAny_loadPart' hl))
    exact ⟨_, rfl, h⟩
def rRepT0 (K : PySem.W.Frag) : R2 := fun x y H Q => ∃ l k xs, x = .ref l ∧ y = .int k ∧ SqT K H l xs ∧ -(2 ^ 63) ≤ k ∧ k < 2 ^ 63 ∧ (((xs = [] ∨ k = 1) ∧ Q (.ref l) H) ∨ (xs ≠ [] ∧ k ≤ 0 ∧ ∀ p, H p = none → Q (.ref p) (upd H p (.tup []))))
section
variable {X : Cx}
theorem op_repT0 : OpR X (binaryOp .Mult) (rRepT0 X.K) := by
  intro pins s σ H x y v u Q I rx ry h
  obtain ⟨l, k, xs, rfl, rfl, hT, h1, h2, q⟩ := h
  cases rx
  obtain ⟨t, rfl⟩ := ry
  obtain ⟨its, r, ⟨⟨cls, dd, data, sl⟩, ho, hc, n, hd⟩, hs⟩ := I.tuple hT
  simp only at hc hd
  subst hc hd
  have hle : its.length = xs.length := r.length.symm
  have c0 : (decide (k < -(2 ^ 63)) || decide (k ≥ 2 ^ 63)) = false := by
    rw [decide_eq_false (by omega), decide_eq_false (by omega)] <;> rfl
  rcases q with ⟨e, q⟩ | ⟨ne, kn, q⟩
  · have c1 : (its.toArray.isEmpty || k == 1) = true := by
      rcases e with e | e
      · subst e
        have : its = [] := List.eq_nil_of_length_eq_zero hle
        subst this; rfl
      · subst e; simp
    refine wpAny_binaryOp_repeat_ref (T := "tuple") (U := "int") (by decide) ⟨_, ho, rfl⟩ (fun s' => typeIs_int s' k t) noFill_tuple_mul F.fills_int_mul F.slot_int_rmul repeat_tuple F.slot_int_index.lookup
      (call_meets F.slot_int_rmul (typeIs_int s k t) F.entry_int_rmul (F.args_int_rmul_2 _ _) (int_rmul_tuple k t l its.toArray n dd sl)
        ⟨ho, rfl, ⟨_, ho, rfl⟩, call_meets F.slot_tuple_mul ⟨_, ho, rfl⟩ F.entry_tuple_mul (F.args_tuple_mul_2 _ _) (tuple_mul_same l its.toArray n dd sl k t c0 c1) ⟨ho, ?_⟩⟩)
    exact ⟨.ref l, H, I, rfl, q⟩
  · have hn : its ≠ [] := fun e => ne (by
      rw [e] at hle
      exact List.eq_nil_of_length_eq_zero hle.symm)
    have hi : its.toArray.isEmpty = false := by
      cases its with
      | nil => exact absurd rfl hn
      | cons a b => rfl
    have c1 : (its.toArray.isEmpty || k == 1) = false := by
      rw [hi, Bool.false_or]
      exact beq_eq_false_iff_ne.mpr (by omega)
    have c2 : (decide (k ≤ 0) || its.toArray.isEmpty) = true := by
      rw [decide_eq_true kn]; rfl
    refine wpAny_binaryOp_repeat_ref (T := "tuple") (U := "int") (by decide) ⟨_, ho, rfl⟩ (fun s' => typeIs_int s' k t) noFill_tuple_mul F.fills_int_mul F.slot_int_rmul repeat_tuple F.slot_int_index.lookup
      (call_meets F.slot_int_rmul (typeIs_int s k t) F.entry_int_rmul (F.args_int_rmul_2 _ _) (int_rmul_tuple k t l its.toArray n dd sl)
        ⟨ho, rfl, ⟨_, ho, rfl⟩, call_meets F.slot_tuple_mul ⟨_, ho, rfl⟩ F.entry_tuple_mul (F.args_tuple_mul_2 _ _) (tuple_mul_none l its.toArray n dd sl k t c0 c1 c2) ⟨ho, ?_⟩⟩)
    refine ⟨.ref s.heap.objs.size, _, I.laid (t' := s.toks) (o := .tup []) (fun b ob q => Heap.get?_push_of_some _ q) (Nat.le_refl _) ?_, rfl, q _ (I.hok.fresh (Nat.le_refl _))⟩
    exact ⟨Nat.zero_le _, [], .nil, IsTup.new _ _⟩
theorem fold_app (l : List (Array Nat)) : ∀ a : Array Nat, (l.foldl (· ++ ·) a).toList = a.toList ++ (l.map Array.toList).flatten := by
  induction l with
  | nil => intro a; simp
  | cons x l ih => intro a; rw [List.foldl_cons, ih]; simp
theorem rep_arr (x : Str) (n : Nat) : ((List.replicate n x.cps).foldl (· ++ ·) #[]) = (List.replicate n x.cps.toList).flatten.toArray := by
  apply Array.ext'
  rw [fold_app]
  simp
def rRepS : R2 := fun x y H Q => ∃ z k, x = .str z ∧ y = .int k ∧ -(2 ^ 63) ≤ k ∧ k < 2 ^ 62 ∧ z.length * k.toNat ≤ sizeLine ∧ Q (.str (repS z k)) H
theorem op_repS : OpR X (binaryOp .Mult) rRepS := by
  intro pins s σ H x y v u Q I rx ry h
  obtain ⟨z, k, rfl, rfl, h1, h2, hz, q⟩ := h
  obtain ⟨t, rfl⟩ := rx
  obtain ⟨t', rfl⟩ := ry
  have hr : (decide (k < -(2 ^ 63 : Int)) || decide (k ≥ 2 ^ 63)) = false := by
    rw [decide_eq_false (by omega), decide_eq_false (by omega)] <;> rfl
  refine P.mul_str hr (fun a b => ?_) (fun a b => ?_) ?_
  · have k0 : 0 < k := by omega
    have : (z.length : Int) * k ≤ sizeLine := by
      have e : (z.length : Int) * k = ((z.length * k.toNat : Nat) : Int) := by rw [Int.natCast_mul, Int.toNat_of_nonneg (by omega)]
      rw [e]; omega
    have : (z.length : Int) ≤ (2 ^ 63 - 1) / k := by
      refine Int.le_ediv_of_mul_le k0 ?_
      have sl : (sizeLine : Int) ≤ 2 ^ 63 - 1 := by rw [sizeLine_eq]; decide
      omega
    omega
  · exact decide_eq_false (by omega)
  · by_cases c1 : k < 1
    · rw [if_pos c1]
      have e : repS z k = Str.empty := by unfold repS; rw [show k.toNat = 0 by omega]; rfl
      rw [e] at q
      exact ⟨by decide, ⟨.str Str.empty, H, I.tok _, ⟨_, rfl⟩, q⟩⟩
    · rw [if_neg c1]
      by_cases c2 : (k == 1 || z.length == 0) = true
      · rw [if_pos c2]
        have e : repS z k = z := by
          unfold repS
          rw [Bool.or_eq_true] at c2
          rcases c2 with c2 | c2
          · have : k = 1 := by simpa using c2
            subst this; simp
          · have : z.cps = #[] := by simpa [Str.length] using c2
            cases z with
            | mk a => simp at this; subst this; simp
        rw [e] at q
        exact ⟨.str z, H, I, ⟨_, rfl⟩, q⟩
      · rw [if_neg c2, rep_arr]
        exact ⟨by show ((List.replicate k.toNat z.cps.toList).flatten.toArray).size ≤ _; rw [List.size_toArray, PyProof.Rows.lm_len_rep_flat, Array.length_toList, Nat.mul_comm]; exact hz, ⟨.str _, H, I.tok _, ⟨_, rfl⟩, q⟩⟩
end
end TG
end
section
namespace TG
open PySem PySem.Spec PyProof.Rows L2

section
variable {K : PySem.W.Frag} {Z : Addr → Prop} {H : Hp} {v : V}
theorem RepT.of {d : D} (h : Rep K Z H v d) : RepT K Z H v d := .inl h
theorem RepT.non (h : RepT K Z H v .non) : v = .non := by
  rcases h with h | ⟨a, _, h | h⟩ <;> cases h; rfl
theorem RepT.bl {b : Bool} (h : RepT K Z H v (.bl b)) : v = .bl b := by
  rcases h with h | ⟨a, _, h | h⟩ <;> cases h; rfl
theorem RepT.int {i : Int} (h : RepT K Z H v (.int i)) : v = .int i := by
  rcases h with h | ⟨a, _, h | h⟩ <;> cases h; rfl
theorem RepT.str {x : Str} (h : RepT K Z H v (.str x)) : v = .str x := by
  rcases h with h | ⟨a, _, h | h⟩ <;> cases h; rfl
theorem RepT.tup {ds : List D} (h : RepT K Z H v (.tup ds)) : ∃ a vs, v = .ref a ∧ TAt K Z H a vs ∧ Reps K Z H vs ds := by
  rcases h with h | ⟨a, _, h | h⟩ <;> cases h
  exact ⟨_, _, rfl, ‹_›, ‹_›⟩
theorem RepT.ptp {ds : List D} (h : RepT K Z H v (.ptp ds)) : ∃ a vs, v = .ref a ∧ PAt Z H a vs ∧ Reps K Z H vs ds := by
  rcases h with h | ⟨a, _, h | h⟩ <;> cases h
  exact ⟨_, _, rfl, ‹_›, ‹_›⟩
theorem RepT.lst {ds : List D} (h : RepT K Z H v (.lst ds)) : ∃ a vs, v = .ref a ∧ H a = some (.lst vs) ∧ Reps K Z H vs ds := by
  rcases h with h | ⟨a, e, h | h⟩
  · cases h with
    | lst h r => exact ⟨_, _, rfl, h.2, r⟩
  · cases h with
    | lst h r => exact ⟨_, _, e, h, r⟩
  · cases h
theorem RepT.scr {ds : List D} (h : RepT K Z H v (.scr ds)) : ∃ a vs, v = .ref a ∧ SqL K H a vs ∧ Reps K Z H vs ds := by
  rcases h with h | ⟨a, e, h | h⟩
  · cases h with
    | scr h r =>
      rcases h with ⟨_, o, h⟩ | h
      · exact ⟨_, _, rfl, .inl (.inr ⟨o, h⟩), r⟩
      · exact ⟨_, _, rfl, .inr h, r⟩
  · cases h
  · cases h
theorem RepT.dct {ds : List (Key × D)} (h : RepT K Z H v (.dct ds)) : ∃ a kvs, v = .ref a ∧ Rd H a (.dK kvs) ∧ RepKs K Z H kvs ds := by
  rcases h with h | ⟨a, e, h | h⟩
  · cases h with
    | dct z h r => exact ⟨_, _, rfl, .inl h, r⟩
  · cases h with
    | dct h r => exact ⟨_, _, e, .inl h, r⟩
  · cases h with
    | dct h r => exact ⟨_, _, e, .inr ⟨_, h⟩, r⟩
theorem RepT.dtt {ds : List (List Key × D)} (h : RepT K Z H v (.dtt ds)) : ∃ a kvs, v = .ref a ∧ H a = some (.dT kvs) ∧ RepTs K Z H kvs ds := by
  rcases h with h | ⟨a, e, h | h⟩
  · cases h with
    | dtt z h r => exact ⟨_, _, rfl, h, r⟩
  · cases h with
    | dtt h r => exact ⟨_, _, e, h, r⟩
  · cases h
theorem TAt.sq {a : Addr} {vs : List V} (h : TAt K Z H a vs) : SqT K H a vs := by
  rcases h with ⟨_, h⟩ | h | ⟨_, o, h⟩
  · exact .inl (.inl h)
  · exact .inr h
  · exact .inl (.inr ⟨o, h⟩)
end

/-- how a result comes -/
inductive Out (K : PySem.W.Frag) (Z : Addr → Prop) (H : Hp) : Rv → V → Hp → Prop
  | same {v : V} {d : D} (r : Rep K Z H v d) : Out K Z H (.im d) v H
  | tup {p : Addr} {vs : List V} {ds : List D} (n : H p = none) (r : Reps K Z H vs ds) : Out K Z H (.im (.tup ds)) (.ref p) (upd H p (.tup vs))
  | ptp {p : Addr} {vs : List V} {ds : List D} {o : Obj} (n : H p = none) (hd : o.dict = none) (r : Reps K Z H vs ds) : Out K Z H (.im (.ptp ds)) (.ref p) (upd H p (.frz o (.tup vs)))
  | lst {p : Addr} {vs : List V} {ds : List D} (n : H p = none) (r : Reps K Z H vs ds) : Out K Z H (.fr (.lst ds)) (.ref p) (upd H p (.lst vs))
  | dct {p : Addr} {vs : List (Key × V)} {ds : List (Key × D)} (n : H p = none) (r : RepKs K Z H vs ds) : Out K Z H (.fr (.dct ds)) (.ref p) (upd H p (.dK vs))
  | dtt {p : Addr} (n : H p = none) : Out K Z H (.fr (.dtt [])) (.ref p) (upd H p (.dT []))
section
variable {G : Gh} {σ : L2.St} {Z : Addr → Prop} {H H' : Hp} {env : Env} {v : V} {z : Rv}
theorem Out.run (R : Rel G σ Z H env) (o : Out G.K Z H z v H') : ∃ Z', Rel G σ Z' H' env ∧ Stp σ Z H env Z' H' env ∧ RepR G σ Z' H' env z v ∧ RepN H z v := by
  have zk : ∀ {p : Addr} {o : HO}, H p = none → ∀ b u, Z b → H b = some u → upd H p o b = some u := fun hp b u _ h => hk_upd hp b u h
  cases o with
  | same r => exact ⟨Z, R, .refl, r, trivial⟩
  | tup n r => exact ⟨_, R.frz0 n, .frz0 n, .tup (.inl ⟨.inr rfl, upd_same⟩) (r.mono (fun b z => .inl z) (zk n)), trivial⟩
  | ptp n hd r => exact ⟨_, R.frz0 n, .frz0 n, .ptp ⟨.inr rfl, _, hd, upd_same⟩ (r.mono (fun b z => .inl z) (zk n)), trivial⟩
  | lst n r =>
    exact ⟨Z, R.fresh n, .fresh n, ⟨_, rfl, R.zn n, R.on n, R.h0n n, .lst upd_same (r.mono (fun b z => z) (zk n))⟩, fun a e => by cases e; exact n⟩
  | dct n r =>
    exact ⟨Z, R.fresh n, .fresh n, ⟨_, rfl, R.zn n, R.on n, R.h0n n, .dct upd_same (r.mono (fun b z => z) (zk n))⟩, fun a e => by cases e; exact n⟩
  | dtt n =>
    exact ⟨Z, R.fresh n, .fresh n, ⟨_, rfl, R.zn n, R.on n, R.h0n n, .dtt upd_same .nil⟩, fun a e => by cases e; exact n⟩
end

section
variable {X : Cx}
def BinOk (X : Cx) (op : Operator) (f : Value → Value → Sem Value) : Prop :=
  ∃ r : R2, OpR X f r ∧ ∀ (Z : Addr → Prop) (H : Hp) (x y : V) (dx dy : D) (Kp : Rv → Prop) (Q : VK), RepT X.K Z H x dx → RepT X.K Z H y dy → dBin op dx dy Kp →
    (∀ z v H', Kp z → Out X.K Z H z v H' → Q v H') → r x y H Q
theorem rep_one {α : Type} (x : List α) : (List.replicate 1 x).flatten = x := by simp
theorem op_fdivP : OpR X (binaryOp .FloorDiv) (rI (fun i j => 0 < j ∧ Builtin.divisionGoesByPylong i j = false) fun i j => .int (i / j)) := opI fun i j t u s Q E hc q => by
  refine floordiv_int (by omega) ?_ (.inl hc.2)
  rw [Int.fdiv_eq_ediv_of_nonneg i (by omega)]
  exact q
theorem op_mulK : OpR X (binaryOp .Mult) (rI IntMulOk fun i j => .int (i * j)) := opI fun _ _ _ _ _ _ _ hc q => mul_int q hc
theorem bin_ok (op : Operator) : BinOk X op (binaryOp op) := by
  cases op with
  | Add =>
    refine ⟨_, op_add.or (op_add_str.or (op_catA.or op_cat)), fun Z H x y dx dy Kp Q hx hy hd q => ?_⟩
    cases dx <;> cases dy <;> try exact hd.elim
    · cases hx.int; cases hy.int
      exact .inl ⟨_, _, rfl, rfl, q _ _ _ hd (.same (.int _))⟩
    · cases hx.str; cases hy.str
      exact .inr (.inl ⟨_, _, rfl, rfl, hd.1, q _ _ _ hd.2 (.same (.str _))⟩)
    · obtain ⟨a, vs, rfl, h1, r1⟩ := hx.tup
      obtain ⟨b, ws, rfl, h2, r2⟩ := hy.tup
      refine .inr (.inr (.inl ⟨a, b, vs, ws, rfl, rfl, h1.sq, h2.sq, by rw [r1.length, r2.length]; exact hd.1, fun e => ?_, fun _ e => ?_, fun _ _ p hp => ?_⟩))
      · subst e; cases r1
        exact q _ _ _ hd.2 (.same (by rw [List.nil_append]; exact .tup h2 r2))
      · subst e; cases r2
        exact q _ _ _ hd.2 (.same (by rw [List.append_nil]; exact .tup h1 r1))
      · exact q _ _ _ hd.2 (.tup hp (r1.append r2))
    · obtain ⟨a, vs, rfl, h1, r1⟩ := hx.lst
      obtain ⟨b, ws, rfl, h2, r2⟩ := hy.lst
      exact .inr (.inr (.inr ⟨a, b, vs, ws, rfl, rfl, h1, h2, by rw [r1.length, r2.length]; exact hd.1, fun p hp => q _ _ _ hd.2 (.lst hp (r1.append r2))⟩))
  | Sub =>
    refine ⟨_, op_sub, fun Z H x y dx dy Kp Q hx hy hd q => ?_⟩
    cases dx <;> cases dy <;> try exact hd.elim
    cases hx.int; cases hy.int
    exact ⟨_, _, rfl, rfl, q _ _ _ hd (.same (.int _))⟩
  | Mult =>
    refine ⟨_, op_mulK.or (op_repT.or (op_repT0.or (op_repS.or op_rep))), fun Z H x y dx dy Kp Q hx hy hd q => ?_⟩
    cases dx <;> cases dy <;> try exact hd.elim
    · cases hx.int; cases hy.int
      exact .inl ⟨_, _, rfl, rfl, hd.1, q _ _ _ hd.2 (.same (.int _))⟩
    · cases hx.str; cases hy.int
      obtain ⟨⟨h1, h2, h3⟩, hk⟩ := hd
      rename_i z k
      exact .inr (.inr (.inr (.inl ⟨z, k, rfl, rfl, by omega, by omega, by
        have : z.length * k.toNat ≤ 1000 * 1000 := Nat.mul_le_mul h3 (by omega)
        rw [sizeLine_eq]; omega, q _ _ _ hk (.same (.str _))⟩)))
    · obtain ⟨a, vs, rfl, h1, r1⟩ := hx.tup
      cases hy.int
      rename_i ds k
      obtain ⟨⟨h2, h3, h4⟩, hk⟩ := hd
      have hlen := r1.length
      by_cases e : ds = []
      · subst e; cases r1
        exact .inr (.inr (.inl ⟨a, k, [], rfl, rfl, h1.sq, by omega, by omega, .inl ⟨.inl rfl, q _ _ _ hk (.same (by simpa using Rep.tup h1 .nil))⟩⟩))
      · by_cases k1 : k = 1
        · subst k1
          exact .inr (.inr (.inl ⟨a, 1, vs, rfl, rfl, h1.sq, by omega, by omega, .inl ⟨.inr rfl, q _ _ _ hk (.same (by simpa using Rep.tup h1 r1))⟩⟩))
        · have ne : vs ≠ [] := fun h => by subst h; cases r1; exact e rfl
          by_cases k0 : k ≤ 0
          · have z : k.toNat = 0 := by omega
            rw [z] at hk
            exact .inr (.inr (.inl ⟨a, k, vs, rfl, rfl, h1.sq, by omega, by omega, .inr ⟨ne, k0, fun p hp => q _ _ _ hk (.tup hp .nil)⟩⟩))
          · exact .inr (.inl ⟨a, k, vs, rfl, rfl, h1.sq, ne, by omega, h3, by rw [hlen]; exact h4, fun p hp => q _ _ _ hk (.tup hp (r1.rep _))⟩)
    · obtain ⟨a, vs, rfl, h1, r1⟩ := hx.lst
      cases hy.int
      rename_i ds k
      obtain ⟨⟨h2, h3, h4⟩, hk⟩ := hd
      exact .inr (.inr (.inr (.inr ⟨a, k, vs, rfl, rfl, h1, by omega, by omega, by
        have : vs.length * k.toNat ≤ 1000 * 1000 := Nat.mul_le_mul (by rw [r1.length]; exact h4) (by omega)
        rw [sizeLine_eq]; omega, fun p hp => q _ _ _ hk (.lst hp (r1.rep _))⟩)))
  | FloorDiv =>
    refine ⟨_, op_fdivP, fun Z H x y dx dy Kp Q hx hy hd q => ?_⟩
    cases dx <;> cases dy <;> try exact hd.elim
    cases hx.int; cases hy.int
    exact ⟨_, _, rfl, rfl, hd.1, q _ _ _ hd.2 (.same (.int _))⟩
  | Mod =>
    refine ⟨_, op_mod, fun Z H x y dx dy Kp Q hx hy hd q => ?_⟩
    cases dx <;> cases dy <;> try exact hd.elim
    cases hx.int; cases hy.int
    exact ⟨_, _, rfl, rfl, hd.1, q _ _ _ hd.2 (.same (.int _))⟩
  | Pow =>
    refine ⟨_, op_pow, fun Z H x y dx dy Kp Q hx hy hd q => ?_⟩
    cases dx <;> cases dy <;> try exact hd.elim
    cases hx.int; cases hy.int
    exact ⟨_, _, rfl, rfl, hd.1, q _ _ _ hd.2 (.same (.int _))⟩
  | LShift =>
    refine ⟨_, op_shl, fun Z H x y dx dy Kp Q hx hy hd q => ?_⟩
    cases dx <;> cases dy <;> try exact hd.elim
    cases hx.int; cases hy.int
    exact ⟨_, _, rfl, rfl, hd.1, q _ _ _ hd.2 (.same (.int _))⟩
  | RShift =>
    refine ⟨_, op_shr, fun Z H x y dx dy Kp Q hx hy hd q => ?_⟩
    cases dx <;> cases dy <;> try exact hd.elim
    cases hx.int; cases hy.int
    exact ⟨_, _, rfl, rfl, hd.1, q _ _ _ hd.2 (.same (.int _))⟩
  | BitAnd =>
    refine ⟨_, op_and, fun Z H x y dx dy Kp Q hx hy hd q => ?_⟩
    cases dx <;> cases dy <;> try exact hd.elim
    cases hx.int; cases hy.int
    exact ⟨_, _, rfl, rfl, q _ _ _ hd (.same (.int _))⟩
  | BitXor =>
    refine ⟨_, op_xor, fun Z H x y dx dy Kp Q hx hy hd q => ?_⟩
    cases dx <;> cases dy <;> try exact hd.elim
    cases hx.int; cases hy.int
    exact ⟨_, _, rfl, rfl, q _ _ _ hd (.same (.int _))⟩
  | MatMult => exact ⟨fun _ _ _ _ => False, fun _ _ _ _ _ _ _ _ _ _ _ _ h => h.elim, fun Z H x y dx dy Kp Q hx hy hd q => by cases dx <;> cases dy <;> exact hd.elim⟩
  | Div => exact ⟨fun _ _ _ _ => False, fun _ _ _ _ _ _ _ _ _ _ _ _ h => h.elim, fun Z H x y dx dy Kp Q hx hy hd q => by cases dx <;> cases dy <;> exact hd.elim⟩
  | BitOr => exact ⟨fun _ _ _ _ => False, fun _ _ _ _ _ _ _ _ _ _ _ _ h => h.elim, fun Z H x y dx dy Kp Q hx hy hd q => by cases dx <;> cases dy <;> exact hd.elim⟩
end
end TG
end
section
namespace TG
open PySem PySem.Spec PyProof.Rows L2

mutual
theorem toP_lay : ∀ d : D, d.pln = true → d.toP.canLay0 = true
  | .non, _ => rfl
  | .bl b, _ => rfl
  | .int i, _ => rfl
  | .str x, h => by simpa only [D.toP, PyData.canLay0, D.pln] using h
  | .lst ds, h => by simp only [D.toP, PyData.canLay0]; exact toPs_lay ds (by simpa only [D.pln] using h)
  | .tup ds, h => by simp only [D.toP, PyData.canLay0]; exact toPs_lay ds (by simpa only [D.pln] using h)
  | .scr ds, h => by simp [D.pln] at h
  | .dct ds, h => by simp [D.pln] at h
  | .dtt ds, h => by simp [D.pln] at h
  | .ptp ds, h => by simp [D.pln] at h
theorem toPs_lay : ∀ ds : List D, D.plns ds = true → PyData.canLayAll0 (D.toPs ds) = true
  | [], _ => rfl
  | d :: ds, h => by
    have h : (d.pln && D.plns ds) = true := by simpa only [D.plns] using h
    rw [Bool.and_eq_true] at h
    simp only [D.toPs, PyData.canLayAll0, Bool.and_eq_true]
    exact ⟨toP_lay d h.1, toPs_lay ds h.2⟩
end
mutual
theorem toP_dep : ∀ d : D, d.pln = true → d.toP.depth = d.dep
  | .non, _ => rfl
  | .bl b, _ => rfl
  | .int i, _ => rfl
  | .str x, h => rfl
  | .lst ds, h => by simp only [D.toP, PyData.depth, D.dep]; rw [toPs_dep ds (by simpa only [D.pln] using h)]
  | .tup ds, h => by simp only [D.toP, PyData.depth, D.dep]; rw [toPs_dep ds (by simpa only [D.pln] using h)]
  | .scr ds, h => by simp [D.pln] at h
  | .dct ds, h => by simp [D.pln] at h
  | .dtt ds, h => by simp [D.pln] at h
  | .ptp ds, h => by simp [D.pln] at h
theorem toPs_dep : ∀ ds : List D, D.plns ds = true → PyData.depthAll (D.toPs ds) = D.deps ds
  | [], _ => rfl
  | d :: ds, h => by
    have h : (d.pln && D.plns ds) = true := by simpa only [D.plns] using h
    rw [Bool.and_eq_true] at h
    simp only [D.toPs, PyData.depthAll, D.deps]
    rw [toP_dep d h.1, toPs_dep ds h.2]
end
mutual
theorem toP_show : ∀ d : D, d.pln = true → d.ib = true → d.toP.showable = true ∧ d.toP.intsShort 501 = true ∧ d.toP.hasDict = false ∧ d.toP.bulk = d.bk
  | .non, _, _ => ⟨rfl, rfl, rfl, rfl⟩
  | .bl b, _, _ => ⟨rfl, rfl, rfl, rfl⟩
  | .int i, _, h => by
    have hi : i.natAbs < 10 ^ 500 := of_decide_eq_true h
    refine ⟨decide_eq_true ?_, decide_eq_true ?_, rfl, rfl⟩
    · by_cases z : i.natAbs = 0
      · rw [z]; decide
      · exact (Nat.log2_lt z).mpr (Nat.lt_of_lt_of_le hi (by decide +kernel))
    · have e := PySem.int_text_length_le10 (k := 500) (by decide) hi
      show (Str.ofString (toString i)).length ≤ 501
      rw [PyProof.Rows.ofString_length]; exact e
  | .str x, _, _ => ⟨rfl, rfl, rfl, rfl⟩
  | .lst ds, h, g => by
    obtain ⟨a, b, c, e⟩ := toPs_show ds (by simpa only [D.pln] using h) (by simpa only [D.ib] using g)
    simp only [D.toP, PyData.showable, PyData.intsShort, PyData.hasDict, PyData.bulk, D.bk]
    exact ⟨a, b, c, e⟩
  | .tup ds, h, g => by
    obtain ⟨a, b, c, e⟩ := toPs_show ds (by simpa only [D.pln] using h) (by simpa only [D.ib] using g)
    simp only [D.toP, PyData.showable, PyData.intsShort, PyData.hasDict, PyData.bulk, D.bk]
    exact ⟨a, b, c, e⟩
  | .scr ds, h, _ => by simp [D.pln] at h
  | .dct ds, h, _ => by simp [D.pln] at h
  | .dtt ds, h, _ => by simp [D.pln] at h
  | .ptp ds, h, _ => by simp [D.pln] at h
theorem toPs_show : ∀ ds : List D, D.plns ds = true → D.ibs ds = true → PyData.showableAll (D.toPs ds) = true ∧ PyData.intsShortAll 501 (D.toPs ds) = true ∧ PyData.hasDictAll (D.toPs ds) = false ∧ PyData.bulkAll (D.toPs ds) = D.bks ds
  | [], _, _ => ⟨rfl, rfl, rfl, rfl⟩
  | d :: ds, h, g => by
    simp only [D.plns, D.ibs, Bool.and_eq_true] at h g
    obtain ⟨a, b, c, e⟩ := toP_show d h.1 g.1
    obtain ⟨a', b', c', e'⟩ := toPs_show ds h.2 g.2
    simp only [D.toPs, PyData.showableAll, PyData.intsShortAll, PyData.hasDictAll, PyData.bulkAll, D.bks, a, b, c, e, a', b', c', e']
    exact ⟨rfl, rfl, rfl, by first | trivial | rfl⟩
end
theorem shown_len {d : D} (h : RpOk d) : d.toP.shown.length ≤ sizeLine := by
  obtain ⟨h1, h2, _, h4⟩ := h
  obtain ⟨_, b, _, e⟩ := toP_show d h1 h2
  have := PyData.shown_le_bulk 501 (by decide) _ (PyData.leavesShort_of_canLay0 501 _ (toP_lay d h1) b)
  rw [e] at this
  have : (501 + 2) * d.bk ≤ 503 * 20000 := Nat.mul_le_mul_left _ h4
  rw [sizeLine_eq]
  omega
mutual
theorem toP_eqv : ∀ d e : D, d.pln = true → e.pln = true → PyData.eqv d.toP e.toP = D.eqb d e
  | .non, e, _, h => by cases e <;> simp_all [D.toP, PyData.eqv, D.eqb, D.pln]
  | .bl b, e, _, h => by cases e <;> simp_all [D.toP, PyData.eqv, D.eqb, D.pln]
  | .int i, e, _, h => by cases e <;> simp_all [D.toP, PyData.eqv, D.eqb, D.pln]
  | .str x, e, _, h => by cases e <;> simp_all [D.toP, PyData.eqv, D.eqb, D.pln]
  | .lst ds, e, h0, h => by
    cases e <;> first
      | (simp only [D.toP, PyData.eqv, D.eqb]; exact toPs_eqv ds _ (by simpa only [D.pln] using h0) (by simpa only [D.pln] using h))
      | simp_all [D.toP, PyData.eqv, D.eqb, D.pln]
  | .tup ds, e, h0, h => by
    cases e <;> first
      | (simp only [D.toP, PyData.eqv, D.eqb]; exact toPs_eqv ds _ (by simpa only [D.pln] using h0) (by simpa only [D.pln] using h))
      | simp_all [D.toP, PyData.eqv, D.eqb, D.pln]
  | .scr ds, _, h, _ => by simp [D.pln] at h
  | .dct ds, _, h, _ => by simp [D.pln] at h
  | .dtt ds, _, h, _ => by simp [D.pln] at h
  | .ptp ds, _, h, _ => by simp [D.pln] at h
theorem toPs_eqv : ∀ ds es : List D, D.plns ds = true → D.plns es = true → PyData.eqvAll (D.toPs ds) (D.toPs es) = D.eqbs ds es
  | [], [], _, _ => rfl
  | [], _ :: _, _, _ => rfl
  | _ :: _, [], _, _ => rfl
  | d :: ds, e :: es, h, g => by
    have h : (d.pln && D.plns ds) = true := by simpa only [D.plns] using h
    have g : (e.pln && D.plns es) = true := by simpa only [D.plns] using g
    rw [Bool.and_eq_true] at h g
    simp only [D.toPs, PyData.eqvAll, D.eqbs]
    rw [toP_eqv d e h.1 g.1, toPs_eqv ds es h.2 g.2]
end
section
variable {K : PySem.W.Frag} {Z : Addr → Prop} {H : Hp}
mutual
theorem Rep.dp : ∀ {v : V} {d : D}, Rep K Z H v d → d.pln = true → Dp K H v d.toP
  | _, _, .non, _ => .non
  | _, _, .bl b, _ => .bl b
  | _, _, .int i, _ => .int i
  | _, _, .str x, _ => .str x
  | _, _, .tup h r, p => by simp only [D.toP]; exact .tup h.sq (Reps.dp r (by simpa only [D.pln] using p))
  | _, _, .lst h r, p => by simp only [D.toP]; exact .lst (SqL.of h.2) (Reps.dp r (by simpa only [D.pln] using p))
  | _, _, .scr h r, p => by simp [D.pln] at p
  | _, _, .dct h e r, p => by simp [D.pln] at p
  | _, _, .dtt h e r, p => by simp [D.pln] at p
  | _, _, .ptp h r, p => by simp [D.pln] at p
theorem Reps.dp : ∀ {vs : List V} {ds : List D}, Reps K Z H vs ds → D.plns ds = true → DpAll K H vs (D.toPs ds)
  | _, _, .nil, _ => .nil
  | _, _, .cons (d := d) (ds := ds) h r, p => by
    have p : (d.pln && D.plns ds) = true := by simpa only [D.plns] using p
    rw [Bool.and_eq_true] at p
    simp only [D.toPs]
    exact .cons (Rep.dp h p.1) (Reps.dp r p.2)
end
theorem RepT.dp {v : V} {d : D} (h : RepT K Z H v d) (p : d.pln = true) : Dp K H v d.toP := by
  rcases h with h | ⟨a, rfl, h | h⟩
  · exact h.dp p
  · cases h with
    | lst h r => simp only [D.toP]; exact .lst (SqL.of h) (r.dp (by simpa only [D.pln] using p))
    | dct h r => simp [D.pln] at p
    | dtt h r => simp [D.pln] at p
  · cases h with
    | dct h r => simp [D.pln] at p
mutual
theorem toP_inj : ∀ d e : D, d.pln = true → e.pln = true → d.toP = e.toP → d = e
  | .non, e, _, h, q => by cases e <;> simp_all [D.toP, D.pln]
  | .bl b, e, _, h, q => by cases e <;> simp_all [D.toP, D.pln]
  | .int i, e, _, h, q => by cases e <;> simp_all [D.toP, D.pln]
  | .str x, e, _, h, q => by cases e <;> simp_all [D.toP, D.pln]
  | .lst ds, e, p, h, q => by
    cases e <;> first
      | (rename_i es; simp only [D.toP, PyData.list.injEq] at q; rw [toPs_inj ds es (by simpa only [D.pln] using p) (by simpa only [D.pln] using h) q])
      | simp_all [D.toP, D.pln]
  | .tup ds, e, p, h, q => by
    cases e <;> first
      | (rename_i es; simp only [D.toP, PyData.tuple.injEq] at q; rw [toPs_inj ds es (by simpa only [D.pln] using p) (by simpa only [D.pln] using h) q])
      | simp_all [D.toP, D.pln]
  | .scr _, _, p, _, _ => by simp [D.pln] at p
  | .dct _, _, p, _, _ => by simp [D.pln] at p
  | .dtt _, _, p, _, _ => by simp [D.pln] at p
  | .ptp _, _, p, _, _ => by simp [D.pln] at p
theorem toPs_inj : ∀ ds es : List D, D.plns ds = true → D.plns es = true → D.toPs ds = D.toPs es → ds = es
  | [], [], _, _, _ => rfl
  | [], _ :: _, _, _, q => by simp [D.toPs] at q
  | _ :: _, [], _, _, q => by simp [D.toPs] at q
  | d :: ds, e :: es, p, h, q => by
    simp only [D.plns, Bool.and_eq_true] at p h
    simp only [D.toPs, List.cons.injEq] at q
    rw [toP_inj d e p.1 h.1 q.1, toPs_inj ds es p.2 h.2 q.2]
end
theorem toPs_map : ∀ ds : List D, D.toPs ds = ds.map D.toP
  | [] => rfl
  | d :: ds => by rw [D.toPs, List.map_cons, toPs_map ds]
theorem plns_mem : ∀ {ds : List D} {d : D}, D.plns ds = true → d ∈ ds → d.pln = true
  | e :: ds, d, h, hd => by
    simp only [D.plns, Bool.and_eq_true] at h
    rcases List.mem_cons.mp hd with rfl | hd
    · exact h.1
    · exact plns_mem h.2 hd
theorem minDD_mem (x : D) (r : List D) : minDD x r ∈ x :: r := by
  unfold minDD
  induction r generalizing x with
  | nil => exact List.mem_cons_self
  | cons y r ih =>
    rw [List.foldl_cons]
    split
    · exact List.mem_cons_of_mem _ (ih y)
    · rcases List.mem_cons.mp (ih x) with h | h
      · rw [h]; exact List.mem_cons_self
      · exact List.mem_cons_of_mem _ (List.mem_cons_of_mem _ h)
theorem minDD_toP (x : D) (r : List D) : (minDD x r).toP = PySem.W.minD x.toP (r.map D.toP) := by
  unfold minDD PySem.W.minD
  induction r generalizing x with
  | nil => rfl
  | cons y r ih =>
    rw [List.foldl_cons, List.map_cons, List.foldl_cons, ih]
    congr 1
    split <;> rfl
theorem Rep.flat {v : V} {d : D} (h : Rep K Z H v d) (f : d.flat = true) : flatV v = true := by
  cases h <;> first | rfl | simp [D.flat] at f
theorem RepT.flat {v : V} {d : D} (h : RepT K Z H v d) (f : d.flat = true) : flatV v = true ∧ Rep K Z H v d := by
  rcases h with h | ⟨a, rfl, h | h⟩
  · exact ⟨h.flat f, h⟩
  · cases h <;> simp [D.flat] at f
  · cases h <;> simp [D.flat] at f
theorem Rep.eqV {v w : V} {d e : D} (h : Rep K Z H v d) (g : Rep K Z H w e) (f : d.flat = true) (f' : e.flat = true) : L2.eqV v w = D.eqb d e := by
  cases h <;> cases g <;> first | rfl | simp [D.flat] at f | simp [D.flat] at f' | simp [L2.eqV, D.eqb]
theorem Reps.flats : ∀ {vs : List V} {ds : List D}, Reps K Z H vs ds → ds.all D.flat = true → vs.all flatV = true
  | _, _, .nil, _ => rfl
  | _, _, .cons h r, f => by
    rw [List.all_cons, Bool.and_eq_true] at f ⊢
    exact ⟨h.flat f.1, Reps.flats r f.2⟩
theorem Reps.inV {w : V} {e : D} (g : Rep K Z H w e) (fe : e.flat = true) : ∀ {vs : List V} {ds : List D}, Reps K Z H vs ds → ds.all D.flat = true → L2.inV w vs = ds.any fun y => D.eqb y e
  | _, _, .nil, _ => rfl
  | _, _, .cons h r, f => by
    rw [List.all_cons, Bool.and_eq_true] at f
    have := Reps.inV g fe r f.2
    unfold L2.inV at this ⊢
    rw [List.any_cons, List.any_cons, this, h.eqV g f.1 fe]
theorem Reps.atI {vs : List V} {ds : List D} {i : Int} {d : D} (r : Reps K Z H vs ds) (h : L2.atI ds i = some d) : ∃ v, L2.atI vs i = some v ∧ Rep K Z H v d := by
  unfold L2.atI at h ⊢
  rw [r.length]
  cases e : ixN ds.length i with
  | none => rw [e] at h; cases h
  | some j =>
    rw [e] at h
    obtain ⟨v, h1, h2⟩ := r.get (show ds[j]? = some d from h)
    exact ⟨v, h1, h2⟩
theorem RepT.key {v : V} {d : D} {k : Key} (h : RepT K Z H v d) (e : keyD d = some k) : v = kV k := by
  cases d <;> simp only [keyD] at e <;> cases e
  · exact h.int
  · exact h.str
theorem Rep.key {v : V} {d : D} {k : Key} (h : Rep K Z H v d) (e : keyD d = some k) : v = kV k := (RepT.of h).key e
theorem Reps.keys : ∀ {vs : List V} {ds : List D} {ks : List Key}, Reps K Z H vs ds → keysD ds = some ks → vs = ks.map kV
  | _, _, _, .nil, e => by cases e; rfl
  | _, _, _, .cons (d := d) (ds := ds) h r, e => by
    simp only [keysD] at e
    cases e1 : keyD d with
    | none => rw [e1] at e; cases e
    | some k =>
      cases e2 : keysD ds with
      | none => rw [e1, e2] at e; cases e
      | some ks =>
        rw [e1, e2] at e; cases e
        rw [h.key e1, Reps.keys r e2]; rfl
theorem RepKs.dget {a : Addr} {kvs : List (Key × V)} {kds : List (Key × D)} {k : Key} (h : Rd H a (.dK kvs)) (r : RepKs K Z H kvs kds) :
    (dval kds k = none ∧ DGet H a (kV k) none) ∨ ∃ v d, dval kds k = some d ∧ DGet H a (kV k) (some v) ∧ Rep K Z H v d := by
  rcases r.val k with ⟨h1, h2⟩ | ⟨v, d, h1, h2, h3⟩
  · exact .inl ⟨by unfold dval; rw [h2]; rfl, .inl ⟨kvs, k, h, rfl, h1.symm⟩⟩
  · exact .inr ⟨v, d, by unfold dval; rw [h2]; rfl, .inl ⟨kvs, k, h, rfl, h1.symm⟩, h3⟩
/-- as DGet, the key perhaps a tuple of the written part -/
def DGe (K : PySem.W.Frag) (H : Hp) (a : Addr) (y : V) (r : Option V) : Prop := DGet H a y r ∨ ∃ kvs k b, Rd H a (.dT kvs) ∧ y = .ref b ∧ SqT K H b (k.map kV) ∧ r = valV kvs k
theorem RepTs.dget {a b : Addr} {vs : List V} {kvs : List (List Key × V)} {kds : List (List Key × D)} {k : List Key} (h : H a = some (.dT kvs)) (hb : SqT K H b vs) (ek : vs = k.map kV) (r : RepTs K Z H kvs kds) :
    (dval kds k = none ∧ DGe K H a (.ref b) none) ∨ ∃ v d, dval kds k = some d ∧ DGe K H a (.ref b) (some v) ∧ Rep K Z H v d := by
  subst ek
  rcases r.val k with ⟨h1, h2⟩ | ⟨v, d, h1, h2, h3⟩
  · exact .inl ⟨by unfold dval; rw [h2]; rfl, .inr ⟨kvs, k, b, .inl h, rfl, hb, h1.symm⟩⟩
  · exact .inr ⟨v, d, by unfold dval; rw [h2]; rfl, .inr ⟨kvs, k, b, .inl h, rfl, hb, h1.symm⟩, h3⟩
end
section
variable {X : Cx} {pins : List (Addr × Obj)} {σ : L2.St} {H : Hp} {s : Shared} {a b : Addr} {y v : V} {u : Value} {o : Option V} {A : Around} {E : Value → Shared → Prop}
theorem key_ofT {ks : List Key} (I : Inv X pins σ H s) (h : SqT X.K H b (ks.map kV)) : (tupleKind (mixKind X.prog X.w)).is s.heap ks b := by
  obtain ⟨its, r, ⟨o, h1, h2, n, h3⟩, _⟩ := I.tuple h
  exact ⟨o, its.toArray, n, h1, h2, h3, by simpa using items_are r⟩
theorem e_getItem {Q : Value → Shared → Prop} (hu : A.units + 1 < cLine) (I : Inv X pins σ H s) (g : DGe X.K H a y (some v)) (ry : RelV y u) (h : ∀ w' s', Inv X pins σ H s' → RelV v w' → Q w' s') :
    wpAny (model X.prog X.w) A (getItem (.ref a) u) Q E s := by
  rcases g with g | ⟨kvs, k, b, e, ey, eb, l⟩
  · exact d_getItem hu I g ry h
  · subst ey
    cases (show u = Value.ref b from ry)
    obtain ⟨z, hd, xs, rel, dd⟩ := dt_rd I.hok e
    obtain ⟨w', hw, rw'⟩ := RelO.some_of (v := v) (o := (atKey xs k).map (·.2)) (by rw [l]; exact rel.val k)
    obtain ⟨p, hp, hp2⟩ := Option.map_eq_some_iff.mp hw
    refine wpAny_getItem_heap (tupleKind_room_in1 hu) (key_ofT I eb) dd hp ?_
    rw [hp2]
    exact h w' _ (I.tok _) rw'
theorem e_in {Q : Value → Shared → Prop} (hu : A.units + 1 < cLine) (I : Inv X pins σ H s) (g : DGe X.K H a y o) (ry : RelV y u) (h : ∀ s', Inv X pins σ H s' → Q (.bool o.isSome) s') :
    wpAny (model X.prog X.w) A (compareOp .In u (.ref a)) Q E s := by
  rcases g with g | ⟨kvs, k, b, e, ey, eb, l⟩
  · exact d_in hu I g ry h
  · subst ey
    cases (show u = Value.ref b from ry)
    obtain ⟨z, hd, xs, rel, dd⟩ := dt_rd I.hok e
    refine wpAny_in_heap (tupleKind_room_in1 hu) (key_ofT I eb) hd dd ?_
    have q := (rel.val k).isSome_eq
    rw [Option.isSome_map] at q
    rw [← q, ← l]
    exact h _ (I.tok _)
theorem e_notIn {Q : Value → Shared → Prop} (hu : A.units + 1 < cLine) (I : Inv X pins σ H s) (g : DGe X.K H a y o) (ry : RelV y u) (h : ∀ s', Inv X pins σ H s' → Q (.bool (!o.isSome)) s') :
    wpAny (model X.prog X.w) A (compareOp .NotIn u (.ref a)) Q E s := by
  rcases g with g | ⟨kvs, k, b, e, ey, eb, l⟩
  · exact d_notIn hu I g ry h
  · subst ey
    cases (show u = Value.ref b from ry)
    obtain ⟨z, hd, xs, rel, dd⟩ := dt_rd I.hok e
    refine wpAny_notIn_heap (tupleKind_room_in1 hu) (key_ofT I eb) hd dd ?_
    have q := (rel.val k).isSome_eq
    rw [Option.isSome_map] at q
    rw [← q, ← l]
    exact h _ (I.tok _)
theorem e_get1 {Q : Value → Shared → Prop} (hu : A.units + 1 < cLine) (I : Inv X pins σ H s) (g : DGe X.K H a y o) (ry : RelV y u) (h : ∀ w' s', Inv X pins σ H s' → RelV (o.getD .non) w' → Q w' s') :
    wpAny (model X.prog X.w) A (call (.builtin "dict.get") [.ref a, u]) Q E s := by
  rcases g with g | ⟨kvs, k, b, e, ey, eb, l⟩
  · exact d_get1 hu I g ry h
  · subst ey
    cases (show u = Value.ref b from ry)
    obtain ⟨z, hd, xs, rel, dd⟩ := dt_rd I.hok e
    refine call_meetsIn PySem.F.slot_dict_get dd.typeIs PySem.F.entry_dict_get (PySem.F.args_dict_get_2 _ _) (meetsH_dict_get (tupleKind (mixKind X.prog X.w)) a b hd) ⟨tupleKind_room_in1 hu, k, xs, key_ofT I eb, dd, h _ _ (I.tok _) ?_⟩
    rw [l]
    exact (rel.val k).getD rfl
theorem e_get2 {d : V} {r : Value} {Q : Value → Shared → Prop} (hu : A.units + 1 < cLine) (I : Inv X pins σ H s) (g : DGe X.K H a y o) (ry : RelV y u) (rd : RelV d r) (h : ∀ w' s', Inv X pins σ H s' → RelV (o.getD d) w' → Q w' s') :
    wpAny (model X.prog X.w) A (call (.builtin "dict.get") [.ref a, u, r]) Q E s := by
  rcases g with g | ⟨kvs, k, b, e, ey, eb, l⟩
  · exact d_get2 hu I g ry rd h
  · subst ey
    cases (show u = Value.ref b from ry)
    obtain ⟨z, hd, xs, rel, dd⟩ := dt_rd I.hok e
    refine call_meetsIn PySem.F.slot_dict_get dd.typeIs PySem.F.entry_dict_get (PySem.F.args_dict_get_3 _ _ _) (meetsH_dict_get_default (tupleKind (mixKind X.prog X.w)) a b hd r) ⟨tupleKind_room_in1 hu, k, xs, key_ofT I eb, dd, h _ _ (I.tok _) ?_⟩
    rw [l]
    exact (rel.val k).getD rd
end

section
variable {X : Cx}
def rFalse : R2 := fun _ _ _ _ => False
theorem op_false {f : Value → Value → Sem Value} : OpR X f rFalse := fun _ _ _ _ _ _ _ _ _ _ _ _ h => h.elim
def rEqP (K : PySem.W.Frag) : R2 := fun x y H Q => ∃ d e, Dp K H x d ∧ Dp K H y e ∧ d.canLay0 = true ∧ e.canLay0 = true ∧ min d.depth e.depth ≤ 60 ∧ Q (.bl (PyData.eqv d e)) H
def rNeP (K : PySem.W.Frag) : R2 := fun x y H Q => ∃ d e, Dp K H x d ∧ Dp K H y e ∧ d.canLay0 = true ∧ e.canLay0 = true ∧ min d.depth e.depth ≤ 60 ∧ Q (.bl (!PyData.eqv d e)) H
theorem op_eqP (hu : X.A.units + 64 < cLine) : OpR X (compareOp .Eq) (rEqP X.K) := by
  intro pins s σ H x y v u Q I rx ry h
  obtain ⟨d, e, hd, he, sd, se, m, q⟩ := h
  obtain ⟨as, r1⟩ := Dp.reads I d x v hd rx
  obtain ⟨bs, r2⟩ := Dp.reads I e y u he ry
  exact SeqAt.compareEq_reads r1 r2 sd se (by omega) ⟨.bl _, H, I, rfl, q⟩
theorem op_neP (hu : X.A.units + 64 < cLine) : OpR X (compareOp .NotEq) (rNeP X.K) := by
  intro pins s σ H x y v u Q I rx ry h
  obtain ⟨d, e, hd, he, sd, se, m, q⟩ := h
  obtain ⟨as, r1⟩ := Dp.reads I d x v hd rx
  obtain ⟨bs, r2⟩ := Dp.reads I e y u he ry
  exact SeqAt.compareNe_reads r1 r2 sd se (by omega) ⟨.bl _, H, I, rfl, q⟩
def rDin (K : PySem.W.Frag) (neg : Bool) : R2 := fun y x H Q => ∃ a o, x = .ref a ∧ DGe K H a y o ∧ Q (.bl (if neg then !o.isSome else o.isSome)) H
def rInE (K : PySem.W.Frag) (neg : Bool) : R2 := fun x y H Q => ∃ d ds, Dp K H x d ∧ Dp K H y (.list ds) ∧ d.canLay0 = true ∧ (PyData.list ds).canLay0 = true ∧ d.depth ≤ 30 ∧ Q (.bl (if neg then !ds.any fun z => PyData.eqv z d else ds.any fun z => PyData.eqv z d)) H
theorem op_inE (hu : X.A.units + 64 < cLine) : OpR X (compareOp .In) (rInE X.K false) := by
  intro pins s σ H x y v u Q I rx ry h
  obtain ⟨d, ds, hd, he, sd, se, dp, q⟩ := h
  obtain ⟨as, r1⟩ := Dp.reads I d x v hd rx
  obtain ⟨bs, r2⟩ := Dp.reads I (.list ds) y u he ry
  exact SeqAt.in_list_reads r2 r1 se sd (by omega) ⟨.bl _, H, I, rfl, q⟩
theorem op_notInE (hu : X.A.units + 64 < cLine) : OpR X (compareOp .NotIn) (rInE X.K true) := by
  intro pins s σ H x y v u Q I rx ry h
  obtain ⟨d, ds, hd, he, sd, se, dp, q⟩ := h
  obtain ⟨as, r1⟩ := Dp.reads I d x v hd rx
  obtain ⟨bs, r2⟩ := Dp.reads I (.list ds) y u he ry
  exact SeqAt.notIn_list_reads r2 r1 se sd (by omega) ⟨.bl _, H, I, rfl, q⟩
theorem any_toP (d : D) (hd : d.pln = true) : ∀ ds : List D, D.plns ds = true → ((D.toPs ds).any fun z => PyData.eqv z d.toP) = ds.any fun z => D.eqb z d
  | [], _ => rfl
  | e :: ds, h => by
    rw [D.plns, Bool.and_eq_true] at h
    rw [D.toPs, List.any_cons, List.any_cons, toP_eqv e d h.1 hd, any_toP d hd ds h.2]
theorem op_din (hu : X.A.units + 64 < cLine) : OpR X (compareOp .In) (rDin X.K false) := by
  intro pins s σ H y x u v Q I ry rx h
  obtain ⟨a, o, rfl, g, q⟩ := h
  cases rx
  exact e_in (by omega) I g ry fun s' I' => ⟨.bl _, H, I', rfl, q⟩
theorem op_din2 (hu : X.A.units + 64 < cLine) : OpR X (compareOp .NotIn) (rDin X.K true) := by
  intro pins s σ H y x u v Q I ry rx h
  obtain ⟨a, o, rfl, g, q⟩ := h
  cases rx
  exact e_notIn (by omega) I g ry fun s' I' => ⟨.bl _, H, I', rfl, q⟩
def CmpOk (X : Cx) (op : CmpOp) : Prop :=
  ∃ r : R2, OpR X (compareOp op) r ∧ ∀ (Z : Addr → Prop) (H : Hp) (x y : V) (dx dy : D) (Kp : Bool → Prop) (Q : VK), RepT X.K Z H x dx → RepT X.K Z H y dy → dCmp op dx dy Kp →
    (∀ b, Kp b → Q (.bl b) H) → r x y H Q
theorem min_le60 {d e : D} (h : D.shp2 d e) : min d.toP.depth e.toP.depth ≤ 60 := by
  obtain ⟨h1, h2, h⟩ := h
  rw [toP_dep d h1, toP_dep e h2]
  omega
theorem is_non {K : PySem.W.Frag} {Z : Addr → Prop} {H : Hp} {x : V} {dx : D} (h : RepT K Z H x dx) : decide (x = .non) = dx.isN := by
  cases dx with
  | non => cases h.non; rfl
  | bl b => cases h.bl; rfl
  | int i => cases h.int; rfl
  | str x => cases h.str; rfl
  | tup ds => obtain ⟨a, _, rfl, _⟩ := h.tup; rfl
  | lst ds => obtain ⟨a, _, rfl, _⟩ := h.lst; rfl
  | scr ds => obtain ⟨a, _, rfl, _⟩ := h.scr; rfl
  | dct ds => obtain ⟨a, _, rfl, _⟩ := h.dct; rfl
  | dtt ds => obtain ⟨a, _, rfl, _⟩ := h.dtt; rfl
  | ptp ds => obtain ⟨a, _, rfl, _⟩ := h.ptp; rfl
/-- in, by what it is asked of -/
theorem in_ok {K : PySem.W.Frag} {Z : Addr → Prop} {H : Hp} {x y : V} {dx dy : D} {Kp : Bool → Prop} {Q : VK} (neg : Bool) (hx : RepT K Z H x dx) (hy : RepT K Z H y dy) (hd : dIn dx dy Kp) (q : ∀ b, Kp b → Q (.bl (if neg then !b else b)) H)
    :
    (∃ i j, x = .str i ∧ y = .str j ∧ Q (.bl (if neg then !(!(Builtin.Str.occurrences j i 0 j.length 1).isEmpty) else !(Builtin.Str.occurrences j i 0 j.length 1).isEmpty)) H) ∨ rIn K neg x y H Q ∨ rDin K neg x y H Q ∨ rInE K neg x y H Q := by
  have seq : ∀ ds : List D, (dx.flat = true ∧ ds.all D.flat = true) → Kp (ds.any fun y => D.eqb y dx) → ∀ p vs, (SqL K H p vs ∨ SqT K H p vs) → Reps K Z H vs ds → y = .ref p → rIn K neg x y H Q := fun ds f k p vs hs r e => by
    obtain ⟨fx, rx⟩ := hx.flat f.1
    refine ⟨p, vs, e, hs, fx, r.flats f.2, ?_⟩
    have := q _ k
    rw [r.inV rx f.1 f.2]
    cases neg <;> exact this
  have hy0 := hy
  cases dy with
  | str j =>
    cases dx <;> try exact hd.elim
    cases hx.str; cases hy.str
    refine .inl ⟨_, _, rfl, rfl, ?_⟩
    have := q _ hd
    cases neg <;> exact this
  | lst ds =>
    obtain ⟨a, vs, rfl, h, r⟩ := hy.lst
    have hd' : ((dx.flat = true ∧ ds.all D.flat = true) ∨ (dx.pln = true ∧ D.plns ds = true ∧ dx.dep ≤ 30)) ∧ Kp (ds.any fun y => D.eqb y dx) := by cases dx <;> exact hd
    rcases hd'.1 with f | ⟨p1, p2, p3⟩
    · exact .inr (.inl (seq ds f hd'.2 a vs (.inl (SqL.of h)) r rfl))
    · have pl : (D.lst ds).pln = true := p2
      refine .inr (.inr (.inr ⟨dx.toP, D.toPs ds, hx.dp p1, hy0.dp pl, toP_lay _ p1, toP_lay _ pl, by rw [toP_dep dx p1]; exact p3, ?_⟩))
      rw [any_toP dx p1 ds p2]
      have := q _ hd'.2
      cases neg <;> exact this
  | tup ds =>
    obtain ⟨a, vs, rfl, h, r⟩ := hy.tup
    have hd' : (dx.flat = true ∧ ds.all D.flat = true) ∧ Kp (ds.any fun y => D.eqb y dx) := by cases dx <;> exact hd
    exact .inr (.inl (seq ds hd'.1 hd'.2 a vs (.inr h.sq) r rfl))
  | dct kvs =>
    obtain ⟨a, vs, rfl, h, r⟩ := hy.dct
    have hd' : ∃ k, keyD dx = some k ∧ Kp (dval kvs k).isSome := by cases dx <;> exact hd
    obtain ⟨k, ek, hk⟩ := hd'
    have := q _ hk
    rw [hx.key ek]
    rcases r.dget (k := k) h with ⟨e1, g⟩ | ⟨v, d, e1, g, _⟩
    · rw [e1] at this
      exact .inr (.inr (.inl ⟨a, _, rfl, .inl g, by cases neg <;> exact this⟩))
    · rw [e1] at this
      exact .inr (.inr (.inl ⟨a, _, rfl, .inl g, by cases neg <;> exact this⟩))
  | dtt kvs =>
    obtain ⟨a, ws, rfl, h, r⟩ := hy.dtt
    cases dx <;> try exact hd.elim
    obtain ⟨b, vs, rfl, ht, rv⟩ := hx.tup
    obtain ⟨k, ek, hk⟩ := hd
    have := q _ hk
    rcases r.dget h ht.sq (rv.keys ek) with ⟨e1, g⟩ | ⟨v, d, e1, g, _⟩
    · rw [e1] at this
      exact .inr (.inr (.inl ⟨a, _, rfl, g, by cases neg <;> exact this⟩))
    · rw [e1] at this
      exact .inr (.inr (.inl ⟨a, _, rfl, g, by cases neg <;> exact this⟩))
  | _ => cases dx <;> exact hd.elim
/-- dicts, whatever their order, with flat parts -/
def rDD (k : Bool) : R2 := fun x y H Q => ∃ a b ks ls, x = .ref a ∧ y = .ref b ∧ Rd H a (.dK ks) ∧ Rd H b (.dK ls) ∧ ks.length = ls.length ∧ (∀ p ∈ ks, valV ls p.1 = some p.2 ∧ flatB p.2 = true) ∧ Q (.bl k) H
theorem op_eqDD (hu : X.A.units + 64 < cLine) : OpR X (compareOp .Eq) (rDD true) := by
  rintro pins s σ H _ _ v u Q I rx ry ⟨a, b, ks, ls, rfl, rfl, ea, eb, hlen, hp, q⟩
  cases rx
  cases ry
  obtain ⟨_, ya, va, ra, da⟩ := ea.ok I.hok
  obtain ⟨_, yb, vb, rb, db⟩ := eb.ok I.hok
  refine PySem.W.keq_eq (knd := mixKind X.prog X.w) (r := true) ya yb da db (by omega) (fun _ => hits_all rb ra hp) (fin_bl I q ?_)
  have := ra.length
  have := rb.length
  simp; omega
theorem op_neDD (hu : X.A.units + 64 < cLine) : OpR X (compareOp .NotEq) (rDD false) := by
  rintro pins s σ H _ _ v u Q I rx ry ⟨a, b, ks, ls, rfl, rfl, ea, eb, hlen, hp, q⟩
  cases rx
  cases ry
  obtain ⟨_, ya, va, ra, da⟩ := ea.ok I.hok
  obtain ⟨_, yb, vb, rb, db⟩ := eb.ok I.hok
  refine PySem.W.keq_ne (knd := mixKind X.prog X.w) (r := true) ya yb da db (by omega) (fun _ => hits_all rb ra hp) (fin_bl I q ?_)
  have := ra.length
  have := rb.length
  simp; omega
theorem RepKs.mem {K : PySem.W.Frag} {Z : Addr → Prop} {H : Hp} : ∀ {ks : List (Key × V)} {kd : List (Key × D)}, RepKs K Z H ks kd → ∀ p ∈ ks, ∃ d, (p.1, d) ∈ kd ∧ Rep K Z H p.2 d
  | _, _, .nil, p, h => nomatch h
  | _, _, .cons h r, p, hp => by
    rcases List.mem_cons.mp hp with rfl | hp
    · exact ⟨_, List.mem_cons_self, h⟩
    · obtain ⟨d, m, e⟩ := r.mem p hp
      exact ⟨d, List.mem_cons_of_mem _ m, e⟩
theorem Rep.flat_eq {K : PySem.W.Frag} {Z : Addr → Prop} {H : Hp} {v w : V} {d : D} (h : Rep K Z H v d) (g : Rep K Z H w d) (f : d.flat = true) : v = w ∧ flatB v = true := by
  cases h <;> cases g <;> first | exact ⟨rfl, rfl⟩ | simp [D.flat] at f
theorem dd_ok {K : PySem.W.Frag} {Z : Addr → Prop} {H : Hp} {x y : V} {a b : List (Key × D)} {k : Bool} {Q : VK} (hx : RepT K Z H x (.dct a)) (hy : RepT K Z H y (.dct b)) (h : a.length = b.length ∧ ∀ p ∈ a, dval b p.1 = some p.2 ∧ p.2.flat = true) (q : Q (.bl k) H) : rDD k x y H Q := by
  obtain ⟨p, ks, rfl, h1, r1⟩ := hx.dct
  obtain ⟨p2, ls, rfl, h2, r2⟩ := hy.dct
  refine ⟨p, p2, ks, ls, rfl, rfl, h1, h2, by rw [r1.length, r2.length]; exact h.1, fun z hz => ?_, q⟩
  obtain ⟨d, m, e⟩ := r1.mem z hz
  obtain ⟨g1, g2⟩ := h.2 _ m
  rcases RepKs.val z.1 r2 with ⟨_, n⟩ | ⟨v, d', e1, e2, e3⟩
  · unfold dval at g1
    rw [n] at g1; cases g1
  · have g1 : dval b z.1 = some d := g1
    unfold dval at g1
    rw [e2] at g1
    cases g1
    obtain ⟨e4, f⟩ := e.flat_eq e3 g2
    exact ⟨by rw [e1, e4], f⟩
theorem cmp_ok (hu : X.A.units + 64 < cLine) (op : CmpOp) : CmpOk X op := by
  cases op with
  | Eq =>
    refine ⟨_, op_eq.or ((op_eqDD hu).or (op_eqP hu)), fun Z H x y dx dy Kp Q hx hy hd q => ?_⟩
    have gen : D.shp2 dx dy ∧ Kp (D.eqb dx dy) → (rEqP X.K) x y H Q := fun hd' => ⟨_, _, hx.dp hd'.1.1, hy.dp hd'.1.2.1, toP_lay _ hd'.1.1, toP_lay _ hd'.1.2.1, min_le60 hd'.1, q _ (by rw [toP_eqv _ _ hd'.1.1 hd'.1.2.1]; exact hd'.2)⟩
    cases dx
    case str i =>
      cases dy
      case str j => cases hx.str; cases hy.str; exact .inl ⟨rfl, q _ (by rw [dec_str]; exact hd)⟩
      all_goals exact .inr (.inr (gen hd))
    case dct a =>
      cases dy
      case dct b => exact .inr (.inl (dd_ok hx hy hd.1 (q _ hd.2)))
      all_goals exact .inr (.inr (gen hd))
    all_goals (refine .inr (.inr (gen ?_)); cases dy <;> exact hd)
  | NotEq =>
    refine ⟨_, op_ne.or ((op_neDD hu).or (op_neP hu)), fun Z H x y dx dy Kp Q hx hy hd q => ?_⟩
    have gen : D.shp2 dx dy ∧ Kp (!D.eqb dx dy) → (rNeP X.K) x y H Q := fun hd' => ⟨_, _, hx.dp hd'.1.1, hy.dp hd'.1.2.1, toP_lay _ hd'.1.1, toP_lay _ hd'.1.2.1, min_le60 hd'.1, q _ (by rw [toP_eqv _ _ hd'.1.1 hd'.1.2.1]; exact hd'.2)⟩
    cases dx
    case str i =>
      cases dy
      case str j => cases hx.str; cases hy.str; exact .inl ⟨rfl, q _ (by rw [dec_str]; exact hd)⟩
      all_goals exact .inr (.inr (gen hd))
    case dct a =>
      cases dy
      case dct b => exact .inr (.inl (dd_ok hx hy hd.1 (q _ hd.2)))
      all_goals exact .inr (.inr (gen hd))
    all_goals (refine .inr (.inr (gen ?_)); cases dy <;> exact hd)
  | Lt =>
    refine ⟨_, op_lt.or op_lt_str, fun Z H x y dx dy Kp Q hx hy hd q => ?_⟩
    cases dx <;> cases dy <;> try exact hd.elim
    · cases hx.int; cases hy.int; exact .inl ⟨_, _, rfl, rfl, q _ hd⟩
    · cases hx.str; cases hy.str; exact .inr ⟨_, _, rfl, rfl, q _ hd⟩
  | LtE =>
    refine ⟨_, op_le.or op_le_str, fun Z H x y dx dy Kp Q hx hy hd q => ?_⟩
    cases dx <;> cases dy <;> try exact hd.elim
    · cases hx.int; cases hy.int; exact .inl ⟨_, _, rfl, rfl, q _ hd⟩
    · cases hx.str; cases hy.str; exact .inr ⟨_, _, rfl, rfl, q _ hd⟩
  | Gt =>
    refine ⟨_, op_gt.or op_gt_str, fun Z H x y dx dy Kp Q hx hy hd q => ?_⟩
    cases dx <;> cases dy <;> try exact hd.elim
    · cases hx.int; cases hy.int; exact .inl ⟨_, _, rfl, rfl, q _ hd⟩
    · cases hx.str; cases hy.str; exact .inr ⟨_, _, rfl, rfl, q _ hd⟩
  | GtE =>
    refine ⟨_, op_ge.or op_ge_str, fun Z H x y dx dy Kp Q hx hy hd q => ?_⟩
    cases dx <;> cases dy <;> try exact hd.elim
    · cases hx.int; cases hy.int; exact .inl ⟨_, _, rfl, rfl, q _ hd⟩
    · cases hx.str; cases hy.str; exact .inr ⟨_, _, rfl, rfl, q _ hd⟩
  | Is =>
    refine ⟨_, op_isBl.or op_isN, fun Z H x y dx dy Kp Q hx hy hd q => ?_⟩
    cases dy with
    | bl b =>
      cases dx <;> try exact hd.elim
      cases hx.bl; cases hy.bl
      exact .inl ⟨_, _, rfl, rfl, q _ (by rw [← Bool.beq_eq_decide_eq]; exact hd)⟩
    | non =>
      have hd' : Kp dx.isN := by cases dx <;> exact hd
      exact .inr ⟨hy.non, q _ (by rw [is_non hx]; exact hd')⟩
    | _ => cases dx <;> exact hd.elim
  | IsNot =>
    refine ⟨_, op_notBl.or op_notN, fun Z H x y dx dy Kp Q hx hy hd q => ?_⟩
    cases dy with
    | bl b =>
      cases dx <;> try exact hd.elim
      cases hx.bl; cases hy.bl
      exact .inl ⟨_, _, rfl, rfl, q _ (by rw [← Bool.beq_eq_decide_eq]; exact hd)⟩
    | non =>
      have hd' : Kp (!dx.isN) := by cases dx <;> exact hd
      exact .inr ⟨hy.non, q _ (by rw [is_non hx]; exact hd')⟩
    | _ => cases dx <;> exact hd.elim
  | In =>
    refine ⟨_, op_in_str.or (op_in_seq.or ((op_din hu).or (op_inE hu))), fun Z H x y dx dy Kp Q hx hy hd q => ?_⟩
    have hd' : dIn dx dy Kp := by cases dx <;> cases dy <;> exact hd
    exact in_ok false hx hy hd' q
  | NotIn =>
    refine ⟨_, op_notin_str.or (op_notIn_seq.or ((op_din2 hu).or (op_notInE hu))), fun Z H x y dx dy Kp Q hx hy hd q => ?_⟩
    have hd' : dIn dx dy fun b => Kp (!b) := by cases dx <;> cases dy <;> exact hd
    exact in_ok (Kp := fun b => Kp (!b)) true hx hy hd' fun b k => q _ k
theorem tru_of {Z : Addr → Prop} {H : Hp} {x : V} {d : D} {k : Bool} (h : RepT X.K Z H x d) (e : dTru d = some k) : TruV X.K x H k := by
  cases d with
  | non => cases h.non; cases e; rfl
  | bl b => cases h.bl; cases e; rfl
  | int i => cases h.int; cases e; rfl
  | str z =>
    cases h.str
    simp only [dTru] at e
    split at e
    · cases e; exact ⟨by assumption, rfl⟩
    · cases e
  | tup ds =>
    obtain ⟨a, vs, rfl, ht, r⟩ := h.tup
    cases e
    exact .inr (.inl ⟨vs, ht.sq, by cases r <;> rfl⟩)
  | lst ds =>
    obtain ⟨a, vs, rfl, ht, r⟩ := h.lst
    cases e
    exact .inl ⟨vs, SqL.of ht, by cases r <;> rfl⟩
  | scr ds =>
    obtain ⟨a, vs, rfl, ht, r⟩ := h.scr
    cases e
    exact .inl ⟨vs, ht, by cases r <;> rfl⟩
  | dct kvs => cases e
  | dtt kvs => cases e
  | ptp kvs => cases e
def rDix (K : PySem.W.Frag) : R2 := fun x y H Q => ∃ a v, x = .ref a ∧ DGe K H a y (some v) ∧ Q v H
theorem dge_typeIs {pins : List (Addr × Obj)} {σ : L2.St} {H : Hp} {s : Shared} {a : Addr} {y : V} {o : Option V} (I : Inv X pins σ H s) (g : DGe X.K H a y o) : s.TypeIs (.ref a) "dict" := by
  rcases g with g | ⟨kvs, k, b, e, _, _, _⟩
  · exact dict_typeIs I g
  · obtain ⟨_, _, xs, _, dd⟩ := dt_rd I.hok e
    exact dd.typeIs
theorem ix_dict (hu : X.A.units + 64 < cLine) : IxR X (rDix X.K) := by
  intro value slice pins s σ H x y v u Q I rx ry h hs
  obtain ⟨a, w, rfl, g, q⟩ := h
  cases rx
  have hT := dge_typeIs I g
  unfold subscriptTail
  refine wpAny_bind ?_
  rw [getitemInPython_of_ne hT.not_modules]
  refine wpAny_bind (wpAny_specialOf hT PySem.F.slot_dict_getitem.lookup ?_)
  have fin : wpAny (model X.prog X.w) X.A (subscripted slice false (Value.ref a) u) (fun r s₃ => wpAny (model X.prog X.w) X.A (letTemporaryGo value (Value.ref a) r >>= fun _ => pure r) (EP X pins σ Q) X.xe s₃) X.xe s := by
    rw [hs]
    exact wpAny_operating (e_getItem (by omega) I g ry fun w' s3 I3 rw' => wpAny_bind (wpAny_letTemporaryGo (wpAny_pure ⟨w, H, I3, rw', q⟩)))
  first
    | exact wpAny_pure (wpAny_bind fin)
    | exact wpAny_bind (wpAny_pure (wpAny_bind fin))
    | exact wpAny_bind fin
theorem ix_ok (hu : X.A.units + 64 < cLine) : ∃ r : R2, IxR X r ∧ ∀ (Z : Addr → Prop) (H : Hp) (x y : V) (dx dy : D) (Kp : D → Prop) (Q : VK), RepT X.K Z H x dx → RepT X.K Z H y dy → dIdx dx dy Kp →
    (∀ d v, Kp d → Rep X.K Z H v d → Q v H) → r x y H Q := by
  refine ⟨_, ix_list.or (ix_tup.or (ix_str.or (ix_dict hu))), fun Z H x y dx dy Kp Q hx hy hd q => ?_⟩
  cases dx with
  | lst ds =>
    cases dy <;> try exact hd.elim
    obtain ⟨a, vs, rfl, h, r⟩ := hx.lst
    cases hy.int
    obtain ⟨d, e, k⟩ := hd
    obtain ⟨v, e2, r2⟩ := r.atI e
    exact .inl ⟨a, vs, _, v, rfl, rfl, SqL.of h, e2, q d v k r2⟩
  | tup ds =>
    cases dy <;> try exact hd.elim
    obtain ⟨a, vs, rfl, h, r⟩ := hx.tup
    cases hy.int
    obtain ⟨d, e, k⟩ := hd
    obtain ⟨v, e2, r2⟩ := r.atI e
    exact .inr (.inl ⟨a, vs, _, v, rfl, rfl, h.sq, e2, q d v k r2⟩)
  | scr ds =>
    cases dy <;> try exact hd.elim
    obtain ⟨a, vs, rfl, h, r⟩ := hx.scr
    cases hy.int
    obtain ⟨d, e, k⟩ := hd
    obtain ⟨v, e2, r2⟩ := r.atI e
    exact .inl ⟨a, vs, _, v, rfl, rfl, h, e2, q d v k r2⟩
  | str z =>
    cases dy <;> try exact hd.elim
    cases hx.str; cases hy.int
    obtain ⟨hz, c, e, k⟩ := hd
    exact .inr (.inr (.inl ⟨z, _, c, rfl, rfl, hz, e, q _ _ k (.str _)⟩))
  | dct kvs =>
    obtain ⟨a, vs, rfl, h, r⟩ := hx.dct
    have hd' : ∃ k, keyD dy = some k ∧ ∃ d, dval kvs k = some d ∧ Kp d := by cases dy <;> exact hd
    obtain ⟨k, ek, d, ed, kd⟩ := hd'
    rw [hy.key ek]
    rcases r.dget (k := k) h with ⟨e1, g⟩ | ⟨v, d', e1, g, rr⟩
    · rw [e1] at ed; cases ed
    · rw [e1] at ed; cases ed
      exact .inr (.inr (.inr ⟨a, v, rfl, .inl g, q _ _ kd rr⟩))
  | dtt kvs =>
    cases dy <;> try exact hd.elim
    obtain ⟨a, ws, rfl, h, r⟩ := hx.dtt
    obtain ⟨b, vs, rfl, ht, rv⟩ := hy.tup
    obtain ⟨k, ek, d, ed, kd⟩ := hd
    rcases r.dget h ht.sq (rv.keys ek) with ⟨e1, g⟩ | ⟨v, d', e1, g, rr⟩
    · rw [e1] at ed; cases ed
    · rw [e1] at ed; cases ed
      exact .inr (.inr (.inr ⟨a, v, rfl, g, q _ _ kd rr⟩))
  | _ => cases dy <;> exact hd.elim
theorem Reps.cut {K : PySem.W.Frag} {Z : Addr → Prop} {H : Hp} {vs : List V} {ds : List D} (r : Reps K Z H vs ds) (lo hi : Option Int) : Reps K Z H (cutV vs lo hi) (cutD ds lo hi) := by
  unfold cutV cutD
  rw [r.length]
  exact (r.drop _).take _
theorem slc_ok : ∃ r : V → Option Int → Option Int → Hp → VK → Prop, SlR X r ∧ ∀ (Z : Addr → Prop) (H : Hp) (x : V) (lo hi : Option Int) (dx : D) (Kp : Rv → Prop) (Q : VK), RepT X.K Z H x dx → dSlc dx lo hi Kp →
    (∀ z v H', Kp z → Out X.K Z H z v H' → Q v H') → r x lo hi H Q := by
  refine ⟨_, sl_list.or (sl_tupA.or sl_str), fun Z H x lo hi dx Kp Q hx hd q => ?_⟩
  cases dx with
  | lst ds =>
    obtain ⟨a, vs, rfl, h, r⟩ := hx.lst
    exact .inl ⟨a, vs, rfl, SqL.of h, fun p hp => q _ _ _ hd (.lst hp (r.cut lo hi))⟩
  | tup ds =>
    obtain ⟨a, vs, rfl, h, r⟩ := hx.tup
    refine .inr (.inl ⟨a, vs, rfl, h.sq, fun e => q _ _ _ hd (.same ?_), fun _ p hp => q _ _ _ hd (.tup hp (r.cut lo hi))⟩)
    have : cutD ds lo hi = ds := by
      unfold cutD
      rw [← r.length, e.1, e.2, List.drop_zero, Nat.sub_zero, r.length, List.take_length]
    rw [this]
    exact .tup h r
  | str z =>
    cases hx.str
    refine .inr (.inr ⟨z, rfl, hd.1, q _ _ _ hd.2 (.same ?_)⟩)
    have : cutS z lo hi = ⟨(cutD z.cps.toList lo hi).toArray⟩ := by
      unfold cutS cutD
      rw [Array.length_toList]; rfl
    rw [this]
    exact .str _
  | _ => exact hd.elim
end
end TG
end
section
namespace TG
open PySem PySem.Spec PyProof.Rows L2

/-- one item as the sort sees it -/
def kyV : V → Int ⊕ List Nat
  | .int i => .inl i
  | .str x => .inr x.cps.toList
  | _ => .inl 0
/-- the kinds of the items: a text where shape says so, an int elsewhere -/
def shV (shape : Nat → Bool) : Nat → List V → Bool
  | _, [] => true
  | i, .int _ :: r => !shape i && shV shape (i + 1) r
  | i, .str _ :: r => shape i && shV shape (i + 1) r
  | _, _ => false
theorem rowLt_eq : ∀ x y : List (Int ⊕ List Nat), PyProof.Rows.lexLt PyProof.Rows.itemOrd x y = rowLt x y
  | [], [] => rfl
  | [], _ :: _ => rfl
  | _ :: _, [] => rfl
  | x :: r, y :: t => by
    have ih := rowLt_eq r t
    have e : ∀ a b, PyProof.Rows.itemLt a b = itLt a b := fun a b => by cases a <;> cases b <;> rfl
    show (PyProof.Rows.itemLt x y || (!PyProof.Rows.itemLt y x && PyProof.Rows.lexLt PyProof.Rows.itemOrd r t)) = _
    rw [ih, e, e]
    rfl
theorem shV_items {shape : Nat → Bool} : ∀ {vs : List V} {us : List Value} {i : Nat}, Vals vs us → shV shape i vs = true → PyProof.Rows.tupItems shape i us = some (vs.map kyV)
  | _, _, _, .nil, _ => rfl
  | _, _, i, .cons (a := x) r t, h => by
    cases x <;> simp only [shV] at h <;> try cases h
    · rw [Bool.and_eq_true] at h
      obtain ⟨k, rfl⟩ := r
      have h1 : shape i = false := by simpa using h.1
      show (if shape i = true then none else (PyProof.Rows.tupItems shape (i + 1) _).map _) = _
      rw [h1, if_neg Bool.false_ne_true, shV_items t h.2]
      rfl
    · rw [Bool.and_eq_true] at h
      obtain ⟨k, rfl⟩ := r
      show (if shape i = true then (PyProof.Rows.tupItems shape (i + 1) _).map _ else none) = _
      rw [if_pos h.1, shV_items t h.2]
      rfl
section
variable {X : Cx}
def rSortR (K : PySem.W.Frag) : List V → Hp → VK → Prop := fun vs H Q => ∃ (a : Addr) (zs : List (V × List V)) (shape : Nat → Bool), vs = [V.ref a] ∧ SqL K H a (zs.map Prod.fst) ∧
  (∀ z ∈ zs, ∃ t, z.1 = V.ref t ∧ SqT K H t z.2 ∧ z.2 ≠ [] ∧ shV shape 0 z.2 = true) ∧
  ∀ (zs' : List (V × List V)) (p : Addr), zs'.Perm zs → zs'.Pairwise (fun x y => rowLt (y.2.map kyV) (x.2.map kyV) = false) → H p = none → Q (.ref p) (upd H p (.lst (zs'.map Prod.fst)))
theorem cr_sortR : CallR X (.builtin "sorted") (rSortR X.K) := by
  intro pins s σ H vs us Q I r h
  obtain ⟨a, zs, shape, rfl, hs, hz0, q0⟩ := h
  obtain ⟨rw0, hrw⟩ : ∃ f : V → List V, ∀ (t : Addr) (ws : List V), SqT X.K H t ws → f (.ref t) = ws := by
    refine ⟨fun v => open Classical in if h : ∃ (t : Addr) (ws : List V), v = V.ref t ∧ SqT X.K H t ws then Classical.choose (Classical.choose_spec h) else [], fun t ws h => ?_⟩
    have ex : ∃ (t' : Addr) (ws : List V), V.ref t = V.ref t' ∧ SqT X.K H t' ws := ⟨t, ws, rfl, h⟩
    simp only
    rw [dif_pos ex]
    obtain ⟨e, h'⟩ := Classical.choose_spec (Classical.choose_spec ex)
    have key : ∀ (t' : Addr) (ws' : List V), V.ref t = V.ref t' → SqT X.K H t' ws' → ws' = ws := fun t' ws' e h' => by
      injection e with e
      subst e
      exact I.tuple_inj h' h
    exact key _ _ e h'
  have hzs : zs = (zs.map Prod.fst).map fun x => (x, rw0 x) := by
    rw [List.map_map]
    refine (List.map_id' zs).symm.trans (List.map_congr_left fun z hz => ?_)
    obtain ⟨t, e, hS, _⟩ := hz0 z hz
    show z = (z.1, rw0 z.1)
    rw [e, hrw t _ hS, ← e]
  have hx : ∀ x ∈ zs.map Prod.fst, ∃ t, x = V.ref t ∧ SqT X.K H t (rw0 x) ∧ rw0 x ≠ [] ∧ shV shape 0 (rw0 x) = true := fun x hx => by
    obtain ⟨z, hz, rfl⟩ := List.mem_map.mp hx
    obtain ⟨t, e, hS, h1, h2⟩ := hz0 z hz
    have er : rw0 z.1 = z.2 := by rw [e]; exact hrw t _ hS
    rw [er]
    exact ⟨t, e, hS, h1, h2⟩
  generalize hxs : zs.map Prod.fst = xs at hs hx hzs
  have q : ∀ (ys : List V) (p : Addr), ys.Perm xs → ys.Pairwise (fun x y => rowLt ((rw0 y).map kyV) ((rw0 x).map kyV) = false) → H p = none → Q (.ref p) (upd H p (.lst ys)) := fun ys p h1 h2 h3 => by
    have := q0 (ys.map fun x => (x, rw0 x)) p (by rw [hzs]; exact h1.map _) (List.pairwise_map.mpr h2) h3
    rw [List.map_map] at this
    have e : ys.map (Prod.fst ∘ fun x => (x, rw0 x)) = ys := List.map_id' ys
    rwa [e] at this
  obtain ⟨its, rv, hl, hz⟩ := I.list hs
  rw [Vals.ref1 r]
  obtain ⟨e1, e2⟩ := bkV_refs rv fun x m => by
    obtain ⟨t, e, _⟩ := hx x m
    exact ⟨t, e⟩
  -- each item, as it lies
  have look : ∀ v ∈ its, ∃ t o us n f, v = Value.ref t ∧ s.heap.get? t = some o ∧ o.cls = .type "tuple" ∧ o.data = .seq us.toArray n ∧ PyProof.Rows.tupItems shape 0 us = some ((rw0 (.ref t)).map kyV) ∧ us[0]? = some f ∧ (shape 0 = false → ∃ k t, f = .int k t) ∧ (shape 0 = true → ∃ x t, f = .str x t) := fun v hv => by
    obtain ⟨t, rfl⟩ := e2 v hv
    have hm : V.ref t ∈ xs := by
      rw [e1]
      exact List.mem_map.mpr ⟨_, hv, rfl⟩
    obtain ⟨t', e, ht, hne, hsh⟩ := hx _ hm
    cases e
    obtain ⟨us, r2, ⟨o, ho, hc, n, hd⟩, _⟩ := I.tuple ht
    cases hr : rw0 (.ref t) with
    | nil => exact (hne hr).elim
    | cons y ys =>
      rw [hr] at r2 hsh
      have ki := shV_items r2 hsh
      cases r2 with
      | @cons _ f _ us' rf rt =>
        refine ⟨t, o, f :: us', n, f, rfl, ho, hc, hd, by rw [hr]; exact ki, rfl, fun hb => ?_, fun hb => ?_⟩
        · cases y <;> simp only [shV, hb, Bool.and_eq_true] at hsh <;> first | cases hsh.1 | cases hsh | skip
          obtain ⟨k, rfl⟩ := rf
          exact ⟨_, _, rfl⟩
        · cases y <;> simp only [shV, hb, Bool.and_eq_true] at hsh <;> first | cases hsh.1 | cases hsh | skip
          obtain ⟨k, rfl⟩ := rf
          exact ⟨_, _, rfl⟩
  have key : ∀ v ∈ its, PyProof.Rows.G.tupKeyC s.heap shape v = some ((rw0 (bkV v)).map kyV) := fun v hv => by
    obtain ⟨t, o, us, n, f, rfl, ho, hc, hd, hi, _⟩ := look v hv
    unfold PyProof.Rows.G.tupKeyC PyProof.Rows.G.isTupObj PyProof.Rows.tupKey
    simp only [ho, hc, hd]
    rw [if_pos (by simp)]
    exact hi
  have tups : ∀ l : List Value, (∀ v ∈ l, v ∈ its) → ∃ fs, PyProof.Rows.TupsOf s.heap shape l fs := by
    intro l
    induction l with
    | nil => intro _; exact ⟨[], .nil⟩
    | cons v l ih =>
      intro hm
      obtain ⟨fs, hf⟩ := ih fun u hu => hm u (List.mem_cons_of_mem _ hu)
      obtain ⟨t, o, us, n, f, rfl, ho, hc, hd, hi, h0, h1, h2⟩ := look v (hm v List.mem_cons_self)
      exact ⟨f :: fs, .cons ⟨t, o, us.toArray, n, rfl, ho, hc, hd, by simpa using h0, h1, h2⟩ hf⟩
  obtain ⟨fs, hf⟩ := tups its fun _ h => h
  refine PyProof.Rows.G.sorted_tups (shape := shape) hl.isList hf (fun v hv => ⟨_, key v hv⟩) (by rw [← rv.length]; exact hz) fun st' a1 a2 a3 => ?_
  have hperm : (arrOf st').toList.Perm (its.zip its) := by
    have := a1.toList
    rwa [pairsOf_toList] at this
  have same : ∀ p ∈ (arrOf st').toList, p.1 = p.2 ∧ p.1 ∈ its := fun p hp => mem_zip_self (hperm.mem_iff.mp hp)
  generalize hout : ((arrOf st').map (·.2) : Array Value) = out
  have ho : out.toList = (arrOf st').toList.map (·.2) := by rw [← hout]; simp
  have h1 : out.toList.Perm its := by
    rw [ho]
    have z := hperm.map Prod.snd
    rw [List.map_snd_zip (Nat.le_refl _)] at z
    exact z
  obtain ⟨ep, he'⟩ := PyProof.Rows.sortedAll_at s.heap its out
  have h3 : ∀ u ∈ out.toList, ∃ a, u = Value.ref a := fun u hu => e2 u (h1.mem_iff.mp hu)
  have hp : (out.toList.map bkV).Perm xs := by
    rw [e1]
    exact h1.map bkV
  have hlen : (out.toList.map bkV).length ≤ sizeLine := by
    rw [hp.length_eq]
    exact hz
  refine ⟨.ref _, upd H (s.heap.objs.size + 1) (.lst (out.toList.map bkV)), I.laid (t' := s.toks) (fun _ _ => PyProof.Rows.sortedAll_old) (Nat.le_succ _) ⟨hlen, out.toList, ep, bkV_vals h3, he'⟩, rfl, q _ _ hp ?_ (I.hok.fresh (Nat.le_succ _))⟩
  rw [List.pairwise_map, ho, List.pairwise_map]
  rw [List.pairwise_iff_getElem]
  intro i j hi hj hij
  have hj' : j < (pairsOf its).size := by
    rw [pairsOf_size]
    have := hperm.length_eq
    simp at this hj ⊢
    omega
  have kk : ∀ m (hm : m < (arrOf st').toList.length), PyProof.Rows.KK (PyProof.Rows.G.tupKindC s.heap shape) (arrOf st') m = (rw0 (bkV (arrOf st').toList[m].2)).map kyV := fun m hm => by
    obtain ⟨s1, s2⟩ := same _ (List.getElem_mem hm)
    unfold PyProof.Rows.KK
    rw [show (arrOf st')[m]? = some (arrOf st').toList[m] by simp]
    show (PyProof.Rows.G.tupKeyC s.heap shape (arrOf st').toList[m].1).getD [] = _
    rw [key _ s2, ← s1]
    rfl
  have z : PyProof.Rows.lexLt PyProof.Rows.itemOrd (PyProof.Rows.KK (PyProof.Rows.G.tupKindC s.heap shape) (arrOf st') j) (PyProof.Rows.KK (PyProof.Rows.G.tupKindC s.heap shape) (arrOf st') i) = false := a2 i j (Nat.le_of_lt hij) hj'
  rw [kk i hi, kk j hj, rowLt_eq] at z
  exact z
end
end TG
end
section
namespace TG
open PySem PySem.Spec PyProof.Rows L2

/-- an entry's text -/
def sx (e : Int × Value) : Str := match e.2 with
  | .str x _ => x
  | _ => Str.empty
def OkX (w : World) (e : Int × Value) : Prop := ∃ (x : Str) (tk : Tok), e.2 = Value.str x tk ∧ e.1 = hashStr w x
/-- a table of texts: zs, each once -/
structure TabX (w : World) (es : Array (Int × Value)) (t : SetTable) (zs : List Str) : Prop where
  ok : ∀ e ∈ es.toList, OkX w e
  nd : (es.toList.map sx).Nodup
  mem : ∀ y, y ∈ zs ↔ y ∈ es.toList.map sx
  few : es.size ≤ zs.length
  fit : t.fits es.size = true
  ris : Ris t.place.toList
  led : w.params.followText "set-order" = true ∨ t.led = true
def SetX (w : World) (h : Heap) (a : Addr) (zs : List Str) : Prop :=
  ∃ (o : Obj) (es : Array (Int × Value)) (ep : Nat) (t : SetTable), h.get? a = some o ∧ o.ExactSet ∧ o.data = .set es ep t ∧ TabX w es t zs

section
variable {P : Program} {w : World}
theorem okx_elems {l : List (Int × Value)} (g : ∀ e ∈ l, OkX w e) : ElemsOf (PySem.strKind P w) l := fun e he => by
  obtain ⟨x, tk, e1, e2⟩ := g e he
  exact ⟨⟨x, by rw [e1]; exact strKind_is P w x tk, e2⟩, by rw [e1]; rfl⟩
theorem okx_is {e : Int × Value} (g : OkX w e) (x : Str) : (PySem.strKind P w).is x e.2 = true ↔ sx e = x := by
  obtain ⟨y, tk, e1, _⟩ := g
  constructor
  · intro h
    obtain ⟨u, hu⟩ := Value.isStrOf_shape h
    unfold sx
    rw [hu]
  · intro h
    have : y = x := by rw [← h]; unfold sx; rw [e1]
    rw [e1, this]
    exact strKind_is P w x tk
end
section
variable {P : Program} {w : World} {A : Around} {E : Value → Shared → Prop} {s : Shared} {a : Addr} {zs : List Str}
theorem putX {h : Heap} {o : Obj} {es es' : Array (Int × Value)} {ep : Nat} {t t' : SetTable} (ho : h.get? a = some o) (hd : o.data = .set es ep t) :
    (h.update a (Obj.putSet es' t')).get? a = some { o with data := .set es' (ep + 1) t' } := by
  have := Heap.get?_update_self (Obj.putSet es' t') ho (by rw [putSet_of es' t' hd]; rfl)
  rwa [putSet_of es' t' hd] at this

/-- the store, and a new layout where the table is full -/
theorem tailX {g : Bool → Sem Unit} (hg : ∀ (b : Bool) (s₁ : Shared) (K : Unit → Shared → Prop), K () s₁ → wpAny (model P w) A (g b) K E s₁)
    {o : Obj} {es es1 : Array (Int × Value)} {ep : Nat} {t t2 : SetTable} {ys : List Str} (ho : s.heap.get? a = some o) (hex : o.ExactSet) (hd : o.data = .set es ep t)
    (T : TabX w es1 t2 ys) (few : ys.length < scanBound) {wd : Bool} {R : Option Bool → Shared → Prop} (hR : ∀ h', Heap.SameBut a s.heap h' → SetX w h' a ys → R (some true) { s with heap := h' }) :
    wpAny (model P w) A (storeSet a es1 t2 >>= fun _ => if (!wd && t2.tooFull) = true then (g (relayAll t2 es1 (SetTable.grown es1.size)).2.2 >>= fun _ =>
      storeSet a (relayAll t2 es1 (SetTable.grown es1.size)).1 (relayAll t2 es1 (SetTable.grown es1.size)).2.1 >>= fun _ => pure (some true)) else pure (some true)) R E s := by
  have fs : es1.size < scanBound := Nat.lt_of_le_of_lt T.few few
  refine wpAny_bind (wpAny_storeSet_of ho hd ?_ (fits_of_scanBound fs))
  have o1 := putX (es' := es1) (t' := t2) ho hd
  have b1 := Heap.SameBut.update s.heap a (Obj.putSet es1 t2)
  by_cases full : (!wd && t2.tooFull) = true
  · rw [if_pos full]
    have pm := relayAll_perm t2 es1 (SetTable.grown es1.size)
    have pf := relayAll_fits t2 es1 (SetTable.grown es1.size)
    have pr := relayAll_ris t2 es1 (SetTable.grown es1.size)
    have pl := relayAll_led t2 es1 (SetTable.grown es1.size)
    generalize relayAll t2 es1 (SetTable.grown es1.size) = Z at pm pf pr pl ⊢
    rcases Z with ⟨es2, t3, gave⟩
    dsimp only at pm pf pr pl ⊢
    have z2 : es2.size = es1.size := by
      have := pm.length_eq
      rwa [Array.length_toList, Array.length_toList] at this
    refine wpAny_bind (hg _ _ _ (wpAny_bind (wpAny_storeSet_of o1 rfl ?_ (fits_of_scanBound (by rw [z2]; exact fs)))))
    have o2 := putX (es' := es2) (t' := t3) o1 rfl
    refine wpAny_pure (hR _ (b1.trans (Heap.SameBut.update _ a _)) ⟨_, es2, _, t3, o2, hex, rfl, ?_⟩)
    exact ⟨fun e he => T.ok e (pm.mem_iff.mp he), (pm.map sx).nodup_iff.mpr T.nd, fun y => (T.mem y).trans (pm.map sx).mem_iff.symm, by rw [z2]; exact T.few, pf, pr, T.led.imp id fun z => by rw [pl]; exact z⟩
  · rw [if_neg full]
    exact wpAny_pure (hR _ b1 ⟨_, es1, _, t2, o1, hex, rfl, T⟩)

theorem addX {x : Str} {tk : Tok} {Q : Bool → Shared → Prop} (R : SetX w s.heap a zs) (room : zs.length + 1 < scanBound)
    (hQ : ∀ b h', Heap.SameBut a s.heap h' → SetX w h' a (x :: zs) → Q b { s with heap := h' }) : wpAny (model P w) A (setAddHashed a (.str x tk) (hashStr w x)) Q E s := by
  obtain ⟨o, es, ep, t, ho, hex, hd, T⟩ := R
  have hk : (PySem.strKind P w).is x (.str x tk) = true := strKind_is P w x tk
  have sc : (Value.str x tk).scannable = true := rfl
  have el : ElemsOf (PySem.strKind P w) es.toList := okx_elems T.ok
  have fs : es.size < scanBound := Nat.lt_of_le_of_lt T.few (Nat.lt_of_succ_lt room)
  unfold setAddHashed
  unfold setAddHashedIn
  refine wpAny_holding (wpAny_bind (wpAny_setState_of ho hd T.fit ?_))
  dsimp only
  rw [byScan_of sc fs el]
  simp only [if_true]
  unfold setAddByScan
  refine wpAny_bind (wpAny_bind (wpAny_rule (wpAny_bind (wpAny_setScan_of (knd := PySem.strKind P w) hk ho hd T.fit el ?_))))
  have isat : ∀ y, (∃ e ∈ es.toList, (PySem.strKind P w).is y e.2 = true) ↔ y ∈ es.toList.map sx := fun y => by
    rw [List.mem_map]
    exact ⟨fun ⟨e, he, q⟩ => ⟨e, he, (okx_is (T.ok e he) y).1 q⟩, fun ⟨e, he, q⟩ => ⟨e, he, (okx_is (P := P) (T.ok e he) y).2 q⟩⟩
  cases hf : List.findIdx? (fun e => (PySem.strKind P w).is x e.2) es.toList with
  | some j =>
    dsimp only
    obtain ⟨hj, pj, _⟩ := List.findIdx?_eq_some_iff_getElem.mp hf
    have hx : x ∈ es.toList.map sx := (isat x).1 ⟨_, List.getElem_mem hj, pj⟩
    refine wpAny_pure (wpAny_pure (hQ _ s.heap (Heap.SameBut.refl a s.heap) ⟨o, es, ep, t, ho, hex, hd, T.ok, T.nd, fun y => ?_, Nat.le_succ_of_le T.few, T.fit, T.ris, T.led⟩))
    rw [List.mem_cons, ← T.mem y]
    refine ⟨fun h => h.elim (fun e => ?_) id, .inr⟩
    rw [e]
    exact (T.mem x).2 hx
  | none =>
    dsimp only
    have hx : x ∉ es.toList.map sx := fun h => by
      obtain ⟨e, he, q⟩ := (isat x).2 h
      have c := List.findIdx?_eq_none_iff.mp hf e he
      rw [q] at c
      cases c
    have gw : ∀ (b : Bool) {s₁ : Shared} {K : Unit → Shared → Prop}, K () s₁ → wpAny (model P w) A (match b with | true => rule "set.scan.the-table-gave-way" | false => pure ()) K E s₁ := by
      rintro (_ | _) s₁ K k
      · exact wpAny_pure k
      · exact wpAny_rule k
    have pm := layNew_perm t es (hashStr w x) (.str x tk)
    have pf := layNew_fits t es (hashStr w x) (.str x tk)
    have pr := layNew_ris t es (hashStr w x) (.str x tk) T.ris
    have pl := layNew_led t es (hashStr w x) (.str x tk)
    show wpAny _ _ _ _ _ _
    change wpAny (model P w) _ (_ >>= _) _ _ _
    have hh : (PySem.strKind P w).hash x = hashStr w x := rfl
    generalize layNew t es (hashStr w x) (.str x tk) = Z at pm pf pr pl ⊢
    rcases Z with ⟨es1, t1, wd, gave⟩
    dsimp only at pm pf pr pl ⊢
    rw [Array.toList_push] at pm
    have pc : es1.toList.Perm ((hashStr w x, Value.str x tk) :: es.toList) := pm.trans (List.perm_append_singleton _ _)
    have z1 : es1.size = es.size + 1 := by
      have := pc.length_eq
      rwa [List.length_cons, Array.length_toList, Array.length_toList] at this
    have T1 : TabX w es1 t1 (x :: zs) := by
      have pk : (es1.toList.map sx).Perm (x :: es.toList.map sx) := pc.map sx
      refine ⟨fun e he => ?_, pk.nodup_iff.mpr (List.nodup_cons.mpr ⟨hx, T.nd⟩), fun y => ?_, by rw [z1]; exact Nat.succ_le_succ T.few, pf, pr, T.led.imp id fun z => by rw [pl]; exact z⟩
      · rcases List.mem_cons.mp (pc.mem_iff.mp he) with q | q
        · exact ⟨x, tk, by rw [q], by rw [q]⟩
        · exact T.ok e q
      · rw [pk.mem_iff, List.mem_cons, List.mem_cons, T.mem y]
    have T2 : TabX w es1 { t1 with plain := false } (x :: zs) := ⟨T1.ok, T1.nd, T1.mem, T1.few, SetTable.fits_plain_off T1.fit, T1.ris, T1.led⟩
    have fin : ∀ h', Heap.SameBut a s.heap h' → SetX w h' a (x :: zs) → Q true { s with heap := h' } := hQ true
    refine wpAny_bind (gw _ ?_)
    split
    · refine wpAny_bind ?_
      rw [hashByValue_scannable 8 sc]
      refine wpAny_pure ?_
      refine tailX ?_ ho hex hd (ys := x :: zs) ?_ room ?_
      · intro b s₁ K k
        exact gw b k
      · first | exact T1 | exact T2 | (split <;> first | exact T1 | exact T2)
      · intro h' sb r
        dsimp only
        exact wpAny_pure (fin h' sb r)
    · refine wpAny_bind (wpAny_pure ?_)
      simp only [if_true]
      refine tailX ?_ ho hex hd T1 room ?_
      · intro b s₁ K k
        exact gw b k
      · intro h' sb r
        dsimp only
        exact wpAny_pure (fin h' sb r)
end

section
variable {P : Program} {w : World} {A : Around} {R : Result → Shared → Prop} {I : Addr} {fp wr : List Addr} {G : Array GenState → Array GenState → Prop} {n : Nat} {Pv : Nat → Value → Prop} {St : Nat → Shared → Prop}
theorem SetX.move {h h' : Heap} {a : Addr} {zs : List Str} (x : SetX w h a zs) (k : ∀ o, h.get? a = some o → h'.get? a = some o) : SetX w h' a zs := by
  obtain ⟨o, es, ep, t, ho, r⟩ := x
  exact ⟨o, es, ep, t, k o ho, r⟩
theorem rev_take {xs : List Str} {i : Nat} (h : i < xs.length) : (xs.take (i + 1)).reverse = xs.getD i Str.empty :: (xs.take i).reverse := by
  rw [List.take_succ_eq_append_getElem h, List.reverse_append]
  simp [List.getD, h]
/-- the walk that fills the set -/
theorem fillX (W : WalksS P w A.in1 I fp wr G n Pv St) (T : Addr) (hT : T ∉ fp) (xs : List Str) (hz : xs.length = n) (h64 : n < 64) (hv : ∀ i v, Pv i v → ∃ t, v = .str (xs.getD i Str.empty) t) :
    ∀ (k i : Nat) (s : Shared), n - i = k → i ≤ n → St i s → SetX w s.heap T (xs.take i).reverse →
      (∀ s', Moved (T :: wr) G s s' → SetX w s'.heap T xs.reverse → R (.ok (.ret .none)) s') → codeAny (model P w) A (.builtin "set.update.loop" ⟨[.ref T, .ref I], []⟩) R s := by
  have hTw : T ∉ wr := fun z => hT (W.sub _ z)
  have up : ∀ b ∈ wr, b ∈ T :: wr := fun b z => List.mem_cons_of_mem _ z
  intro k
  induction k with
  | zero =>
    intro i s e1 e2 st x fin
    obtain rfl : i = n := by omega
    refine codeAny_builtin PyProof.Rows.F.entry_set_update_loop ?_
    rw [Around.under_plainId PyProof.Rows.F.plain_set_update_loop _]
    show wpAny _ A.in1 (pyNext (.ref I) >>= _) _ _ s
    refine wpAny_bind (W.done s _ _ st fun s' m => ?_)
    show wpAny _ A.in1 (ret Value.none) _ _ s'
    rw [List.take_of_length_le (Nat.le_of_eq hz)] at x
    exact wpAny_pure (fin s' (m.mono up) (x.move fun o e => m.heap T o hTw e))
  | succ k ih =>
    intro i s e1 e2 st x fin
    have lt : i < n := by omega
    refine codeAny_builtin PyProof.Rows.F.entry_set_update_loop ?_
    rw [Around.under_plainId PyProof.Rows.F.plain_set_update_loop _]
    show wpAny _ A.in1 (pyNext (.ref I) >>= _) _ _ s
    refine wpAny_bind (W.item i s _ _ lt st fun v s' hp st' m => ?_)
    obtain ⟨t, rfl⟩ := hv i v hp
    have x' : SetX w s'.heap T (xs.take i).reverse := x.move fun o e => m.heap T o hTw e
    show wpAny _ A.in1 (holding [Value.str (xs.getD i Str.empty) t] (setAdd T (.str (xs.getD i Str.empty) t)) >>= _) _ _ s'
    refine wpAny_bind (wpAny_holding ?_)
    unfold setAdd
    refine wpAny_holding (wpAny_bind ((PySem.strKind P w).pyHash (k := xs.getD i Str.empty) (strKind_is _ _ _ _) ?_))
    refine addX (s := { s' with toks := s'.toks + 1 }) x' (by rw [List.length_reverse, List.length_take]; unfold scanBound; omega) fun b h' sb x2 => ?_
    rw [← rev_take (by omega)] at x2
    refine wpAny_pure ⟨plainId_quiet PyProof.Rows.F.plain_set_update_loop _, ih (i + 1) _ (by omega) lt (W.frame _ s' _ _ st' (Nat.le_succ _) fun b hb o e => ?_) x2 fun s2 m2 x3 => ?_⟩
    · have : b ≠ T := fun z => hT (by rw [← z]; exact hb)
      exact (sb.2 b this).trans e
    · refine fin s2 (Moved.trans W.gtrans ((m.mono up).then_heap (Nat.le_succ _) fun b o hb e => ?_) m2) x3
      have : b ≠ T := fun z => hb (by rw [z]; exact List.mem_cons_self)
      exact (sb.2 b this).trans e
end
section
variable {P : Program} {w : World} {A : Around} {E : Value → Shared → Prop} {s : Shared}
/-- a new set's record -/
abbrev newX (w : World) : Obj := { cls := .type "set", dict := none, data := .set #[] 0 (.fresh 0 0 (!w.params.followText "set-order")) }
theorem newX_ok {h : Heap} {a : Addr} (ho : h.get? a = some (newX w)) : SetX w h a [] := by
  refine ⟨_, #[], 0, _, ho, ⟨rfl, rfl, rfl⟩, rfl, (fun e he => by simp at he), (by simp), (fun y => by simp), Nat.le_refl _, (by rfl), List.Pairwise.nil, ?_⟩
  show _ ∨ (!w.params.followText "set-order") = true
  cases w.params.followText "set-order"
  · exact .inr rfl
  · exact .inl rfl

set_option maxHeartbeats 3200000 in
theorem setX_list {l : Addr} {items : Array Value} {xs : List Str} {Q : Value → Shared → Prop} (hh : A.handled = none) (hl : s.heap.IsList l items) (hi : StrsAre items.toList xs) (h64 : xs.length < 64)
    (hq : ∀ (h' : Heap) (tk : Nat), SetX w h' s.heap.objs.size xs.reverse → (∀ b o, s.heap.get? b = some o → h'.get? b = some o) → Q (.ref s.heap.objs.size) { s with heap := h', toks := tk }) :
    wpAny (model P w) A (call (.type "set") [.ref l]) Q E s := by
  obtain ⟨cc, tt, mro⟩ := PySem.F.called_set.mro
  have made := PySem.F.called_set.made
  have subs := PySem.F.called_set.sub
  refine wpAny_call (codeAny_of_tree ?_)
  show wpAny _ _ (callAny (.type "set") _) _ _ _
  refine wpAny_pure ⟨Code.quiet_builtin _ (by decide +kernel), codeAny_builtin PySem.F.entry_type_call ?_⟩
  rw [Around.under_plain (weight_type_call_type "set" [.ref l] []) rfl]
  have nt := PySem.F.called_set.notType
  have cr := PySem.F.called_set.canCreate
  have tc := PySem.F.typeCall_set_1 (.ref l)
  repeat (any_goals (first | assumption | wp_step))
  refine codeAny_mono (code_set_led1 (.ref l) (E := E) (Q₁ := fun obj s₁ => obj = .ref s.heap.objs.size ∧ s₁ = { s with heap := s.heap.push (newX w) }) ⟨rfl, rfl⟩) fun r s₁ hr => ?_
  cases r with
  | error e => exact hr
  | ok fl =>
    cases fl with
    | ret obj =>
      obtain ⟨rfl, rfl⟩ := hr
      have got : (s.heap.push (newX w)).get? s.heap.objs.size = some (newX w) := Heap.get?_push_size _ rfl
      have ty : Shared.TypeIs { s with heap := s.heap.push (newX w) } (.ref s.heap.objs.size) "set" := ⟨_, got, rfl⟩
      have il := PySem.F.called_set.init.lookup
      have ib := PySem.F.called_set.init.bind (.ref s.heap.objs.size)
      repeat (any_goals (first | assumption | wp_step))
      refine codeAny_mono (codeAny_call_builtin (R := wants (fun r s₂ => r = .none ∧ ∃ h' tk, s₂ = { s with heap := h', toks := tk } ∧ SetX w h' s.heap.objs.size xs.reverse ∧ ∀ b o, s.heap.get? b = some o → h'.get? b = some o) E)
        PySem.F.called_set.init.plain PySem.F.entry_set_init (check_set_init_1 ty ?_)) fun r₂ s₂ hr₂ => ?_
      · obtain ⟨⟨lcls, ldict, ldata, lslots⟩, lo, lc, ln, ld⟩ := hl
        simp only at lc ld
        subst lc ld
        have lo' : (s.heap.push (newX w)).get? l = some { cls := .type "list", dict := ldict, data := .seq items ln, slots := lslots } := Heap.get?_push_of_some _ lo
        have k1 := PySem.F.sub_list_set
        have k2 := PySem.F.sub_list_frozenset
        have k3 : (Value.type "list" == Value.type "dict") = false := by decide
        have l1 : (s.heap.push (newX w)).IsList l items := ⟨_, lo', rfl, ln, rfl⟩
        unfold Builtin.«set.__init__»
        unfold noKeywords
        unfold Builtin.Frozenset.updateFrom
        generalize itE : pyIter = PI
        wp_walk
        subst itE
        refine wpAny_pyIter_list l1 (wpAny_bind (wpAny_runValue ?_))
        have ls : l < s.heap.objs.size := Heap.lt_size lo
        have h3 : A.in1.in1.in1.handled = none := by simp [hh]
        have zz : (s.heap.push (newX w)).objs.size = s.heap.objs.size + 1 := Heap.size_push ..
        have ne : l ≠ (s.heap.push (newX w)).objs.size := by rw [zz]; exact Nat.ne_of_lt (Nat.lt_succ_of_lt ls)
        have nf : s.heap.objs.size ∉ [(s.heap.push (newX w)).objs.size, l] := by
          rw [zz]
          simp only [List.mem_cons, List.not_mem_nil, or_false, not_or]
          exact ⟨Nat.ne_of_lt (Nat.lt_succ_self _), Nat.ne_of_gt ls⟩
        have hz : xs.length = items.size := by rw [← StrsAre.len_eq hi, Array.length_toList]
        have hv : ∀ (i : Nat) (v : Value), items[i]? = some v → ∃ t, v = .str (xs.getD i Str.empty) t := fun i v e => SS.strs_at hi i v (by rw [Array.getElem?_toList]; exact e)
        refine fillX ((Walks.list h3 _ l ne items).toS) s.heap.objs.size nf xs hz (by rw [← hz]; exact h64) hv (items.size - 0) 0 _ (by omega) (Nat.zero_le _) ⟨⟨_, Heap.get?_push_size _ rfl, rfl, rfl⟩, (l1.push _)⟩ (newX_ok (Heap.get?_push_of_some _ got)) ?_
        intro s' m x
        obtain ⟨h', g', d', tk', os'⟩ := s'
        have e1 : g' = s.gens := m.gens
        have e2 : d' = s.drawn := m.drawn
        have e3 : os' = s.os := m.os
        subst e1 e2 e3
        show wpAny _ _ _ _ _ _
        refine wpAny_pure ?_
        show wpAny _ _ (ret Value.none) _ _ _
        refine wpAny_pure ⟨rfl, h', tk', rfl, x, fun b o e => ?_⟩
        have lb := Heap.lt_size e
        refine m.heap b o (fun z => ?_) (Heap.get?_push_of_some _ (Heap.get?_push_of_some _ e))
        simp only [List.mem_cons, List.not_mem_nil, or_false] at z
        rcases z with z | z
        · exact absurd lb (by rw [z]; exact Nat.lt_irrefl _)
        · rw [zz] at z
          exact absurd lb (by rw [z]; exact Nat.not_lt_of_le (Nat.le_succ _))
      · cases r₂ with
        | error e => exact hr₂
        | ok fl₂ =>
          cases fl₂ with
          | ret r =>
            obtain ⟨rfl, h', tk, rfl, x, k⟩ := hr₂
            repeat (any_goals (first | assumption | wp_step))
            exact hq _ _ x k
          | _ => exact hr₂.elim
    | _ => exact hr.elim

set_option maxHeartbeats 3200000 in
theorem setX_tuple {l : Addr} {items : Array Value} {xs : List Str} {Q : Value → Shared → Prop} (hh : A.handled = none) (hl : s.heap.IsTuple l items) (hi : StrsAre items.toList xs) (h64 : xs.length < 64)
    (hq : ∀ (h' : Heap) (tk : Nat), SetX w h' s.heap.objs.size xs.reverse → (∀ b o, s.heap.get? b = some o → h'.get? b = some o) → Q (.ref s.heap.objs.size) { s with heap := h', toks := tk }) :
    wpAny (model P w) A (call (.type "set") [.ref l]) Q E s := by
  obtain ⟨cc, tt, mro⟩ := PySem.F.called_set.mro
  have made := PySem.F.called_set.made
  have subs := PySem.F.called_set.sub
  refine wpAny_call (codeAny_of_tree ?_)
  show wpAny _ _ (callAny (.type "set") _) _ _ _
  refine wpAny_pure ⟨Code.quiet_builtin _ (by decide +kernel), codeAny_builtin PySem.F.entry_type_call ?_⟩
  rw [Around.under_plain (weight_type_call_type "set" [.ref l] []) rfl]
  have nt := PySem.F.called_set.notType
  have cr := PySem.F.called_set.canCreate
  have tc := PySem.F.typeCall_set_1 (.ref l)
  repeat (any_goals (first | assumption | wp_step))
  refine codeAny_mono (code_set_led1 (.ref l) (E := E) (Q₁ := fun obj s₁ => obj = .ref s.heap.objs.size ∧ s₁ = { s with heap := s.heap.push (newX w) }) ⟨rfl, rfl⟩) fun r s₁ hr => ?_
  cases r with
  | error e => exact hr
  | ok fl =>
    cases fl with
    | ret obj =>
      obtain ⟨rfl, rfl⟩ := hr
      have got : (s.heap.push (newX w)).get? s.heap.objs.size = some (newX w) := Heap.get?_push_size _ rfl
      have ty : Shared.TypeIs { s with heap := s.heap.push (newX w) } (.ref s.heap.objs.size) "set" := ⟨_, got, rfl⟩
      have il := PySem.F.called_set.init.lookup
      have ib := PySem.F.called_set.init.bind (.ref s.heap.objs.size)
      repeat (any_goals (first | assumption | wp_step))
      refine codeAny_mono (codeAny_call_builtin (R := wants (fun r s₂ => r = .none ∧ ∃ h' tk, s₂ = { s with heap := h', toks := tk } ∧ SetX w h' s.heap.objs.size xs.reverse ∧ ∀ b o, s.heap.get? b = some o → h'.get? b = some o) E)
        PySem.F.called_set.init.plain PySem.F.entry_set_init (check_set_init_1 ty ?_)) fun r₂ s₂ hr₂ => ?_
      · obtain ⟨⟨lcls, ldict, ldata, lslots⟩, lo, lc, ln, ld⟩ := hl
        simp only at lc ld
        subst lc ld
        have lo' : (s.heap.push (newX w)).get? l = some { cls := .type "tuple", dict := ldict, data := .seq items ln, slots := lslots } := Heap.get?_push_of_some _ lo
        have k1 := PySem.F.sub_tuple_set
        have k2 := PySem.F.sub_tuple_frozenset
        have k3 : (Value.type "tuple" == Value.type "dict") = false := by decide
        have l1 : (s.heap.push (newX w)).IsTuple l items := ⟨_, lo', rfl, ln, rfl⟩
        unfold Builtin.«set.__init__»
        unfold noKeywords
        unfold Builtin.Frozenset.updateFrom
        generalize itE : pyIter = PI
        wp_walk
        subst itE
        refine wpAny_pyIter_tuple l1 (wpAny_bind (wpAny_runValue ?_))
        have ls : l < s.heap.objs.size := Heap.lt_size lo
        have h3 : A.in1.in1.in1.handled = none := by simp [hh]
        have zz : (s.heap.push (newX w)).objs.size = s.heap.objs.size + 1 := Heap.size_push ..
        have ne : l ≠ (s.heap.push (newX w)).objs.size := by rw [zz]; exact Nat.ne_of_lt (Nat.lt_succ_of_lt ls)
        have nf : s.heap.objs.size ∉ [(s.heap.push (newX w)).objs.size, l] := by
          rw [zz]
          simp only [List.mem_cons, List.not_mem_nil, or_false, not_or]
          exact ⟨Nat.ne_of_lt (Nat.lt_succ_self _), Nat.ne_of_gt ls⟩
        have hz : xs.length = items.size := by rw [← StrsAre.len_eq hi, Array.length_toList]
        have hv : ∀ (i : Nat) (v : Value), items[i]? = some v → ∃ t, v = .str (xs.getD i Str.empty) t := fun i v e => SS.strs_at hi i v (by rw [Array.getElem?_toList]; exact e)
        refine fillX ((Walks.tuple h3 _ l ne items).toS) s.heap.objs.size nf xs hz (by rw [← hz]; exact h64) hv (items.size - 0) 0 _ (by omega) (Nat.zero_le _) ⟨⟨_, Heap.get?_push_size _ rfl, rfl, rfl⟩, (l1.push _)⟩ (newX_ok (Heap.get?_push_of_some _ got)) ?_
        intro s' m x
        obtain ⟨h', g', d', tk', os'⟩ := s'
        have e1 : g' = s.gens := m.gens
        have e2 : d' = s.drawn := m.drawn
        have e3 : os' = s.os := m.os
        subst e1 e2 e3
        show wpAny _ _ _ _ _ _
        refine wpAny_pure ?_
        show wpAny _ _ (ret Value.none) _ _ _
        refine wpAny_pure ⟨rfl, h', tk', rfl, x, fun b o e => ?_⟩
        have lb := Heap.lt_size e
        refine m.heap b o (fun z => ?_) (Heap.get?_push_of_some _ (Heap.get?_push_of_some _ e))
        simp only [List.mem_cons, List.not_mem_nil, or_false] at z
        rcases z with z | z
        · exact absurd lb (by rw [z]; exact Nat.lt_irrefl _)
        · rw [zz] at z
          exact absurd lb (by rw [z]; exact Nat.not_lt_of_le (Nat.le_succ _))
      · cases r₂ with
        | error e => exact hr₂
        | ok fl₂ =>
          cases fl₂ with
          | ret r =>
            obtain ⟨rfl, h', tk, rfl, x, k⟩ := hr₂
            repeat (any_goals (first | assumption | wp_step))
            exact hq _ _ x k
          | _ => exact hr₂.elim
    | _ => exact hr.elim

theorem strs_back {w : World} : ∀ {l : List Value} {es : List (Int × Value)}, (∀ e ∈ es, OkX w e) → l = es.map (·.2) → StrsAre l (es.map sx)
  | _, [], _, e => by rw [e]; exact .nil
  | _, e0 :: es, h, e => by
    obtain ⟨x, tk, e1, _⟩ := h e0 List.mem_cons_self
    have : sx e0 = x := by unfold sx; rw [e1]
    rw [e, List.map_cons, List.map_cons, this, e1]
    exact .cons x tk (strs_back (w := w) (fun e he => h e (List.mem_cons_of_mem _ he)) rfl)
theorem strs_all : ∀ l : List Value, (∀ v ∈ l, ∃ x tk, v = Value.str x tk) → StrsAre l (l.map fun v => sx (0, v))
  | [], _ => .nil
  | v :: l, h => by
    obtain ⟨x, tk, rfl⟩ := h v List.mem_cons_self
    exact .cons x tk (strs_all l fun u hu => h u (List.mem_cons_of_mem _ hu))
/-- sorted(a set of texts) -/
theorem sortX {a : Addr} {zs : List Str} {Q : Value → Shared → Prop} (x : SetX w s.heap a zs) (hh : A.handled = none) (h64 : zs.length < 64)
    (hq : ∀ s' p (out : Array Value) (c : Nat) (ys : List Str), (∀ b o, s.heap.get? b = some o → s'.heap.get? b = some o) → s'.gens = s.gens → s'.os = s.os → s.heap.objs.size ≤ p →
      s'.heap.get? p = some (seqObj "list" out c) → StrsAre out.toList ys → sortedS ys = true → ys.Nodup → (∀ y, y ∈ ys ↔ y ∈ zs) → ys.length ≤ zs.length → Q (.ref p) s') :
    wpAny (model P w) A (call (.builtin "sorted") [.ref a]) Q E s := by
  obtain ⟨o, es, ep, t, ho, hex, hd, T⟩ := x
  refine Calls.call_function_entry PyProof.Rows.kind_sorted PyProof.Rows.plain_sorted PyProof.Rows.entry_sorted (PyProof.Rows.args_sorted1 _) ?_
  unfold Builtin.«sorted»
  refine wpAny_bind (m := checkCount "sorted" 1 1 _) (wpAny_pure ?_)
  refine wpAny_bind (collect_set (A := A.in1) hh ⟨o, ho, hex.1, hd⟩ T.fit (Nat.lt_of_le_of_lt T.few (by unfold scanBound; omega)) T.ris T.led fun s1 vs k1 hz g1 o1 pm => ?_)
  have vl : vs.length = es.size := by rw [pm.length_eq, List.length_map, Array.length_toList]
  have v64 : vs.length < 64 := by rw [vl]; exact Nat.lt_of_le_of_lt T.few h64
  have hS : StrsAre vs (vs.map fun v => sx (0, v)) := strs_all vs fun v hv => by
    obtain ⟨e, he, q⟩ := List.mem_map.mp (pm.mem_iff.mp hv)
    obtain ⟨y, tk, e1, _⟩ := T.ok e he
    exact ⟨y, tk, by rw [← q]; exact e1⟩
  have pk : (vs.map fun v => sx (0, v)).Perm (es.toList.map sx) := by
    have q := pm.map fun v => sx (0, v)
    rw [List.map_map] at q
    exact q
  refine wpAny_bind (wpAny_newList ?_ (by rw [sizeLine_eq]; omega))
  have oL : (s1.heap.push (seqObj "list" vs.toArray 0)).get? s1.heap.objs.size = some (seqObj "list" vs.toArray 0) := Heap.get?_push_size _ rfl
  refine wpAny_bind (wpAny_holding (wpAny_call_entry PyProof.Rows.slot_list_sort ⟨_, oL, rfl⟩ PyProof.Rows.entry_list_sort
    (list_sort_treeK strKind_oneLt oL hS.keysOf (fun v₁ v₂ rest e => keyKind_strs (by rw [← e]; exact hS)) v64 fun st' hp hs => ⟨_, rfl, ?_⟩) (PyProof.Rows.args_list_sort _)))
  obtain ⟨ys, b1, b2, b3⟩ := sorted_out_str hS hp hs
  obtain ⟨c, hc⟩ := PyProof.Rows.sortedHeap_at (vs := vs) (out := (arrOf st').map (·.2)) oL
  have py : ys.Perm (es.toList.map sx) := b2.trans pk
  refine wpAny_pure ⟨_, rfl, hq _ s1.heap.objs.size _ c ys (fun b u e => ?_) g1 o1 hz hc b1 b3 (py.nodup_iff.mpr T.nd) (fun y => by rw [py.mem_iff, ← T.mem y]) ?_⟩
  · have q := k1 b u e
    have lt := Heap.lt_size q
    show (sortedHeap (s1.heap.push (seqObj "list" vs.toArray 0)) s1.heap.objs.size vs _).get? b = some u
    rw [PyProof.Rows.sortedHeap_old (Nat.ne_of_lt lt) (by rw [size_push']; exact Nat.lt_succ_of_lt lt)]
    exact Heap.get?_push_of_some _ q
  · rw [py.length_eq, List.length_map, Array.length_toList]
    exact T.few
end
section
variable {X : Cx}
/-- sorted(set(x)) -/
def tSrs (K : PySem.W.Frag) (ta : TE) : TE := fun σ H Q => ta σ H fun x H1 => ∃ (l : Addr) (xs : List Str), x = .ref l ∧ (SqL K H1 l (xs.map V.str) ∨ SqT K H1 l (xs.map V.str)) ∧ xs.length < 64 ∧
  ∀ (ys : List Str) (p : Addr), ys.Perm (uniq xs) → sortedS ys = true → H1 p = none → Q (.ref p) (upd H1 p (.lst (ys.map V.str)))
theorem pe_srs {a : Expr} {ta : TE} {p p2 q pos : Pos} (hc : X.calm = true) (hg : Gl X "sorted") (hm : X.mg "sorted" = none) (hg2 : Gl X "set") (hm2 : X.mg "set" = none) (ha : PE X a ta)
    (na : starEach [a] X.env = (false, eval a X.env) :: starEach [] X.env) (nb : starEach [Expr.Call (.Name "set" p2) [a] [] q] X.env = (false, eval (.Call (.Name "set" p2) [a] [] q) X.env) :: starEach [] X.env) :
    PE X (.Call (.Name "sorted" p) [.Call (.Name "set" p2) [a] [] q] [] pos) (tSrs X.K ta) := by
  refine ⟨fun pins s σ H Q I h => ?_⟩
  refine Call_ (ld_blt I hg hm boot_sorted ?_)
  refine PyProof.Rows.callWith_builtin1 (PyProof.Rows.args_cons ?_ nb) nb rfl
  refine Call_ (ld_blt I hg2 hm2 boot_set ?_)
  refine PyProof.Rows.callWith_type1 (PyProof.Rows.args_cons (thn (ha.run pins s σ H _ I h) fun v s1 ⟨x, H1, I1, r1, q1⟩ => PyProof.Rows.args_nil ?_) na) na rfl
  obtain ⟨l, xs, rfl, hq, h64, q1⟩ := q1
  cases r1
  have fin : ∀ (h' : Heap) (tk : Nat), SetX X.w h' s1.heap.objs.size xs.reverse → (∀ b o, s1.heap.get? b = some o → h'.get? b = some o) →
      wpAny (model X.prog X.w) X.A (spliced (backTo pos (starEach [] X.env))) (fun vs s₂ => wpAny (model X.prog X.w) X.A (call (.builtin "sorted") (Value.ref s1.heap.objs.size :: vs)) (EP X pins σ Q) X.xe s₂) X.xe { s1 with heap := h', toks := tk } := fun h' tk x k => by
    refine PyProof.Rows.args_nil ?_
    refine sortX (s := { s1 with heap := h', toks := tk }) x (I1.ok.hd hc) (by rw [List.length_reverse]; exact h64) fun s2 p out c ys k2 g2 o2 hp hat hS hs nd mem len => ?_
    have I2 : Inv X pins σ H1 { s1 with heap := h', toks := tk } := I1.kept fun b o e => k b o e
    have yl : (ys.map V.str).length ≤ sizeLine := by
      rw [List.length_map]
      rw [List.length_reverse] at len
      exact Nat.le_trans (Nat.le_trans len (Nat.le_of_lt h64)) (by decide)
    have perm : ys.Perm (uniq xs) := (List.perm_ext_iff_of_nodup nd (uniq_nodup xs)).mpr fun y => by rw [mem_uniq, mem y, List.mem_reverse]
    have hn : H1 p = none := I2.hok.fresh hp
    have J : Inv X pins σ (upd H1 p (.lst (ys.map V.str))) { s1 with heap := s2.heap, gens := s2.gens, drawn := s2.drawn, toks := s2.toks } :=
      L2.Inv.call (s := { s1 with heap := h', toks := tk }) (ch := []) I2 (Un.laid k2 hp hn) (I2.hok.laid k2 hp ⟨yl, out.toList, c, vals_of_strs hS, hat⟩) (by rw [g2]; exact I2.bare) fun _ z => nomatch z
    have e : s2 = { s1 with heap := s2.heap, gens := s2.gens, drawn := s2.drawn, toks := s2.toks } := by
      cases s2
      cases o2
      rfl
    rw [e]
    exact ⟨.ref p, _, J, rfl, q1 ys p perm hs hn⟩
  rcases hq with hq | hq
  · obtain ⟨its, rv, pl, hz⟩ := I1.list hq
    exact setX_list (I1.ok.hd hc) pl.isList (by simpa using strsAre_of rv) h64 fin
  · obtain ⟨its, rv, pl, hz⟩ := I1.tuple hq
    exact setX_tuple (I1.ok.hd hc) pl (by simpa using strsAre_of rv) h64 fin
end
end TG
end
section
namespace TG
open PySem PySem.Spec PyProof.Rows L2
def twoS (x y : Str) (i : Nat) : Str := if i = 0 then x else y
theorem two_at {x y : Str} {t u : Tok} {i : Nat} {v : Value} (h : (#[Value.str x t, .str y u] : Array Value)[i]? = some v) : ∃ r, v = .str (twoS x y i) r := by
  match i, h with
  | 0, h => simp at h; exact ⟨t, h.symm⟩
  | 1, h => simp at h; exact ⟨u, h.symm⟩
  | i + 2, h => simp at h
section
variable {prog : Program} {w : World} {A : Around} {E : Value → Shared → Prop} {s : Shared}
theorem cmp_ltS {x y : Str} {t u : Tok} : CmpOf prog w A .Lt (fun i v => (#[Value.str x t, .str y u] : Array Value)[i]? = some v) fun i j => decide ((twoS x y i).cps.toList < (twoS x y j).cps.toList) := fun i j a b s Q E ha hb q => by
  obtain ⟨r, rfl⟩ := two_at ha
  obtain ⟨r', rfl⟩ := two_at hb
  exact richCompare_gives (op := .Lt) (typeIs_str s _ r) (typeIs_str s _ r') PySem.F.slot_str_lt PySem.F.entry_str_lt (PySem.F.args_str_lt_2 _ _) (PySem.gives_str_lt _ _ r r') (fun z => nomatch z) q
theorem cmp_gtS {x y : Str} {t u : Tok} : CmpOf prog w A .Gt (fun i v => (#[Value.str x t, .str y u] : Array Value)[i]? = some v) fun i j => decide ((twoS x y j).cps.toList < (twoS x y i).cps.toList) := fun i j a b s Q E ha hb q => by
  obtain ⟨r, rfl⟩ := two_at ha
  obtain ⟨r', rfl⟩ := two_at hb
  exact richCompare_gives (op := .Gt) (typeIs_str s _ r) (typeIs_str s _ r') PySem.F.slot_str_gt PySem.F.entry_str_gt (PySem.F.args_str_gt_2 _ _) (PySem.gives_str_gt _ _ r r') (fun z => nomatch z) q
/-- what both ask of the pushed pair -/
theorem pair_walk {op : CmpOp} {bt : Nat → Nat → Bool} {a b : Value} {Q : Value → Shared → Prop} (hh : A.handled = none) (c : CmpOf prog w A.in1 op (fun i v => (#[a, b] : Array Value)[i]? = some v) bt)
    (h : ∀ h' tk, (∀ c o, s.heap.get? c = some o → h'.get? c = some o) → Q (if bt 1 0 = true then b else a) { s with heap := h', toks := tk }) :
    wpAny (model prog w) A.in1 (pyIter (.ref s.heap.objs.size)) (fun it s₂ => ∃ I fp wr n P St bt, it = .ref I ∧ Walks prog w A.in1 I fp wr n P St ∧ St 0 s₂.heap ∧ (∀ b ∈ fp, b < s₂.heap.objs.size) ∧ 0 < n ∧ CmpOf prog w A.in1 op P bt ∧
      ∀ v h' tk, P (argBest bt (n - 1)) v → (∀ b o, b ∉ wr → s₂.heap.get? b = some o → h'.get? b = some o) → Q v { s₂ with heap := h', toks := tk }) E
      { s with heap := s.heap.push { cls := .type "tuple", data := .seq #[a, b] } } := by
  have ht : (s.heap.push { cls := .type "tuple", data := .seq #[a, b] }).IsTuple s.heap.objs.size #[a, b] := ⟨_, Heap.get?_push_size _ rfl, rfl, 0, rfl⟩
  refine wpAny_pyIter_tuple ht ?_
  have sz : (s.heap.push { cls := .type "tuple", data := .seq #[a, b] }).objs.size = s.heap.objs.size + 1 := Heap.size_push ..
  refine ⟨_, [_, s.heap.objs.size], [_], 2, _, _, bt, rfl, Walks.tuple (A := A.in1) hh _ s.heap.objs.size (by rw [sz]; exact Nat.ne_of_lt (Nat.lt_succ_self _)) #[a, b], ⟨⟨_, Heap.get?_push_size _ rfl, rfl, rfl⟩, ht.push _⟩, fun c hc => ?_, by decide, c, fun v h' tk hP hk => ?_⟩
  · show c < ((s.heap.push _).push _).objs.size
    rw [Heap.size_push, sz]
    rcases List.mem_cons.mp hc with e | hc
    · rw [e, sz]; exact Nat.lt_succ_self _
    · rw [List.mem_singleton.mp hc]; exact Nat.lt_succ_of_lt (Nat.lt_succ_self _)
  · have old : ∀ c o, s.heap.get? c = some o → h'.get? c = some o := fun c o e => by
      refine hk c o (fun hm => ?_) (Heap.get?_push_of_some _ (Heap.get?_push_of_some _ e))
      have l := Heap.lt_size e
      have := List.mem_singleton.mp hm
      rw [this, sz] at l
      exact Nat.lt_irrefl _ (Nat.lt_of_succ_lt l)
    have hP : (#[a, b] : Array Value)[argBest bt 1]? = some v := hP
    have e : argBest bt 1 = if bt 1 0 = true then 1 else 0 := rfl
    rw [e] at hP
    have := h h' tk old
    by_cases q : bt 1 0 = true
    · rw [if_pos q] at hP this
      simp at hP
      subst hP
      exact this
    · rw [if_neg q] at hP this
      simp at hP
      subst hP
      exact this
end
section
variable {X : Cx}
theorem cr_minS (hc : X.calm = true) : CallR X (.builtin "min") (fun xs H Q => ∃ x y, xs = [.str x, .str y] ∧ Q (.str (minS x y)) H) := by
  intro pins s σ H xs us Q I r h
  obtain ⟨x, y, rfl, q⟩ := h
  obtain ⟨u, u', rfl, ⟨t, rfl⟩, ⟨t', rfl⟩⟩ := vals2 r
  refine call_min_two (pair_walk (I.ok.hd hc) cmp_ltS fun h' tk k => ⟨.str (minS x y), H, I.kept k, ?_, q⟩)
  unfold minS
  show RelV _ (if decide (y.cps.toList < x.cps.toList) = true then Value.str y t' else .str x t)
  by_cases z : y.cps.toList < x.cps.toList
  · rw [if_pos z, decide_eq_true z]; exact ⟨_, rfl⟩
  · rw [if_neg z, decide_eq_false z]; exact ⟨_, rfl⟩
theorem cr_maxS (hc : X.calm = true) : CallR X (.builtin "max") (fun xs H Q => ∃ x y, xs = [.str x, .str y] ∧ Q (.str (maxS x y)) H) := by
  intro pins s σ H xs us Q I r h
  obtain ⟨x, y, rfl, q⟩ := h
  obtain ⟨u, u', rfl, ⟨t, rfl⟩, ⟨t', rfl⟩⟩ := vals2 r
  refine call_max_two (pair_walk (I.ok.hd hc) cmp_gtS fun h' tk k => ⟨.str (maxS x y), H, I.kept k, ?_, q⟩)
  unfold maxS
  show RelV _ (if decide (x.cps.toList < y.cps.toList) = true then Value.str y t' else .str x t)
  by_cases z : x.cps.toList < y.cps.toList
  · rw [if_pos z, decide_eq_true z]; exact ⟨_, rfl⟩
  · rw [if_neg z, decide_eq_false z]; exact ⟨_, rfl⟩
def rSortTS (K : PySem.W.Frag) : List V → Hp → VK → Prop := fun vs H Q => ∃ (a : Addr) (xs : List Str), vs = [V.ref a] ∧ SqT K H a (xs.map V.str) ∧ xs.length < 64 ∧
  ∀ (ys : List Str) (p : Addr), ys.Perm xs → sortedS ys = true → H p = none → Q (.ref p) (upd H p (.lst (ys.map V.str)))
/-- a tuple of texts, sorted -/
theorem cr_sortTS : CallR X (.builtin "sorted") (rSortTS X.K) := by
  intro pins s σ H vs us Q I r h
  obtain ⟨a, xs, rfl, hs, h64, q⟩ := h
  obtain ⟨its, rv, ⟨oT, hoT, hcT, nT, hdT⟩, hz⟩ := I.tuple hs
  rw [Vals.ref1 r]
  have hlen0 := rv.length
  rw [List.length_map] at hlen0
  have hS := rv.strs
  have h64' : its.length < 64 := by rw [← hlen0]; exact h64
  have hzz : its.length ≤ sizeLine := by rw [sizeLine_eq]; omega
  refine Calls.call_function_entry PyProof.Rows.kind_sorted PyProof.Rows.plain_sorted PyProof.Rows.entry_sorted (PyProof.Rows.args_sorted1 _) ?body
  unfold Builtin.«sorted»
  refine wpAny_bind (m := checkCount "sorted" 1 1 _) (wpAny_pure (wpAny_bind (wpAny_collect_seq a (.inr rfl) hoT hcT hdT (fun h1 hk1 => ?col) (by rw [List.size_toArray]; exact hzz))))
  rw [List.toList_toArray]
  refine wpAny_bind (wpAny_newList ?_ hzz)
  show wpAny _ _ _ _ _ { s with heap := h1.push (seqObj "list" its.toArray 0) }
  generalize hh2 : h1.push (seqObj "list" its.toArray 0) = h2
  have hoL : h2.get? h1.objs.size = some (seqObj "list" its.toArray 0) := by rw [← hh2]; exact Heap.get?_push_size _ rfl
  refine wpAny_bind (wpAny_holding (wpAny_call_entry PyProof.Rows.slot_list_sort ⟨_, hoL, rfl⟩ PyProof.Rows.entry_list_sort (PyProof.Rows.list_sort_treeK (s := { s with heap := h2 }) PyProof.Rows.strKind_oneLt hoL hS.keysOf (fun v₁ v₂ rest e => PyProof.Rows.keyKind_strs (by rw [← e]; exact hS)) h64' fun st' a1 a2 => ⟨_, rfl, ?_⟩) (PyProof.Rows.args_list_sort _)))
  obtain ⟨ys, b1, b2, b3⟩ := PyProof.Rows.sorted_out_str hS a1 a2
  generalize hout : ((arrOf st').map (·.2) : Array Value) = out at b1
  obtain ⟨ep, he'⟩ := PyProof.Rows.sortedHeap_at (vs := its) (out := out) hoL
  have old : ∀ b o, h1.get? b = some o → (sortedHeap h2 h1.objs.size its out).get? b = some o := fun b o e => by
    have l : b < h1.objs.size := Heap.lt_size e
    rw [PyProof.Rows.sortedHeap_old (Nat.ne_of_lt l) (by rw [← hh2, PyProof.Rows.size_push']; exact Nat.lt_succ_of_lt l), ← hh2]
    exact Heap.get?_push_of_some _ e
  have I1 : Inv X pins σ H { s with heap := h1 } := I.kept (t' := s.toks) hk1
  have hlen : (ys.map V.str).length ≤ sizeLine := by rw [List.length_map, b2.length_eq, sizeLine_eq]; omega
  exact wpAny_pure ⟨_, rfl, .ref h1.objs.size, upd H h1.objs.size (.lst (ys.map V.str)), I1.laid (t' := s.toks) old (Nat.le_refl _) (show ObjOk X.prog X.w _ _ _ (.lst (ys.map V.str)) from ⟨hlen, out.toList, ep, vals_of_strs b1, by rw [Array.toArray_toList]; exact he'⟩), rfl, q ys _ b2 b3 (I1.hok.fresh (Nat.le_refl _))⟩
def rSortT (K : PySem.W.Frag) : List V → Hp → VK → Prop := fun vs H Q => ∃ (a : Addr) (zs : List (V × List V)) (shape : Nat → Bool), vs = [V.ref a] ∧ SqT K H a (zs.map Prod.fst) ∧
  (∀ z ∈ zs, ∃ t, z.1 = V.ref t ∧ SqT K H t z.2 ∧ z.2 ≠ [] ∧ shV shape 0 z.2 = true) ∧
  ∀ (zs' : List (V × List V)) (p : Addr), zs'.Perm zs → zs'.Pairwise (fun x y => rowLt (y.2.map kyV) (x.2.map kyV) = false) → H p = none → Q (.ref p) (upd H p (.lst (zs'.map Prod.fst)))
theorem cr_sortT : CallR X (.builtin "sorted") (rSortT X.K) := by
  intro pins s σ H vs us Q I r h
  obtain ⟨a, zs, shape, rfl, hs, hz0, q0⟩ := h
  obtain ⟨rw0, hrw⟩ : ∃ f : V → List V, ∀ (t : Addr) (ws : List V), SqT X.K H t ws → f (.ref t) = ws := by
    refine ⟨fun v => open Classical in if h : ∃ (t : Addr) (ws : List V), v = V.ref t ∧ SqT X.K H t ws then Classical.choose (Classical.choose_spec h) else [], fun t ws h => ?_⟩
    have ex : ∃ (t' : Addr) (ws : List V), V.ref t = V.ref t' ∧ SqT X.K H t' ws := ⟨t, ws, rfl, h⟩
    simp only
    rw [dif_pos ex]
    obtain ⟨e, h'⟩ := Classical.choose_spec (Classical.choose_spec ex)
    have key : ∀ (t' : Addr) (ws' : List V), V.ref t = V.ref t' → SqT X.K H t' ws' → ws' = ws := fun t' ws' e h' => by
      injection e with e
      subst e
      exact I.tuple_inj h' h
    exact key _ _ e h'
  have hzs : zs = (zs.map Prod.fst).map fun x => (x, rw0 x) := by
    rw [List.map_map]
    refine (List.map_id' zs).symm.trans (List.map_congr_left fun z hz => ?_)
    obtain ⟨t, e, hS, _⟩ := hz0 z hz
    show z = (z.1, rw0 z.1)
    rw [e, hrw t _ hS, ← e]
  have hx : ∀ x ∈ zs.map Prod.fst, ∃ t, x = V.ref t ∧ SqT X.K H t (rw0 x) ∧ rw0 x ≠ [] ∧ shV shape 0 (rw0 x) = true := fun x hx => by
    obtain ⟨z, hz, rfl⟩ := List.mem_map.mp hx
    obtain ⟨t, e, hS, h1, h2⟩ := hz0 z hz
    have er : rw0 z.1 = z.2 := by rw [e]; exact hrw t _ hS
    rw [er]
    exact ⟨t, e, hS, h1, h2⟩
  generalize hxs : zs.map Prod.fst = xs at hs hx hzs
  have q : ∀ (ys : List V) (p : Addr), ys.Perm xs → ys.Pairwise (fun x y => rowLt ((rw0 y).map kyV) ((rw0 x).map kyV) = false) → H p = none → Q (.ref p) (upd H p (.lst ys)) := fun ys p h1 h2 h3 => by
    have := q0 (ys.map fun x => (x, rw0 x)) p (by rw [hzs]; exact h1.map _) (List.pairwise_map.mpr h2) h3
    rw [List.map_map] at this
    have e : ys.map (Prod.fst ∘ fun x => (x, rw0 x)) = ys := List.map_id' ys
    rwa [e] at this
  obtain ⟨its, rv, ⟨oT, hoT, hcT, nT, hdT⟩, hz⟩ := I.tuple hs
  rw [Vals.ref1 r]
  obtain ⟨e1, e2⟩ := bkV_refs rv fun x m => by
    obtain ⟨t, e, _⟩ := hx x m
    exact ⟨t, e⟩
  -- each item, as it lies
  have look : ∀ v ∈ its, ∃ t o us n f, v = Value.ref t ∧ s.heap.get? t = some o ∧ o.cls = .type "tuple" ∧ o.data = .seq us.toArray n ∧ PyProof.Rows.tupItems shape 0 us = some ((rw0 (.ref t)).map kyV) ∧ us[0]? = some f ∧ (shape 0 = false → ∃ k t, f = .int k t) ∧ (shape 0 = true → ∃ x t, f = .str x t) := fun v hv => by
    obtain ⟨t, rfl⟩ := e2 v hv
    have hm : V.ref t ∈ xs := by
      rw [e1]
      exact List.mem_map.mpr ⟨_, hv, rfl⟩
    obtain ⟨t', e, ht, hne, hsh⟩ := hx _ hm
    cases e
    obtain ⟨us, r2, ⟨o, ho, hc, n, hd⟩, _⟩ := I.tuple ht
    cases hr : rw0 (.ref t) with
    | nil => exact (hne hr).elim
    | cons y ys =>
      rw [hr] at r2 hsh
      have ki := shV_items r2 hsh
      cases r2 with
      | @cons _ f _ us' rf rt =>
        refine ⟨t, o, f :: us', n, f, rfl, ho, hc, hd, by rw [hr]; exact ki, rfl, fun hb => ?_, fun hb => ?_⟩
        · cases y <;> simp only [shV, hb, Bool.and_eq_true] at hsh <;> first | cases hsh.1 | cases hsh | skip
          obtain ⟨k, rfl⟩ := rf
          exact ⟨_, _, rfl⟩
        · cases y <;> simp only [shV, hb, Bool.and_eq_true] at hsh <;> first | cases hsh.1 | cases hsh | skip
          obtain ⟨k, rfl⟩ := rf
          exact ⟨_, _, rfl⟩
  refine Calls.call_function_entry PyProof.Rows.kind_sorted PyProof.Rows.plain_sorted PyProof.Rows.entry_sorted (PyProof.Rows.args_sorted1 _) ?body
  unfold Builtin.«sorted»
  refine wpAny_bind (m := checkCount "sorted" 1 1 _) (wpAny_pure (wpAny_bind (wpAny_collect_seq a (.inr rfl) hoT hcT hdT (fun h1 hk1 => ?col) (by rw [List.size_toArray, ← rv.length]; exact hz))))
  rw [List.toList_toArray]
  refine wpAny_bind (wpAny_newList ?_ (by rw [← rv.length]; exact hz))
  show wpAny _ _ _ _ _ { s with heap := h1.push (seqObj "list" its.toArray 0) }
  generalize hh2 : h1.push (seqObj "list" its.toArray 0) = h2
  have hoL : h2.get? h1.objs.size = some (seqObj "list" its.toArray 0) := by rw [← hh2]; exact Heap.get?_push_size _ rfl
  have k2 : ∀ b o, s.heap.get? b = some o → h2.get? b = some o := fun b o e => by rw [← hh2]; exact Heap.get?_push_of_some _ (hk1 b o e)
  have look2 : ∀ v ∈ its, ∃ t o us n f, v = Value.ref t ∧ h2.get? t = some o ∧ o.cls = .type "tuple" ∧ o.data = .seq us.toArray n ∧ PyProof.Rows.tupItems shape 0 us = some ((rw0 (.ref t)).map kyV) ∧ us[0]? = some f ∧ (shape 0 = false → ∃ k t, f = .int k t) ∧ (shape 0 = true → ∃ x t, f = .str x t) := fun v hv => by
    obtain ⟨t, o, us, n, f, e0, ho, r⟩ := look v hv
    exact ⟨t, o, us, n, f, e0, k2 _ _ ho, r⟩
  have key : ∀ v ∈ its, PyProof.Rows.G.tupKeyC h2 shape v = some ((rw0 (bkV v)).map kyV) := fun v hv => by
    obtain ⟨t, o, us, n, f, rfl, ho, hc, hd, hi, _⟩ := look2 v hv
    unfold PyProof.Rows.G.tupKeyC PyProof.Rows.G.isTupObj PyProof.Rows.tupKey
    simp only [ho, hc, hd]
    rw [if_pos (by simp)]
    exact hi
  have tups : ∀ l : List Value, (∀ v ∈ l, v ∈ its) → ∃ fs, PyProof.Rows.TupsOf h2 shape l fs := by
    intro l
    induction l with
    | nil => intro _; exact ⟨[], .nil⟩
    | cons v l ih =>
      intro hm
      obtain ⟨fs, hf⟩ := ih fun u hu => hm u (List.mem_cons_of_mem _ hu)
      obtain ⟨t, o, us, n, f, rfl, ho, hc, hd, hi, h0, h1, h2⟩ := look2 v (hm v List.mem_cons_self)
      exact ⟨f :: fs, .cons ⟨t, o, us.toArray, n, rfl, ho, hc, hd, by simpa using h0, h1, h2⟩ hf⟩
  obtain ⟨fs, hf⟩ := tups its fun _ h => h
  refine wpAny_bind (wpAny_holding (wpAny_call_entry PyProof.Rows.slot_list_sort ⟨_, hoL, rfl⟩ PyProof.Rows.entry_list_sort (PyProof.Rows.G.list_sort_tups (s := { s with heap := h2 }) (shape := shape) hoL hf (fun v hv => ⟨_, key v hv⟩) (by rw [← rv.length]; exact hz) fun st' a1 a2 a3 => ⟨_, rfl, ?srt⟩) (PyProof.Rows.args_list_sort _)))
  have hperm : (arrOf st').toList.Perm (its.zip its) := by
    have := a1.toList
    rwa [pairsOf_toList] at this
  have same : ∀ p ∈ (arrOf st').toList, p.1 = p.2 ∧ p.1 ∈ its := fun p hp => mem_zip_self (hperm.mem_iff.mp hp)
  generalize hout : ((arrOf st').map (·.2) : Array Value) = out
  have ho : out.toList = (arrOf st').toList.map (·.2) := by rw [← hout]; simp
  have hpo : out.toList.Perm its := by
    rw [ho]
    have z := hperm.map Prod.snd
    rw [List.map_snd_zip (Nat.le_refl _)] at z
    exact z
  obtain ⟨ep, he'⟩ := PyProof.Rows.sortedHeap_at (vs := its) (out := out) hoL
  have h3 : ∀ u ∈ out.toList, ∃ a, u = Value.ref a := fun u hu => e2 u (hpo.mem_iff.mp hu)
  have hp : (out.toList.map bkV).Perm xs := by
    rw [e1]
    exact hpo.map bkV
  have hlen : (out.toList.map bkV).length ≤ sizeLine := by
    rw [hp.length_eq]
    exact hz
  have old : ∀ b o, h1.get? b = some o → (sortedHeap h2 h1.objs.size its out).get? b = some o := fun b o e => by
    have l : b < h1.objs.size := Heap.lt_size e
    rw [PyProof.Rows.sortedHeap_old (Nat.ne_of_lt l) (by rw [← hh2, PyProof.Rows.size_push']; exact Nat.lt_succ_of_lt l), ← hh2]
    exact Heap.get?_push_of_some _ e
  have I1 : Inv X pins σ H { s with heap := h1 } := I.kept (t' := s.toks) hk1
  refine wpAny_pure ⟨_, rfl, .ref h1.objs.size, upd H h1.objs.size (.lst (out.toList.map bkV)), I1.laid (t' := s.toks) old (Nat.le_refl _) (show ObjOk X.prog X.w _ _ _ (.lst (out.toList.map bkV)) from ⟨hlen, out.toList, ep, bkV_vals h3, by rw [Array.toArray_toList]; exact he'⟩), rfl, q _ _ hp ?_ (I1.hok.fresh (Nat.le_refl _))⟩
  rw [List.pairwise_map, ho, List.pairwise_map]
  rw [List.pairwise_iff_getElem]
  intro i j hi hj hij
  have hj' : j < (pairsOf its).size := by
    rw [pairsOf_size]
    have := hperm.length_eq
    simp at this hj ⊢
    omega
  have kk : ∀ m (hm : m < (arrOf st').toList.length), PyProof.Rows.KK (PyProof.Rows.G.tupKindC h2 shape) (arrOf st') m = (rw0 (bkV (arrOf st').toList[m].2)).map kyV := fun m hm => by
    obtain ⟨s1, s2⟩ := same _ (List.getElem_mem hm)
    unfold PyProof.Rows.KK
    rw [show (arrOf st')[m]? = some (arrOf st').toList[m] by simp]
    show (PyProof.Rows.G.tupKeyC h2 shape (arrOf st').toList[m].1).getD [] = _
    rw [key _ s2, ← s1]
    rfl
  have z : PyProof.Rows.lexLt PyProof.Rows.itemOrd (PyProof.Rows.KK (PyProof.Rows.G.tupKindC h2 shape) (arrOf st') j) (PyProof.Rows.KK (PyProof.Rows.G.tupKindC h2 shape) (arrOf st') i) = false := a2 i j (Nat.le_of_lt hij) hj'
  rw [kk i hi, kk j hj, rowLt_eq] at z
  exact z
end
end TG
end
section
namespace TG
open PySem PySem.Spec PyProof.Rows L2

def Bt.nm : Bt → Str
  | .len => "len" | .abs => "abs" | .min => "min" | .max => "max" | .sum => "sum" | .all => "all" | .any => "any" | .sorted => "sorted"
  | .tuple => "tuple" | .list => "list" | .dict => "dict" | .set => "set" | .int => "int" | .str => "str" | .repr => "repr" | .divmod => "divmod" | .tupp => "tuple"
def Bt.ty : Bt → Option String
  | .tuple => some "tuple" | .tupp => some "tuple" | .list => some "list" | .dict => some "dict" | .set => some "set" | .int => some "int" | .str => some "str" | _ => none
def Bt.id : Bt → String
  | .len => "len" | .abs => "abs" | .min => "min" | .max => "max" | .sum => "sum" | .all => "all" | .any => "any" | .sorted => "sorted"
  | .repr => "repr" | .divmod => "divmod" | _ => ""
def Bt.val (b : Bt) : Value := match b.ty with
  | some T => .type T
  | none => .builtin b.id
theorem bt_boot (b : Bt) : bootBuiltins b.nm = some b.val ∧ b.nm ≠ "__name__" ∧ (b.nm == ("__debug__" : Str)) = false := by
  cases b
  all_goals refine ⟨?_, by decide +kernel, by decide +kernel⟩
  all_goals first
    | exact PySem.boot_len
    | exact PyProof.Rows.boot_abs
    | exact PyProof.Rows.boot_min
    | exact PyProof.Rows.boot_max
    | exact PyProof.Rows.boot_sum
    | exact PyProof.Rows.boot_all
    | exact PyProof.Rows.boot_any
    | exact PyProof.Rows.boot_sorted
    | exact PyProof.Rows.boot_tuple
    | exact PyProof.Rows.boot_list
    | exact PyProof.Rows.boot_dict
    | exact PyProof.Rows.boot_set
    | exact PyProof.Rows.boot_int
    | exact PyProof.Rows.boot_str
    | exact PyProof.Rows.boot_repr
    | exact PyProof.Rows.boot_divmod

section
variable {K : PySem.W.Frag} {Z : Addr → Prop} {H : Hp}
theorem ints_of : ∀ {vs : List V} {ds : List D} {ns : List Int}, Reps K Z H vs ds → intsD ds = some ns → vs = ns.map V.int ∧ ds = ns.map D.int
  | _, _, _, .nil, e => by cases e; exact ⟨rfl, rfl⟩
  | _, _, _, .cons (d := d) (ds := ds) h r, e => by
    cases d <;> simp only [intsD] at e <;> try cases e
    cases e2 : intsD ds with
    | none => rw [e2] at e; cases e
    | some ms =>
      rw [e2] at e; cases e
      obtain ⟨e3, e4⟩ := ints_of r e2
      cases h
      rw [e3, e4]; exact ⟨rfl, rfl⟩
theorem strs_of : ∀ {vs : List V} {ds : List D} {ns : List Str}, Reps K Z H vs ds → strsD ds = some ns → vs = ns.map V.str ∧ ds = ns.map D.str
  | _, _, _, .nil, e => by cases e; exact ⟨rfl, rfl⟩
  | _, _, _, .cons (d := d) (ds := ds) h r, e => by
    cases d <;> simp only [strsD] at e <;> try cases e
    cases e2 : strsD ds with
    | none => rw [e2] at e; cases e
    | some ms =>
      rw [e2] at e; cases e
      obtain ⟨e3, e4⟩ := strs_of r e2
      cases h
      rw [e3, e4]; exact ⟨rfl, rfl⟩
theorem bls_of : ∀ {vs : List V} {ds : List D} {ns : List Bool}, Reps K Z H vs ds → blsD ds = some ns → vs = ns.map V.bl
  | _, _, _, .nil, e => by cases e; rfl
  | _, _, _, .cons (d := d) (ds := ds) h r, e => by
    cases d <;> simp only [blsD] at e <;> try cases e
    cases e2 : blsD ds with
    | none => rw [e2] at e; cases e
    | some ms =>
      rw [e2] at e; cases e
      have e3 := bls_of r e2
      cases h
      rw [e3]; rfl
theorem reps_ints (ns : List Int) : Reps K Z H (ns.map V.int) (ns.map D.int) := by
  induction ns with
  | nil => exact .nil
  | cons n r ih => exact .cons (.int n) ih
theorem reps_strs (ns : List Str) : Reps K Z H (ns.map V.str) (ns.map D.str) := by
  induction ns with
  | nil => exact .nil
  | cons n r ih => exact .cons (.str n) ih
theorem pairs_of' : ∀ {vs : List V} {ds : List D} {kds : List (Key × D)}, Reps K Z H vs ds → pairsD ds = some kds →
    ∃ (ps : List Addr) (kvs : List (Key × V)), vs = ps.map V.ref ∧ Paired (fun p kv => SqT K H p [kV kv.1, kv.2]) ps kvs ∧ RepKs K Z H kvs kds
  | _, _, _, .nil, e => by cases e; exact ⟨[], [], rfl, .nil, .nil⟩
  | _, _, _, .cons (v := v) (d := d) (ds := ds) h r, e => by
    match d, h, e with
    | .tup [k, x], h, e =>
      simp only [pairsD] at e
      cases e1 : keyD k with
      | none => rw [e1] at e; cases e
      | some k' =>
        cases e2 : pairsD ds with
        | none => rw [e1, e2] at e; cases e
        | some r' =>
          rw [e1, e2] at e; cases e
          obtain ⟨ps, kvs, e3, p, rr⟩ := pairs_of' r e2
          cases h with
          | tup ht rt =>
            cases rt with
            | cons ha rt =>
              cases rt with
              | cons hb rt =>
                cases rt
                rw [ha.key e1] at ht
                exact ⟨_ :: ps, (k', _) :: kvs, by rw [e3]; rfl, .cons ht.sq p, .cons hb rr⟩
    | .tup [], _, e => cases e
    | .tup [_], _, e => cases e
    | .tup (_ :: _ :: _ :: _), _, e => cases e
    | .non, _, e => cases e
    | .bl _, _, e => cases e
    | .int _, _, e => cases e
    | .str _, _, e => cases e
    | .lst _, _, e => cases e
    | .scr _, _, e => cases e
    | .dct _, _, e => cases e
    | .dtt _, _, e => cases e
theorem RepKs.put {v : V} {d : D} {k : Key} (h : Rep K Z H v d) : ∀ {kvs : List (Key × V)} {kds : List (Key × D)}, RepKs K Z H kvs kds → RepKs K Z H (putK kvs k v) (dput kds k d) := by
  intro kvs kds r
  have a : (kvs.any fun kv => decide (kv.1 = k)) = kds.any fun kv => decide (kv.1 = k) := by
    induction kvs generalizing kds with
    | nil => cases r; rfl
    | cons p q ih =>
      cases r with
      | cons h r => rw [List.any_cons, List.any_cons, ih r]
  unfold putK dput
  rw [a]
  split
  · next hc =>
    clear a hc
    induction kvs generalizing kds with
    | nil => cases r; exact .nil
    | cons p q ih =>
      cases r with
      | @cons j w e _ _ h' r =>
        rw [List.map_cons, List.map_cons]
        by_cases c : j = k
        · rw [if_pos c, if_pos c]; exact .cons h (ih r)
        · rw [if_neg c, if_neg c]; exact .cons h' (ih r)
  · next hc =>
    clear a hc
    induction kvs generalizing kds with
    | nil => cases r; exact .cons h .nil
    | cons p q ih =>
      cases r with
      | cons h' r => exact .cons h' (ih r)
theorem RepTs.put {v : V} {d : D} {k : List Key} (h : Rep K Z H v d) : ∀ {kvs : List (List Key × V)} {kds : List (List Key × D)}, RepTs K Z H kvs kds → RepTs K Z H (putK kvs k v) (dput kds k d) := by
  intro kvs kds r
  have a : (kvs.any fun kv => decide (kv.1 = k)) = kds.any fun kv => decide (kv.1 = k) := by
    induction kvs generalizing kds with
    | nil => cases r; rfl
    | cons p q ih =>
      cases r with
      | cons h r => rw [List.any_cons, List.any_cons, ih r]
  unfold putK dput
  rw [a]
  split
  · next hc =>
    clear a hc
    induction kvs generalizing kds with
    | nil => cases r; exact .nil
    | cons p q ih =>
      cases r with
      | @cons j w e _ _ h' r =>
        rw [List.map_cons, List.map_cons]
        by_cases c : j = k
        · rw [if_pos c, if_pos c]; exact .cons h (ih r)
        · rw [if_neg c, if_neg c]; exact .cons h' (ih r)
  · next hc =>
    clear a hc
    induction kvs generalizing kds with
    | nil => cases r; exact .cons h .nil
    | cons p q ih =>
      cases r with
      | cons h' r => exact .cons h' (ih r)
theorem RepKs.merge : ∀ {more : List (Key × V)} {md : List (Key × D)} {kvs : List (Key × V)} {kds : List (Key × D)}, RepKs K Z H more md → RepKs K Z H kvs kds → RepKs K Z H (mergeK kvs more) (dmerge kds md)
  | _, _, _, _, .nil, r => r
  | _, _, _, _, .cons (k := k) (v := v) (d := d) (vs := vs) (ds := ds) h m, r => by
    show RepKs K Z H (mergeK (putK _ k v) vs) (dmerge (dput _ k d) ds)
    exact RepKs.merge m (r.put h)
end
inductive RepTL (K : PySem.W.Frag) (Z : Addr → Prop) (H : Hp) : List V → List D → Prop
  | nil : RepTL K Z H [] []
  | cons {v : V} {d : D} {vs : List V} {ds : List D} (h : RepT K Z H v d) (r : RepTL K Z H vs ds) : RepTL K Z H (v :: vs) (d :: ds)
abbrev R1 := List V → Hp → VK → Prop
section
variable {X : Cx}
def BltOk (X : Cx) (b : Bt) : Prop := ∃ r : R1, CallR X b.val r ∧ ∀ (Z : Addr → Prop) (H : Hp) (xs : List V) (ds : List D) (Kp : Rv → Prop) (Q : VK), RepTL X.K Z H xs ds → dBlt b ds Kp →
    (∀ z v H', Kp z → Out X.K Z H z v H' → Q v H') → r xs H Q
theorem call_none {f : Value} : CallR X f (fun _ _ _ => False) := fun _ _ _ _ _ _ _ _ _ h => h.elim
theorem un1 {K : PySem.W.Frag} {Z : Addr → Prop} {H : Hp} {u : D → (Rv → Prop) → Prop} {xs : List V} {ds : List D} {Kp : Rv → Prop} (hx : RepTL K Z H xs ds) (hd : un u ds Kp) : ∃ v d, xs = [v] ∧ RepT K Z H v d ∧ u d Kp := by
  cases hx with
  | nil => exact hd.elim
  | cons h r =>
    cases r with
    | nil => exact ⟨_, _, rfl, h, hd⟩
    | cons _ _ => exact hd.elim
theorem bi1 {K : PySem.W.Frag} {Z : Addr → Prop} {H : Hp} {u : D → D → (Rv → Prop) → Prop} {xs : List V} {ds : List D} {Kp : Rv → Prop} (hx : RepTL K Z H xs ds) (hd : bi u ds Kp) : ∃ v d w e, xs = [v, w] ∧ RepT K Z H v d ∧ RepT K Z H w e ∧ u d e Kp := by
  cases hx with
  | nil => exact hd.elim
  | cons h r =>
    cases r with
    | nil => exact hd.elim
    | cons h' r =>
      cases r with
      | nil => exact ⟨_, _, _, _, rfl, h, h', hd⟩
      | cons _ _ => exact hd.elim
theorem ub1 {K : PySem.W.Frag} {Z : Addr → Prop} {H : Hp} {u : D → (Rv → Prop) → Prop} {w : D → D → (Rv → Prop) → Prop} {xs : List V} {ds : List D} {Kp : Rv → Prop} (hx : RepTL K Z H xs ds) (hd : ub u w ds Kp) :
    (∃ v d, xs = [v] ∧ RepT K Z H v d ∧ u d Kp) ∨ ∃ v d z e, xs = [v, z] ∧ RepT K Z H v d ∧ RepT K Z H z e ∧ w d e Kp := by
  cases hx with
  | nil => exact hd.elim
  | cons h r =>
    cases r with
    | nil => exact .inl ⟨_, _, rfl, h, hd⟩
    | cons h' r =>
      cases r with
      | nil => exact .inr ⟨_, _, _, _, rfl, h, h', hd⟩
      | cons _ _ => exact hd.elim
theorem call_lenR : CallR X (.builtin "len") (fun xs H Q => ∃ (a : Addr) (kvs : List (Key × V)), xs = [.ref a] ∧ Rd H a (.dK kvs) ∧ Q (.int kvs.length) H) := by
  intro pins s σ H xs us Q I r h
  obtain ⟨a, kvs, rfl, hd, q⟩ := h
  obtain ⟨u, rfl, rx⟩ := vals1 r
  cases rx
  exact L2.d_len I hd fun t s' I' => ⟨.int _, H, I', ⟨_, rfl⟩, q⟩
theorem blt_len (hu : X.A.units + 64 < cLine) (hc : X.calm = true) : BltOk X .len := by
  refine ⟨_, call_len_str.or (call_len_seq.or call_lenR), fun Z H xs ds Kp Q hx hd q => ?_⟩
  obtain ⟨v, d, rfl, h, hd⟩ := un1 hx hd
  cases d <;> try exact hd.elim
  · rename_i z
    cases h.str
    exact .inl ⟨z, rfl, hd.1, q _ _ _ hd.2 (.same (.int _))⟩
  · rename_i ds
    obtain ⟨a, vs, rfl, h, r⟩ := h.tup
    exact .inr (.inl ⟨a, vs, rfl, .inr h.sq, by rw [r.length]; exact q _ _ _ hd (.same (.int _))⟩)
  · rename_i ds
    obtain ⟨a, vs, rfl, h, r⟩ := h.lst
    exact .inr (.inl ⟨a, vs, rfl, .inl (SqL.of h), by rw [r.length]; exact q _ _ _ hd (.same (.int _))⟩)
  · rename_i ds
    obtain ⟨a, vs, rfl, h, r⟩ := h.scr
    exact .inr (.inl ⟨a, vs, rfl, .inl h, by rw [r.length]; exact q _ _ _ hd (.same (.int _))⟩)
  · rename_i ds
    obtain ⟨a, vs, rfl, h, r⟩ := h.dct
    exact .inr (.inr ⟨a, vs, rfl, h, by rw [r.length]; exact q _ _ _ hd (.same (.int _))⟩)
theorem blt_abs (hu : X.A.units + 64 < cLine) (hc : X.calm = true) : BltOk X .abs := by
  refine ⟨_, call_abs, fun Z H xs ds Kp Q hx hd q => ?_⟩
  obtain ⟨v, d, rfl, h, hd⟩ := un1 hx hd
  cases d <;> try exact hd.elim
  · rename_i i
    cases h.int
    exact ⟨i, rfl, q _ _ _ hd (.same (.int _))⟩
theorem call_minP (hc : X.calm = true) (hu : X.A.units + 64 < cLine) : CallR X (.builtin "min") (fun xs H Q => ∃ (a : Addr) (vs : List V) (x : PyData) (ps : List PyData), xs = [.ref a] ∧ SqL X.K H a vs ∧ DpAll X.K H vs (x :: ps) ∧ PySem.W.AlikeAll (x :: ps) ∧ PyData.depthAll (x :: ps) ≤ 30 ∧
    ∀ (i : Nat) (v : V), vs[i]? = some v → (x :: ps)[i]? = some (PySem.W.minD x ps) → Q v H) := by
  intro pins s σ H xs us Q I r h
  obtain ⟨a, vs, x, ps, rfl, hs, hd, al, dp, q⟩ := h
  obtain ⟨its, rv, hl, _⟩ := I.list hs
  obtain ⟨as, rd⟩ := Dp.readsAll I _ _ _ hd rv
  rw [Vals.ref1 r]
  refine PySem.W.min_list_data (I.ok.hd hc) hl.isList (by simpa using rd) al (by omega) fun i v h' tk bs hv hr hk => ?_
  have hv : its[i]? = some v := by simpa using hv
  have li : i < vs.length := by rw [rv.length]; exact (List.getElem?_eq_some_iff.mp hv).1
  have hw := List.getElem?_eq_getElem li
  obtain ⟨u, hu', rw'⟩ := rv.get hw
  rw [hv] at hu'
  cases hu'
  obtain ⟨bs2, r2, l2, _, _⟩ := PySem.W.readsAll_at rd i v hv
  have u := (Reads.keeps hk r2).unique _ _ hr
  refine ⟨_, H, I.kept (t' := tk) fun b o e => hk b o e, rw', q i _ hw ?_⟩
  rw [← u.1, List.getD_eq_getElem?_getD, List.getElem?_eq_getElem l2]; rfl
theorem call_minT (hc : X.calm = true) (hu : X.A.units + 64 < cLine) : CallR X (.builtin "min") (fun xs H Q => ∃ (a : Addr) (vs : List V) (x : PyData) (ps : List PyData), xs = [.ref a] ∧ SqT X.K H a vs ∧ DpAll X.K H vs (x :: ps) ∧ PySem.W.AlikeAll (x :: ps) ∧ PyData.depthAll (x :: ps) ≤ 30 ∧
    ∀ (i : Nat) (v : V), vs[i]? = some v → (x :: ps)[i]? = some (PySem.W.minD x ps) → Q v H) := by
  intro pins s σ H xs us Q I r h
  obtain ⟨a, vs, x, ps, rfl, hs, hd, al, dp, q⟩ := h
  obtain ⟨its, rv, hl, _⟩ := I.tuple hs
  obtain ⟨as, rd⟩ := Dp.readsAll I _ _ _ hd rv
  rw [Vals.ref1 r]
  refine PySem.W.min_tuple_data (I.ok.hd hc) hl (by simpa using rd) al (by omega) fun i v h' tk bs hv hr hk => ?_
  have hv : its[i]? = some v := by simpa using hv
  have li : i < vs.length := by rw [rv.length]; exact (List.getElem?_eq_some_iff.mp hv).1
  have hw := List.getElem?_eq_getElem li
  obtain ⟨u, hu', rw'⟩ := rv.get hw
  rw [hv] at hu'
  cases hu'
  obtain ⟨bs2, r2, l2, _, _⟩ := PySem.W.readsAll_at rd i v hv
  have u := (Reads.keeps hk r2).unique _ _ hr
  refine ⟨_, H, I.kept (t' := tk) fun b o e => hk b o e, rw', q i _ hw ?_⟩
  rw [← u.1, List.getD_eq_getElem?_getD, List.getElem?_eq_getElem l2]; rfl
theorem call_maxT (hc : X.calm = true) (hu : X.A.units + 64 < cLine) : CallR X (.builtin "max") (fun xs H Q => ∃ (a : Addr) (vs : List V) (x : PyData) (ps : List PyData), xs = [.ref a] ∧ SqT X.K H a vs ∧ DpAll X.K H vs (x :: ps) ∧ PySem.W.AlikeAll (x :: ps) ∧ PyData.depthAll (x :: ps) ≤ 30 ∧
    ∀ (i : Nat) (v : V), vs[i]? = some v → (x :: ps)[i]? = some (PySem.W.maxD x ps) → Q v H) := by
  intro pins s σ H xs us Q I r h
  obtain ⟨a, vs, x, ps, rfl, hs, hd, al, dp, q⟩ := h
  obtain ⟨its, rv, hl, _⟩ := I.tuple hs
  obtain ⟨as, rd⟩ := Dp.readsAll I _ _ _ hd rv
  rw [Vals.ref1 r]
  refine PySem.W.max_tuple_data (I.ok.hd hc) hl (by simpa using rd) al (by omega) fun i v h' tk bs hv hr hk => ?_
  have hv : its[i]? = some v := by simpa using hv
  have li : i < vs.length := by rw [rv.length]; exact (List.getElem?_eq_some_iff.mp hv).1
  have hw := List.getElem?_eq_getElem li
  obtain ⟨u, hu', rw'⟩ := rv.get hw
  rw [hv] at hu'
  cases hu'
  obtain ⟨bs2, r2, l2, _, _⟩ := PySem.W.readsAll_at rd i v hv
  have u := (Reads.keeps hk r2).unique _ _ hr
  refine ⟨_, H, I.kept (t' := tk) fun b o e => hk b o e, rw', q i _ hw ?_⟩
  rw [← u.1, List.getD_eq_getElem?_getD, List.getElem?_eq_getElem l2]; rfl
theorem two_alike (x y : Str) : PySem.W.AlikeAll [.str x, .str y] := ⟨fun a ha b hb => by
  simp only [List.mem_cons, List.not_mem_nil, or_false] at ha hb
  rcases ha with rfl | rfl <;> rcases hb with rfl | rfl <;> rfl, fun a ha => by
  simp only [List.mem_cons, List.not_mem_nil, or_false] at ha
  rcases ha with rfl | rfl <;> exact fun h => nomatch h⟩
theorem two_min (x y : Str) : PySem.W.minD (.str x) [.str y] = .str (minS x y) := by
  show (if PySem.W.dataLt (.str y) (.str x) = true then PyData.str y else .str x) = _
  rw [PySem.W.dataLt_str]
  unfold minS
  by_cases h : y.cps.toList < x.cps.toList
  · rw [decide_eq_true h, if_pos rfl, if_pos h]
  · rw [decide_eq_false h, if_neg (by decide), if_neg h]
theorem two_max (x y : Str) : PySem.W.maxD (.str x) [.str y] = .str (maxS x y) := by
  show (if PySem.W.dataLt (.str x) (.str y) = true then PyData.str y else .str x) = _
  rw [PySem.W.dataLt_str]
  unfold maxS
  by_cases h : x.cps.toList < y.cps.toList
  · rw [decide_eq_true h, if_pos rfl, if_pos h]
  · rw [decide_eq_false h, if_neg (by decide), if_neg h]
theorem blt_min (hu : X.A.units + 64 < cLine) (hc : X.calm = true) : BltOk X .min := by
  refine ⟨_, (call_min2 hc).or ((cr_min hc).or ((cr_minS hc).or ((call_minP hc hu).or (call_minT hc hu)))), fun Z H xs ds Kp Q hx hd q => ?_⟩
  rcases ub1 hx hd with ⟨v, d, rfl, h, hd⟩ | ⟨v, d, w, e, rfl, h, h', hd⟩
  · cases d <;> try exact hd.elim
    · rename_i ds
      obtain ⟨a, vs, rfl, hl, r⟩ := h.tup
      have key : ∃ x y : Str, ds = [.str x, .str y] := by
        rcases ds with _ | ⟨d1, _ | ⟨d2, _ | ⟨d3, r0⟩⟩⟩
        · exact hd.elim
        · cases d1 <;> exact hd.elim
        · cases d1 <;> cases d2 <;> first | exact ⟨_, _, rfl⟩ | exact hd.elim
        · cases d1 <;> cases d2 <;> exact hd.elim
      obtain ⟨x, y, rfl⟩ := key
      obtain ⟨h1, k⟩ := hd
      refine .inr (.inr (.inr (.inr ⟨a, vs, .str x, [.str y], rfl, hl.sq, Reps.dp r h1, two_alike x y, ?_, fun i v hv hi => ?_⟩)))
      · show PyData.depthAll [.str x, .str y] ≤ 30
        simp [PyData.depthAll, PyData.depth]
      · obtain ⟨d, hd, rd⟩ := r.get' hv
        rw [two_min] at hi
        have e : d = .str (minS x y) := by
          rcases i with _ | _ | i
          · have e1 : d = .str x := (Option.some.inj hd).symm
            have e2 : PyData.str x = .str (minS x y) := Option.some.inj hi
            rw [e1]; exact congrArg D.str (PyData.str.inj e2)
          · have e1 : d = .str y := (Option.some.inj hd).symm
            have e2 : PyData.str y = .str (minS x y) := Option.some.inj hi
            rw [e1]; exact congrArg D.str (PyData.str.inj e2)
          · cases hd
        subst e
        exact q _ _ _ k (.same rd)
    · rename_i ds
      obtain ⟨a, vs, rfl, hl, r⟩ := h.lst
      have fin : ∀ ns : List Int, intsD ds = some ns → ns ≠ [] → (∀ m ∈ ns, (∀ y ∈ ns, m ≤ y) → Kp (.im (.int m))) → rMin X.K [V.ref a] H Q := fun ns e hn k => by
        obtain ⟨rfl, _⟩ := ints_of r e
        exact ⟨a, ns, rfl, SqL.of hl, List.length_pos_iff.mpr hn, fun m h1 h2 => q _ _ _ (k m h1 h2) (.same (.int _))⟩
      have hd : u_minL ds Kp := hd
      clear h hx
      cases ds with
      | nil =>
        obtain ⟨ns, e, hn, k⟩ := hd
        exact .inr (.inl (fin ns e hn k))
      | cons d r0 =>
        cases d
        case tup =>
          rename_i x _
          obtain ⟨⟨h1, h2, h3⟩, k⟩ := hd
          refine .inr (.inr (.inr (.inl ⟨a, vs, (D.tup x).toP, D.toPs r0, rfl, SqL.of hl, Reps.dp r h1, h2, ?_, fun i v hv hi => ?_⟩)))
          · have := toPs_dep (.tup x :: r0) h1
            rw [show (D.tup x).toP :: D.toPs r0 = D.toPs (.tup x :: r0) from rfl, this]
            exact h3
          · obtain ⟨d, hd, rd⟩ := r.get' hv
            have e1 : (D.toPs (.tup x :: r0))[i]? = some (PySem.W.minD (D.tup x).toP (D.toPs r0)) := hi
            rw [toPs_map, List.getElem?_map, hd] at e1
            have e2 : d.toP = (minDD (.tup x) r0).toP := by
              rw [minDD_toP, ← toPs_map]
              exact Option.some.inj e1
            have e3 := toP_inj _ _ (plns_mem h1 (List.mem_of_getElem? hd)) (plns_mem h1 (minDD_mem _ _)) e2
            rw [← e3] at k
            exact q _ _ _ k (.same rd)
        all_goals
          obtain ⟨ns, e, hn, k⟩ := hd
          exact .inr (.inl (fin ns e hn k))
  · cases d <;> cases e <;> try exact hd.elim
    · rename_i i j
      cases h.int
      cases h'.int
      exact .inl ⟨i, j, rfl, q _ _ _ hd (.same (.int _))⟩
    · rename_i i j
      cases h.str
      cases h'.str
      exact .inr (.inr (.inl ⟨i, j, rfl, q _ _ _ hd (.same (.str _))⟩))
theorem blt_max (hu : X.A.units + 64 < cLine) (hc : X.calm = true) : BltOk X .max := by
  refine ⟨_, (call_max2 hc).or ((cr_max hc).or ((cr_maxS hc).or (call_maxT hc hu))), fun Z H xs ds Kp Q hx hd q => ?_⟩
  rcases ub1 hx hd with ⟨v, d, rfl, h, hd⟩ | ⟨v, d, w, e, rfl, h, h', hd⟩
  · cases d <;> try exact hd.elim
    · rename_i ds
      obtain ⟨a, vs, rfl, hl, r⟩ := h.tup
      have key : ∃ x y : Str, ds = [.str x, .str y] := by
        rcases ds with _ | ⟨d1, _ | ⟨d2, _ | ⟨d3, r0⟩⟩⟩
        · exact hd.elim
        · cases d1 <;> exact hd.elim
        · cases d1 <;> cases d2 <;> first | exact ⟨_, _, rfl⟩ | exact hd.elim
        · cases d1 <;> cases d2 <;> exact hd.elim
      obtain ⟨x, y, rfl⟩ := key
      obtain ⟨h1, k⟩ := hd
      refine .inr (.inr (.inr ⟨a, vs, .str x, [.str y], rfl, hl.sq, Reps.dp r h1, two_alike x y, ?_, fun i v hv hi => ?_⟩))
      · show PyData.depthAll [.str x, .str y] ≤ 30
        simp [PyData.depthAll, PyData.depth]
      · obtain ⟨d, hd, rd⟩ := r.get' hv
        rw [two_max] at hi
        have e : d = .str (maxS x y) := by
          rcases i with _ | _ | i
          · have e1 : d = .str x := (Option.some.inj hd).symm
            have e2 : PyData.str x = .str (maxS x y) := Option.some.inj hi
            rw [e1]; exact congrArg D.str (PyData.str.inj e2)
          · have e1 : d = .str y := (Option.some.inj hd).symm
            have e2 : PyData.str y = .str (maxS x y) := Option.some.inj hi
            rw [e1]; exact congrArg D.str (PyData.str.inj e2)
          · cases hd
        subst e
        exact q _ _ _ k (.same rd)
    · rename_i ds
      obtain ⟨a, vs, rfl, h, r⟩ := h.lst
      obtain ⟨ns, e, hn, k⟩ := hd
      obtain ⟨rfl, _⟩ := ints_of r e
      exact .inr (.inl ⟨a, ns, rfl, SqL.of h, List.length_pos_iff.mpr hn, fun m h1 h2 => q _ _ _ (k m h1 h2) (.same (.int _))⟩)
  · cases d <;> cases e <;> try exact hd.elim
    · rename_i i j
      cases h.int
      cases h'.int
      exact .inl ⟨i, j, rfl, q _ _ _ hd (.same (.int _))⟩
    · rename_i i j
      cases h.str
      cases h'.str
      exact .inr (.inr (.inl ⟨i, j, rfl, q _ _ _ hd (.same (.str _))⟩))
theorem sum_rawT {prog : Program} {w : World} {A : Around} {E : Value → Shared → Prop} {s : Shared} {l : Addr} {its : List Value} {ns : List Int} {Q : Value → Shared → Prop} (hh : A.handled = none) (hl : s.heap.IsTuple l its.toArray) (hi : IntsAre its ns)
    (h : ∀ h' tk t', (∀ b o, s.heap.get? b = some o → h'.get? b = some o) → Q (.int ns.sum t') { s with heap := h', toks := tk }) : wpAny (model prog w) A (call (.builtin "sum") [.ref l]) Q E s := by
  obtain ⟨xs, e⟩ := hi.allInts.items
  have hn : numsOf (intItems xs).toList = ns := by rw [← e]; exact hi.numsOf
  rw [nums_intItems] at hn
  rw [e] at hl
  refine PySem.W.ktm_sumG hh hl fun h' tk t' hk => ?_
  have := h h' tk t' hk
  rw [preSum_eq, List.take_of_length_le (by simp), hn]; exact this
theorem cr_sumT (hc : X.calm = true) : CallR X (.builtin "sum") (fun vs H Q => ∃ (a : Addr) (ns : List Int), vs = [V.ref a] ∧ SqT X.K H a (ns.map V.int) ∧ Q (.int ns.sum) H) := by
  intro pins s σ H vs us Q I r h
  obtain ⟨a, ns, rfl, hs, q⟩ := h
  obtain ⟨its, rv, hl, _⟩ := I.tuple hs
  rw [Vals.ref1 r]
  exact sum_rawT (I.ok.hd hc) hl rv.ints fun h' tk t' hk => ⟨.int _, H, I.kept hk, ⟨_, rfl⟩, q⟩
theorem blt_sum (hu : X.A.units + 64 < cLine) (hc : X.calm = true) : BltOk X .sum := by
  refine ⟨_, (cr_sum hc).or (cr_sumT hc), fun Z H xs ds Kp Q hx hd q => ?_⟩
  obtain ⟨v, d, rfl, h, hd⟩ := un1 hx hd
  cases d <;> try exact hd.elim
  · rename_i ds
    obtain ⟨a, vs, rfl, h, r⟩ := h.tup
    obtain ⟨ns, e, k⟩ := hd
    obtain ⟨rfl, _⟩ := ints_of r e
    exact .inr ⟨a, ns, rfl, h.sq, q _ _ _ k (.same (.int _))⟩
  · rename_i ds
    obtain ⟨a, vs, rfl, h, r⟩ := h.lst
    obtain ⟨ns, e, k⟩ := hd
    obtain ⟨rfl, _⟩ := ints_of r e
    exact .inl ⟨a, ns, rfl, SqL.of h, q _ _ _ k (.same (.int _))⟩
theorem blt_all (hu : X.A.units + 64 < cLine) (hc : X.calm = true) : BltOk X .all := by
  refine ⟨_, cr_all hc, fun Z H xs ds Kp Q hx hd q => ?_⟩
  obtain ⟨v, d, rfl, h, hd⟩ := un1 hx hd
  cases d <;> try exact hd.elim
  · rename_i ds
    obtain ⟨a, vs, rfl, h, r⟩ := h.lst
    obtain ⟨ns, e, k⟩ := hd
    cases bls_of r e
    exact ⟨a, ns, rfl, SqL.of h, q _ _ _ k (.same (.bl _))⟩
theorem blt_any (hu : X.A.units + 64 < cLine) (hc : X.calm = true) : BltOk X .any := by
  refine ⟨_, cr_any hc, fun Z H xs ds Kp Q hx hd q => ?_⟩
  obtain ⟨v, d, rfl, h, hd⟩ := un1 hx hd
  cases d <;> try exact hd.elim
  · rename_i ds
    obtain ⟨a, vs, rfl, h, r⟩ := h.lst
    obtain ⟨ns, e, k⟩ := hd
    cases bls_of r e
    exact ⟨a, ns, rfl, SqL.of h, q _ _ _ k (.same (.bl _))⟩
theorem perm_map_back {α β : Type} {g : α → β} : ∀ {l m : List β}, l.Perm m → ∀ ts : List α, m = ts.map g → ∃ ts' : List α, ts'.Perm ts ∧ l = ts'.map g := by
  intro l m h
  induction h with
  | nil => intro ts e; cases ts <;> simp at e; exact ⟨[], .nil, rfl⟩
  | cons x _ ih =>
    intro ts e
    cases ts with
    | nil => simp at e
    | cons t ts =>
      simp at e
      obtain ⟨ts', p, e'⟩ := ih ts e.2
      exact ⟨t :: ts', p.cons t, by rw [List.map_cons, ← e', e.1]⟩
  | swap x y l =>
    intro ts e
    rcases ts with _ | ⟨t, _ | ⟨u, ts⟩⟩ <;> simp at e
    exact ⟨u :: t :: ts, .swap .., by simp [e]⟩
  | trans _ _ ih1 ih2 =>
    intro ts e
    obtain ⟨ts1, p1, e1⟩ := ih2 ts e
    obtain ⟨ts2, p2, e2⟩ := ih1 ts1 e1
    exact ⟨ts2, p2.trans p1, e2⟩
theorem ky_of {K : PySem.W.Frag} {Z : Addr → Prop} {H : Hp} {shape : Nat → Bool} : ∀ {vs : List V} {ds : List D} {i : Nat}, Reps K Z H vs ds → shD shape i ds = true → shV shape i vs = true ∧ vs.map kyV = ds.map kyD
  | _, _, _, .nil, _ => ⟨rfl, rfl⟩
  | _, _, i, .cons (d := d) h r, e => by
    cases d <;> simp only [shD] at e <;> try cases e
    · rw [Bool.and_eq_true] at e
      cases h
      obtain ⟨h1, h2⟩ := ky_of r e.2
      exact ⟨by simp only [shV]; rw [e.1, h1]; rfl, by rw [List.map_cons, List.map_cons, h2]; rfl⟩
    · rw [Bool.and_eq_true] at e
      cases h
      obtain ⟨h1, h2⟩ := ky_of r e.2
      exact ⟨by simp only [shV]; rw [e.1, h1]; rfl, by rw [List.map_cons, List.map_cons, h2]; rfl⟩
theorem trip_of {K : PySem.W.Frag} {Z : Addr → Prop} {H : Hp} : ∀ {rows : List (List D)} {vs : List V}, Reps K Z H vs (rows.map .tup) → ∃ ts : List ((V × List V) × List D), ts.map (·.1.1) = vs ∧ ts.map (·.2) = rows ∧ ∀ t ∈ ts, ∃ a, t.1.1 = V.ref a ∧ TAt K Z H a t.1.2 ∧ Reps K Z H t.1.2 t.2
  | [], _, r => by cases r; exact ⟨[], rfl, rfl, fun t h => nomatch h⟩
  | row :: rows, _, r => by
    cases r with
    | cons h r =>
      obtain ⟨ts, e1, e2, h3⟩ := trip_of r
      cases h with
      | @tup a ws _ h1 r1 =>
        refine ⟨((.ref a, ws), row) :: ts, by simp [e1], by simp [e2], fun t ht => ?_⟩
        rcases List.mem_cons.mp ht with rfl | ht
        · exact ⟨a, rfl, h1, r1⟩
        · exact h3 t ht
theorem reps_trip {K : PySem.W.Frag} {Z : Addr → Prop} {H : Hp} : ∀ {ts : List ((V × List V) × List D)}, (∀ t ∈ ts, ∃ a, t.1.1 = V.ref a ∧ TAt K Z H a t.1.2 ∧ Reps K Z H t.1.2 t.2) → Reps K Z H (ts.map (·.1.1)) ((ts.map (·.2)).map .tup)
  | [], _ => .nil
  | t :: ts, h => by
    obtain ⟨a, e, h1, r1⟩ := h t List.mem_cons_self
    refine .cons ?_ (reps_trip fun u hu => h u (List.mem_cons_of_mem _ hu))
    show Rep K Z H t.1.1 (.tup t.2)
    rw [e]
    exact .tup h1 r1
theorem RepKs.fsts {K : PySem.W.Frag} {Z : Addr → Prop} {H : Hp} : ∀ {kvs : List (Key × V)} {kds : List (Key × D)}, RepKs K Z H kvs kds → kvs.map (·.1) = kds.map (·.1)
  | _, _, .nil => rfl
  | _, _, .cons _ r => by rw [List.map_cons, List.map_cons, RepKs.fsts r]
theorem blt_sorted (hu : X.A.units + 64 < cLine) (hc : X.calm = true) : BltOk X .sorted := by
  refine ⟨_, cr_sorted.or (cr_sortedS.or (cr_sortR.or ((call_sortedD hc).or (cr_sortT.or cr_sortTS)))), fun Z H xs ds Kp Q hx hd q => ?_⟩
  obtain ⟨v, d, rfl, h, hd⟩ := un1 hx hd
  cases d <;> try exact hd.elim
  case dct kvs =>
    obtain ⟨a, vs, rfl, ha, r⟩ := h.dct
    obtain ⟨ks, e, h64, k⟩ := hd
    exact .inr (.inr (.inr (.inl ⟨a, vs, ks, rfl, ha, r.fsts.trans e, h64, fun ys p h1 h2 hp => q _ _ _ (k ys h1 h2) (.lst hp (reps_strs ys))⟩)))
  case tup ds =>
    obtain ⟨a, vs, rfl, ha, r⟩ := h.tup
    rcases hd with ⟨shape, rows, e, hsh, k⟩ | ⟨xs, e, h64, k⟩
    rotate_left
    · obtain ⟨rfl, _⟩ := strs_of r e
      exact .inr (.inr (.inr (.inr (.inr ⟨a, xs, rfl, ha.sq, h64, fun ys p h1 h2 hp => q _ _ _ (k ys h1 h2) (.lst hp (reps_strs ys))⟩))))
    subst e
    obtain ⟨ts, rfl, rfl, h3⟩ := trip_of r
    refine .inr (.inr (.inr (.inr (.inl ⟨a, ts.map (·.1), shape, rfl, by rw [List.map_map]; exact ha.sq, fun z hz => ?_, fun zs' p h1 h2 hp => ?_⟩))))
    · obtain ⟨t, ht, rfl⟩ := List.mem_map.mp hz
      obtain ⟨b, e, h4, r4⟩ := h3 t ht
      obtain ⟨s1, s2⟩ := hsh t.2 (List.mem_map.mpr ⟨t, ht, rfl⟩)
      refine ⟨b, e, h4.sq, fun e => ?_, (ky_of r4 s2).1⟩
      have l := r4.length
      rw [e] at l
      exact s1 (List.eq_nil_of_length_eq_zero l.symm)
    · obtain ⟨ts', p1, rfl⟩ := perm_map_back h1 ts rfl
      have h3' : ∀ t ∈ ts', ∃ a, t.1.1 = V.ref a ∧ TAt X.K Z H a t.1.2 ∧ Reps X.K Z H t.1.2 t.2 := fun t ht => h3 t (p1.mem_iff.mp ht)
      have kk : ∀ t ∈ ts', t.1.2.map kyV = t.2.map kyD := fun t ht => by
        obtain ⟨b, e, h4, r4⟩ := h3' t ht
        exact (ky_of r4 (hsh t.2 (List.mem_map.mpr ⟨t, p1.mem_iff.mp ht, rfl⟩)).2).2
      have := q (.fr (.lst ((ts'.map (·.2)).map .tup))) (.ref p) (upd H p (.lst (ts'.map (·.1.1)))) (k (ts'.map (·.2)) (p1.map _) (List.pairwise_map.mpr (List.Pairwise.imp_of_mem (fun {x y} hx hy hxy => by rw [← kk x hx, ← kk y hy]; exact hxy) (List.pairwise_map.mp h2)))) (.lst hp (reps_trip h3'))
      rw [List.map_map]
      exact this
  obtain ⟨a, vs, rfl, ha, r⟩ := h.lst
  clear h
  have h := ha
  clear ha
  rcases hd with ⟨ns, e, h64, k⟩ | ⟨ns, e, h64, k⟩ | ⟨shape, rows, e, hsh, k⟩
  · obtain ⟨rfl, _⟩ := ints_of r e
    exact .inl ⟨a, ns, rfl, SqL.of h, h64, fun ms p h1 h2 hp => q _ _ _ (k ms h1 h2) (.lst hp (reps_ints ms))⟩
  · obtain ⟨rfl, _⟩ := strs_of r e
    exact .inr (.inl ⟨a, ns, rfl, SqL.of h, h64, fun ms p h1 h2 hp => q _ _ _ (k ms h1 h2) (.lst hp (reps_strs ms))⟩)
  · subst e
    obtain ⟨ts, rfl, rfl, h3⟩ := trip_of r
    refine .inr (.inr (.inl ⟨a, ts.map (·.1), shape, rfl, by rw [List.map_map]; exact SqL.of h, fun z hz => ?_, fun zs' p h1 h2 hp => ?_⟩))
    · obtain ⟨t, ht, rfl⟩ := List.mem_map.mp hz
      obtain ⟨b, e, h4, r4⟩ := h3 t ht
      obtain ⟨s1, s2⟩ := hsh t.2 (List.mem_map.mpr ⟨t, ht, rfl⟩)
      refine ⟨b, e, h4.sq, fun e => ?_, (ky_of r4 s2).1⟩
      have l := r4.length
      rw [e] at l
      exact s1 (List.eq_nil_of_length_eq_zero l.symm)
    · obtain ⟨ts', p1, rfl⟩ := perm_map_back h1 ts rfl
      have h3' : ∀ t ∈ ts', ∃ a, t.1.1 = V.ref a ∧ TAt X.K Z H a t.1.2 ∧ Reps X.K Z H t.1.2 t.2 := fun t ht => h3 t (p1.mem_iff.mp ht)
      have kk : ∀ t ∈ ts', t.1.2.map kyV = t.2.map kyD := fun t ht => by
        obtain ⟨b, e, h4, r4⟩ := h3' t ht
        exact (ky_of r4 (hsh t.2 (List.mem_map.mpr ⟨t, p1.mem_iff.mp ht, rfl⟩)).2).2
      have := q (.fr (.lst ((ts'.map (·.2)).map .tup))) (.ref p) (upd H p (.lst (ts'.map (·.1.1)))) (k (ts'.map (·.2)) (p1.map _) (List.pairwise_map.mpr (List.Pairwise.imp_of_mem (fun {x y} hx hy hxy => by rw [← kk x hx, ← kk y hy]; exact hxy) (List.pairwise_map.mp h2)))) (.lst hp (reps_trip h3'))
      rw [List.map_map]
      exact this
theorem blt_tuple (hu : X.A.units + 64 < cLine) (hc : X.calm = true) : BltOk X .tuple := by
  refine ⟨_, call_tuple_of, fun Z H xs ds Kp Q hx hd q => ?_⟩
  obtain ⟨v, d, rfl, h, hd⟩ := un1 hx hd
  cases d <;> try exact hd.elim
  · rename_i ds
    obtain ⟨a, vs, rfl, h, r⟩ := h.tup
    exact ⟨a, vs, rfl, .inr ⟨h.sq, q _ _ _ hd (.same (.tup h r))⟩⟩
  · rename_i ds
    obtain ⟨a, vs, rfl, h, r⟩ := h.lst
    exact ⟨a, vs, rfl, .inl ⟨SqL.of h, fun p hp => q _ _ _ hd (.tup hp r)⟩⟩
theorem pickL {α β : Type} : ∀ {P : Nat → α → β → Prop} (l : List α), (∀ j a, l[j]? = some a → ∃ b, P j a b) → ∃ bs : List β, bs.length = l.length ∧ ∀ j a b, l[j]? = some a → bs[j]? = some b → P j a b
  | _, [], _ => ⟨[], rfl, fun j a b h => by simp at h⟩
  | P, a :: l, h => by
    obtain ⟨b, hb⟩ := h 0 a rfl
    obtain ⟨bs, e, k⟩ := pickL (P := fun j => P (j + 1)) l fun j a q => h (j + 1) a (by simpa using q)
    refine ⟨b :: bs, by rw [List.length_cons, List.length_cons, e], fun j x y hx hy => ?_⟩
    cases j with
    | zero => cases hx; cases hy; exact hb
    | succ j => exact k j x y (by simpa using hx) (by simpa using hy)
/-- tuple(list), the new tuple known whole -/
theorem call_tupleP : CallR X (.type "tuple") (fun xs H Q => ∃ (a : Addr) (vs : List V), xs = [.ref a] ∧ SqL X.K H a vs ∧ ∀ p (o : Obj), H p = none → o.dict = none → Q (.ref p) (upd H p (.frz o (.tup vs)))) := by
  intro pins s σ H xs us Q I r q
  obtain ⟨a, vs, ex, hq, q⟩ := q
  subst ex
  obtain ⟨u, eu, rx⟩ := vals1 r
  subst eu
  cases rx
  obtain ⟨its, rv, pl, hz⟩ := I.list hq
  refine call_tuple_list pl.isList (fun h' hk => ?_) (by rw [List.size_toArray, ← rv.length]; exact hz)
  have I1 : Inv X pins σ H { s with heap := h' } := I.kept (t' := s.toks) hk
  have I2 : Inv X pins σ (upd H h'.objs.size (.frz { cls := .type "tuple", data := .seq its.toArray } (.tup vs))) { s with heap := h'.push { cls := .type "tuple", data := .seq its.toArray } } :=
    I1.laid (t' := s.toks) (fun b o e => Heap.get?_push_of_some _ e) (Nat.le_refl _) (show ObjOk X.prog X.w _ _ _ (.frz _ (.tup vs)) from ⟨Heap.get?_push_size _ rfl, hz, its, rv, IsTup.new _ _⟩)
  exact ⟨.ref h'.objs.size, _, I2, rfl, q _ _ (I1.hok.fresh (Nat.le_refl _)) rfl⟩
theorem blt_tupp (hu : X.A.units + 64 < cLine) (hc : X.calm = true) : BltOk X .tupp := by
  refine ⟨_, call_tupleP, fun Z H xs ds Kp Q hx hd q => ?_⟩
  obtain ⟨v, d, rfl, h, hd⟩ := un1 hx hd
  cases d <;> try exact hd.elim
  rename_i ds
  obtain ⟨a, vs, rfl, h, r⟩ := h.lst
  exact ⟨a, vs, rfl, SqL.of h, fun p o hp ho => q _ _ _ hd (.ptp hp ho r)⟩
/-- dict(a tuple of pairs) -/
theorem call_dictQ (hcalm : X.calm = true) : CallR X (.type "dict") (fun xs H Q => ∃ (a : Addr) (o : Obj) (ps : List Addr) (kvs : List (Key × V)), xs = [.ref a] ∧ (o.dict = none ∧ H a = some (.frz o (.tup (ps.map V.ref)))) ∧ Paired (fun p kv => SqT X.K H p [kV kv.1, kv.2]) ps kvs ∧
    ∀ p, H p = none → Q (.ref p) (upd H p (.dK (mergeK [] kvs)))) := by
  intro pins s σ H xs us Q I r q
  obtain ⟨a, o, ps, kvs, ex, ⟨hdn, hq⟩, hp, q⟩ := q
  subst ex
  obtain ⟨u, eu, rx⟩ := vals1 r
  subst eu
  cases rx
  obtain ⟨ho, hz, its, rv, ob, e, hc, n, hdat⟩ := (show ObjOk X.prog X.w H s.heap a (.frz o (.tup (ps.map V.ref))) from I.hok a _ hq)
  rw [ho] at e; cases e
  have ei := refs_at rv
  subst ei
  rw [List.length_map] at hz
  obtain ⟨prs, rel, hl, hpr⟩ := pairs_of I hp
  obtain ⟨us, el, hu⟩ := pickL (P := fun (j : Nat) (q : Key × Value) (u : Value) => ∃ b : Addr, ps[j]? = some b ∧ IsTup s.heap b #[u, q.2] ∧ keyIs q.1 u = true) prs fun j q e => by
    obtain ⟨b, u, e1, e2, e3⟩ := hpr j q e
    exact ⟨u, b, e1, e2, e3⟩
  have zl : (us.zip (prs.map (·.2))).length = prs.length := by simp [el]
  have at_ : ∀ (j : Nat) (k v : Value), (us.zip (prs.map (·.2)))[j]? = some (k, v) → ∃ (q : Key × Value) (b : Addr), prs[j]? = some q ∧ q.2 = v ∧ ps[j]? = some b ∧ IsTup s.heap b #[k, v] ∧ keyIs q.1 k = true := fun j k v e => by
    rw [List.getElem?_zip_eq_some] at e
    obtain ⟨e1, e2⟩ := e
    rw [List.getElem?_map] at e2
    cases hq : prs[j]? with
    | none => rw [hq] at e2; cases e2
    | some q' =>
      rw [hq] at e2
      have ev : q'.2 = v := Option.some.inj e2
      obtain ⟨b, h1, h2, h3⟩ := hu j q' k hq e1
      rw [ev] at h2
      exact ⟨q', b, rfl, ev, h1, h2, h3⟩
  refine PySem.call_dict_pairs (knd := mixKind X.prog X.w) (kvs := prs) (PairArg.tuple a (ps.map Value.ref).toArray (fun j => ps.getD j 0) (us.zip (prs.map (·.2)))) (I.ok.hd hcalm)
    ⟨⟨o, n, ho, hc, hdn, hdat⟩, by simp [el, hl], fun j k v e => ?_⟩ ⟨zl.symm, fun i key v e => ?_⟩ (by rw [zl, hl]; exact hz) fun h' tk hd' k => ?_
  · obtain ⟨q', b, h1, h2, h3, h4, h5⟩ := at_ j k v e
    have eb : ps.getD j 0 = b := by rw [List.getD_eq_getElem?_getD, h3]; rfl
    refine ⟨by simp [h3, eb], .inl ?_⟩
    show s.heap.IsTuple (ps.getD j 0) _
    rw [eb]; exact h4
  · obtain ⟨q', b, h1, h2, h3, h4, h5⟩ := at_ i key v e
    exact ⟨q'.1, by rw [h1, ← h2], h5⟩
  · have hm : (s.heap.objs.size == sysModules) = false := beq_eq_false_iff_ne.mpr (Nat.ne_of_gt I.big)
    have hlen : (mergeK [] kvs).length ≤ sizeLine := by
      refine Nat.le_trans (length_mergeK kvs []) ?_
      rw [List.length_nil, Nat.zero_add, rel.length, hl]
      exact hz
    exact ⟨.ref s.heap.objs.size, upd H s.heap.objs.size (.dK (mergeK [] kvs)), I.laid (t' := tk) (fun b o e => k b o (fun z => nomatch z) e) (Nat.le_refl _) (show ObjOk X.prog X.w _ _ _ (.dK (mergeK [] kvs)) from ⟨hlen, hm, merged [] prs, KV.merge rel .nil, hd'⟩), rfl, q _ (I.hok.fresh (Nat.le_refl _))⟩
theorem blt_list (hu : X.A.units + 64 < cLine) (hc : X.calm = true) : BltOk X .list := by
  refine ⟨_, call_list_of, fun Z H xs ds Kp Q hx hd q => ?_⟩
  obtain ⟨v, d, rfl, h, hd⟩ := un1 hx hd
  cases d <;> try exact hd.elim
  · rename_i ds
    obtain ⟨a, vs, rfl, h, r⟩ := h.tup
    exact ⟨a, vs, rfl, .inr h.sq, fun p hp => q _ _ _ hd (.lst hp r)⟩
  · rename_i ds
    obtain ⟨a, vs, rfl, h, r⟩ := h.lst
    exact ⟨a, vs, rfl, .inl (SqL.of h), fun p hp => q _ _ _ hd (.lst hp r)⟩
theorem blt_dict (hu : X.A.units + 64 < cLine) (hc : X.calm = true) : BltOk X .dict := by
  refine ⟨_, call_dictD.or ((call_dictP hc).or (call_dictQ hc)), fun Z H xs ds Kp Q hx hd q => ?_⟩
  obtain ⟨v, d, rfl, h, hd⟩ := un1 hx hd
  cases d <;> try exact hd.elim
  · rename_i ds
    obtain ⟨a, vs, rfl, h, r⟩ := h.lst
    obtain ⟨kds, e, k⟩ := hd
    obtain ⟨ps, kvs, rfl, pr, rr⟩ := pairs_of' r e
    exact .inr (.inl ⟨a, ps, kvs, rfl, SqL.of h, pr, fun p hp => q _ _ _ k (.dct hp (rr.merge .nil))⟩)
  · rename_i ds
    obtain ⟨a, vs, rfl, h, r⟩ := h.dct
    exact .inl ⟨a, vs, rfl, h, fun p hp => q _ _ _ hd (.dct hp r)⟩
  · rename_i ds
    obtain ⟨a, vs, rfl, h, r⟩ := h.ptp
    obtain ⟨kds, e, k⟩ := hd
    obtain ⟨ps, kvs, rfl, pr, rr⟩ := pairs_of' r e
    obtain ⟨_, o, ho, hh⟩ := h
    exact .inr (.inr ⟨a, o, ps, kvs, rfl, ⟨ho, hh⟩, pr, fun p hp => q _ _ _ k (.dct hp (rr.merge .nil))⟩)
theorem blt_int (hu : X.A.units + 64 < cLine) (hc : X.calm = true) : BltOk X .int := by
  refine ⟨_, call_int1.or call_int_str, fun Z H xs ds Kp Q hx hd q => ?_⟩
  obtain ⟨v, d, rfl, h, hd⟩ := un1 hx hd
  cases d <;> try exact hd.elim
  · rename_i b
    cases h.bl
    exact .inl (.inr ⟨b, rfl, q _ _ _ hd (.same (.int _))⟩)
  · rename_i b
    cases h.int
    exact .inl (.inl ⟨b, rfl, q _ _ _ hd (.same (.int _))⟩)
  · rename_i a
    cases h.str
    obtain ⟨n, e, l, k⟩ := hd
    exact .inr ⟨a, n, rfl, e, l, q _ _ _ k (.same (.int _))⟩
theorem blt_str (hu : X.A.units + 64 < cLine) (hc : X.calm = true) : BltOk X .str := by
  refine ⟨_, call_str_int, fun Z H xs ds Kp Q hx hd q => ?_⟩
  obtain ⟨v, d, rfl, h, hd⟩ := un1 hx hd
  cases d <;> try exact hd.elim
  rename_i i
  cases h.int
  exact ⟨i, rfl, hd.1, q _ _ _ hd.2 (.same (.str _))⟩
theorem blt_divmod (hu : X.A.units + 64 < cLine) (hc : X.calm = true) : BltOk X .divmod := by
  refine ⟨_, call_divmodW, fun Z H xs ds Kp Q hx hd q => ?_⟩
  obtain ⟨v, d, w, e, rfl, h, h', hd⟩ := bi1 hx hd
  cases d <;> try exact hd.elim
  cases e <;> try exact hd.elim
  cases h.int
  cases h'.int
  exact ⟨_, _, rfl, hd.1, fun p hp => q _ _ _ hd.2 (.tup hp (.cons (.int _) (.cons (.int _) .nil)))⟩
/-- repr of a list, a tuple, where nothing is being shown -/
theorem call_reprP (hg : X.A.guards = some []) (hu : X.A.units + 64 < cLine) : CallR X (.builtin "repr") (fun xs H Q => ∃ (a : Addr) (d : PyData), xs = [.ref a] ∧ Dp X.K H (.ref a) d ∧ d.showable = true ∧ d.hasDict = false ∧ d.depth ≤ 40 ∧ d.shown.length ≤ sizeLine ∧ Q (.str d.shown) H) := by
  intro pins s σ H xs us Q I r h
  obtain ⟨a, d, rfl, hd, h1, h2, h3, h4, q⟩ := h
  obtain ⟨u, rfl, rx⟩ := vals1 r
  obtain ⟨as, rd⟩ := Dp.reads I d _ u hd rx
  cases rx
  refine repr_of_reads' rd h1 (PyData.noDict_hsm h2) hg (by omega) (fun _ _ e => e) (fun h' t tk hk => ?_) h4
  exact ⟨.str _, H, I.kept (t' := tk) fun b o e => hk b o e, ⟨_, rfl⟩, q⟩
theorem call_reprB : CallR X (.builtin "repr") (fun xs H Q => ∃ b, xs = [.bl b] ∧ Q (.str (if b then "True" else "False")) H) := by
  intro pins s σ H xs us Q I r h
  obtain ⟨b, rfl, q⟩ := h
  obtain ⟨u, rfl, rx⟩ := vals1 r
  cases rx
  exact PySem.P.repr_of_bool ⟨.str _, H, I.tok _, ⟨_, rfl⟩, q⟩
theorem call_reprN : CallR X (.builtin "repr") (fun xs H Q => xs = [.non] ∧ Q (.str "None") H) := by
  intro pins s σ H xs us Q I r h
  obtain ⟨rfl, q⟩ := h
  obtain ⟨u, rfl, rx⟩ := vals1 r
  cases rx
  exact PySem.P.repr_of_none ⟨.str _, H, I.tok _, ⟨_, rfl⟩, q⟩
theorem call_reprI : CallR X (.builtin "repr") (fun xs H Q => ∃ i, xs = [.int i] ∧ i.natAbs.log2 < 1920 ∧ Q (.str (toString i)) H) := by
  intro pins s σ H xs us Q I r h
  obtain ⟨i, rfl, hz, q⟩ := h
  obtain ⟨u, rfl, t, rfl⟩ := vals1 r
  exact PySem.P.repr_of_int hz ⟨.str _, H, I.tok _, ⟨_, rfl⟩, q⟩
theorem call_reprS : CallR X (.builtin "repr") (fun xs H Q => ∃ x, xs = [.str x] ∧ (reprText x).length ≤ sizeLine ∧ Q (.str (reprText x)) H) := by
  intro pins s σ H xs us Q I r h
  obtain ⟨x, rfl, hz, q⟩ := h
  obtain ⟨u, rfl, t, rfl⟩ := vals1 r
  exact PySem.P.repr_of_str ⟨.str _, H, I.tok _, ⟨_, rfl⟩, q⟩ hz
theorem blt_repr (hg : X.A.guards = some []) (hu : X.A.units + 64 < cLine) : BltOk X .repr := by
  refine ⟨_, call_reprN.or (call_reprI.or (call_reprB.or (call_reprS.or (call_reprP hg hu)))), fun Z H xs ds Kp Q hx hd q => ?_⟩
  obtain ⟨v, d, rfl, h, hd⟩ := un1 hx hd
  have fin : ∀ (a : Addr), v = .ref a → RpOk d ∧ Kp (.im (.str (repD d))) → ∃ (b : Addr) (e : PyData), [v] = [.ref b] ∧ Dp X.K H (.ref b) e ∧ e.showable = true ∧ e.hasDict = false ∧ e.depth ≤ 40 ∧ e.shown.length ≤ sizeLine ∧ Q (.str e.shown) H := fun a e ⟨ok, k⟩ => by
    subst e
    obtain ⟨s1, _, s3, _⟩ := toP_show d ok.1 ok.2.1
    exact ⟨a, d.toP, rfl, h.dp ok.1, s1, s3, by rw [toP_dep d ok.1]; exact ok.2.2.1, shown_len ok, q _ _ _ k (.same (.str _))⟩
  cases d <;> try exact hd.elim
  · cases h.non
    exact .inl ⟨rfl, q _ _ _ hd (.same (.str _))⟩
  · cases h.bl
    exact .inr (.inr (.inl ⟨_, rfl, q _ _ _ hd (.same (.str _))⟩))
  · cases h.int
    exact .inr (.inl ⟨_, rfl, hd.1, q _ _ _ hd.2 (.same (.str _))⟩)
  · cases h.str
    exact .inr (.inr (.inr (.inl ⟨_, rfl, hd.1, q _ _ _ hd.2 (.same (.str _))⟩)))
  · obtain ⟨a, _, e, _⟩ := h.tup
    exact .inr (.inr (.inr (.inr (fin a e hd))))
  · obtain ⟨a, _, e, _⟩ := h.lst
    exact .inr (.inr (.inr (.inr (fin a e hd))))
theorem blt_ok (hg : X.A.guards = some []) (hu : X.A.units + 64 < cLine) (hc : X.calm = true) (b : Bt) : BltOk X b := by
  cases b with
  | len => exact blt_len hu hc
  | abs => exact blt_abs hu hc
  | min => exact blt_min hu hc
  | max => exact blt_max hu hc
  | sum => exact blt_sum hu hc
  | all => exact blt_all hu hc
  | any => exact blt_any hu hc
  | sorted => exact blt_sorted hu hc
  | tuple => exact blt_tuple hu hc
  | tupp => exact blt_tupp hu hc
  | list => exact blt_list hu hc
  | dict => exact blt_dict hu hc
  | int => exact blt_int hu hc
  | str => exact blt_str hu hc
  | divmod => exact blt_divmod hu hc
  | repr => exact blt_repr hg hu
  | _ => exact ⟨_, call_none, fun _ _ _ _ _ _ _ hd _ => hd⟩
end
end TG
end
section
namespace TG
open PySem PySem.Spec PyProof.Rows L2

/-- what is known around a call: room, and nothing is being shown -/
structure RoomG (n : Nat) (Ar : Around) : Prop where
  rm : Room n Ar
  gd : Ar.guards = some []
theorem RoomG.mono {i j : Nat} {Ar : Around} (r : RoomG i Ar) (h : j ≤ i) : RoomG j Ar := ⟨r.rm.mono h, r.gd⟩
/-- as the kit's promise of a def, at such callers alone -/
structure FnG (P : Program) (w : World) (K : PySem.W.Frag) (gl : Str → Option Value) (bs : Heap) (n : Nat) (fa : Addr) (fd : FuncData) (qs : List Str) (sp : Sp) : Prop where
  ln : ∀ {xs Hh Qv Ex}, sp xs Hh Qv Ex → xs.length = qs.length
  go : ∀ {Ar : Around} {out : List PySem.Env} {st : Shared} {Hh : Hp} {ar : Args} {ys : List Value} {xs : List V} {Qv : VK} {Ex : XK}, RoomG n Ar → Env0 P w K gl bs Ar out st Hh →
    BindsTo st fd ar (qs.zip ys) → Vals xs ys → sp xs Hh Qv Ex → codeAny (model P w) Ar (.call (.ref fa) ar) (CR (L2N.CX P w) out P w Hh st Qv Ex) st
section
variable {P : Program} {w : World} {K : PySem.W.Frag} {gl : Str → Option Value} {bs : Heap} {n m : Nat} {fa : Addr} {fd : FuncData} {qs : List Str} {sp sp' : Sp}
theorem FnG.mono (F : FnG P w K gl bs m fa fd qs sp) (h : m ≤ n) : FnG P w K gl bs n fa fd qs sp := ⟨F.ln, fun {_ out} => fun r => F.go (out := out) (r.mono h)⟩
theorem FnG.imp (F : FnG P w K gl bs n fa fd qs sp) (h : ∀ xs Hh Qv Ex, sp' xs Hh Qv Ex → sp xs Hh Qv Ex) : FnG P w K gl bs n fa fd qs sp' :=
  ⟨fun q => F.ln (h _ _ _ _ q), fun {_ out} => fun r e b v q => F.go (out := out) r e b v (h _ _ _ _ q)⟩
/-- a def's promise from its body's -/
theorem FnG.body {k : Nat} {x qual : Str} {d : Stmt} {N : List Str} (F : L2.Fun K x qual d fa fd) (S : FnScope N qs (defScope d)) (ln : ∀ {xs Hh Qv Ex}, sp xs Hh Qv Ex → xs.length = qs.length)
    (bd : ∀ (cdv : Value) (Ar : Around) (out : List PySem.Env) (st : Shared) (Hh : Hp) (xs : List V) (Qv : VK) (Ex : XK), RoomG k (Ar.deeper (envOfC qual (defScope d) st.heap.objs.size fa cdv)) → sp xs Hh Qv Ex →
      ∃ t, PSs (cxOf (L2N.CX P w) P w K gl bs N qual (defScope d) fa cdv Ar out st Hh Ex) (defBody d) t ∧ t { nx := fun _ Hx => Qv .non Hx, rt := Qv } (start N xs) Hh) :
    FnG P w K gl bs (k + 1) fa fd qs sp where
  ln := ln
  go := by
    obtain ⟨oc, od, kV, doc, pm, an, cdv, ct, osl, rfl, lk, hcd⟩ := F.ex
    intro Ar out st Hh ar ys xs Qv Ex hr e0 hb rv hsp
    have kept : ∀ {b o}, bs.get? b = some o → st.heap.get? b = some o := fun e => (e0.bs _ _ e).1
    have inK : K.In st.heap := e0.mod.kin.keeps fun _ _ e => kept e
    have locals : ∀ y ∈ qs.zip ys, (defScope d).names.lookup y.1 = some .local ∨ ((defScope d).names.lookup y.1 = some .cell ∧ ((cellsFrom (st.heap.objs.size + 1) (defScope d).names []).lookup y.1).isSome = true) := by
      rintro ⟨z, v⟩ hz
      exact (S.par z (List.of_mem_zip hz).1).imp id fun q => ⟨q, PySem.W.cellsFrom_some _ _ _ (.inl q)⟩
    refine codeAny_call_function hr.rm.depth (inK _ _ lk) rfl S.co S.gen rfl (PySem.W.codeRec_of inK hcd) (hb _ _ _ _ ?_)
    refine wpAny_newFunctionEnv_cells S.kind locals fun ev hev s1 made => ?_
    subst hev
    obtain ⟨t, ht, hq⟩ := bd cdv Ar out st Hh xs Qv Ex ⟨hr.rm.deeper _, hr.gd⟩ hsp
    have I1 := inv_start (CX := L2N.CX P w) (E := Ex) S hr.rm.hd e0 (ln hsp) rv made
    refine ⟨(e0.mod.nolimit.keeps fun _ _ e => kept e).keeps made.toInCall.keep, codeAny_func ?_⟩
    refine wpAny_mono (ht.run [] s1 _ Hh _ I1 hq) (fun fl s' hs => ?_) fun _ _ q => q
    cases fl with
    | brk => exact hs.choose_spec.choose_spec.2.elim
    | cont => exact hs.choose_spec.choose_spec.2.elim
    | next =>
      obtain ⟨_, H2, J, q⟩ := hs
      exact ⟨.non, H2, J.os, J.bare, J.base, J.hok, rfl, q⟩
    | ret u =>
      obtain ⟨v, _, H2, J, r2, q⟩ := hs
      exact ⟨v, H2, J.os, J.bare, J.base, J.hok, r2, q⟩
end
section
variable {X : Cx} {n : Nat} {fa : Addr} {fd : FuncData} {qs : List Str} {sp : Sp} {Ek : L2.St → XK}
/-- the def is run from a body -/
theorem FnG.run (F : FnG X.prog X.w X.K X.mg X.base n fa fd qs sp) (hr : RoomG n X.A) (hb : Binds X.K fd qs []) {σ : L2.St} (px : PassesAt (L2N.CX X.prog X.w) X σ (Ek σ)) {pins : List (Addr × Obj)} {Hh : Hp} {st : Shared} {Qv : VK} {ys : List Value} {xs : List V}
    (I : Inv X pins σ Hh st) (rv : Vals xs ys) (h : sp xs Hh Qv (Ek σ)) : wpAny (model X.prog X.w) X.A (call (.ref fa) ys) (EP X pins σ Qv) X.xe st := by
  have bind : BindsTo st fd ⟨ys, []⟩ (qs.zip ys) := by
    have := hb st ys I.kIn (by rw [List.append_nil, ← rv.length]; exact F.ln h)
    rwa [List.append_nil] at this
  refine wpAny_call (codeAny_mono (F.go hr I.env0 bind rv h) ?_)
  rintro (ex | fl) s' hq
  · exact px pins Hh st ex s' I hq
  · cases fl <;> first | exact I.after hq | exact False.elim hq
theorem FnG.pe {x : Str} {p pos : Pos} {e : Expr} {es : List Expr} {t : TA} (F : FnG X.prog X.w X.K X.mg X.base n fa fd qs sp) (hr : RoomG n X.A) (hg : Gl X x) (hm : X.mg x = some (.ref fa)) (hk : PySem.W.keepIn X.K (.ref fa) = true) (hb : Binds X.K fd qs [])
    (px : ∀ σ, PassesAt (L2N.CX X.prog X.w) X σ (Ek σ)) (ha : PA X (e :: es) t) (hd : (x == ("__debug__" : Str)) = false) (he : starEach (e :: es) X.env = (false, eval e X.env) :: starEach es X.env) (hpl : (backTo pos (starEach es X.env)).any (·.1) = false) :
    PE X (.Call (.Name x p) (e :: es) [] pos) (tCallS sp Ek t) where
  run := by
    intro pins st σ Hh Qv I h
    have args := ha.run pos pins st σ Hh _ I h
    refine wpAny_Call_Name_kw (ld_glob I hg hm (PySem.W.callWith_K (h₀ := X.base) I.ok.mod.kin hk (thn args ?_) he hpl) hd)
    rintro ys s1 ⟨xs, H1, I1, rv, q⟩
    exact ⟨I1.kIn, F.run hr hb (px σ) I1 rv q⟩
end
end TG
end
section
namespace TG
open PySem PySem.Spec PyProof.Rows L2

def xAll : List Str := ["GoodsError", "NoWeb", "NoPlace", "NoTie", "NoLot", "NoWishes", "NoFlow", "NotPaired", "NoRoom", "NotEven", "NoTrade", "NoNumber", "NoText", "NoRow", "NoName"]
/-- what the written part says of the class of the refusals n -/
structure XCls (K : PySem.W.Frag) (mg : Str → Option Value) (n : Str) (C : Addr) : Prop where
  gC : mg n = some (.ref C)
  is : ∀ d D, mg d = some (.ref D) → d ∈ xAll → PySem.W.kitOne K (.ref C) (.ref D) = some (isaX n d)
  iv : PySem.W.kitOne K (.ref C) (.type "ValueError") = some true
  ex : ∀ d D, mg d = some (.ref D) → d ∈ xAll → PySem.W.exmOne K (.ref C) (.ref D) = some (isaX n d)
  ec : L2.ExcC K C
  xf : L2.XfC K C
  xn : fldOf n ≠ "" → PySem.W.findIn K (.ref C) (fldOf n) = some none
def XRep (mg : Str → Option Value) (K : PySem.W.Frag) (Z : Addr → Prop) (H : Hp) (cls : Value) (dd : Option Addr) (x : XD) : Prop :=
  ∃ C, cls = .ref C ∧ XCls K mg x.1 C ∧ XFld K Z H dd x.1 x.2
def WR (mg : Str → Option Value) (G : Gh) (R : XP) (σ : L2.St) : XK := fun cls dd H => ∃ Z env x, Rel G σ Z H env ∧ XRep mg G.K Z H cls dd x ∧ R x env
inductive ArgsOk (K : PySem.W.Frag) (Z : Addr → Prop) (H : Hp) : List Bool → List V → List D → List Addr → Prop
  | nil : ArgsOk K Z H [] [] [] []
  | im {v : V} {d : D} {ms : List Bool} {vs : List V} {ds : List D} {as : List Addr} (h : Rep K Z H v d) (r : ArgsOk K Z H ms vs ds as) : ArgsOk K Z H (false :: ms) (v :: vs) (d :: ds) as
  | io {a : Addr} {d : D} {ms : List Bool} {vs : List V} {ds : List D} {as : List Addr} (nz : ¬ Z a) (n : a ∉ as) (h : Top K Z H a d) (r : ArgsOk K Z H ms vs ds as) : ArgsOk K Z H (true :: ms) (.ref a :: vs) (d :: ds) (a :: as)
inductive FinOk (K : PySem.W.Frag) (Z : Addr → Prop) (H : Hp) : List Addr → List D → Prop
  | nil : FinOk K Z H [] []
  | cons {a : Addr} {d : D} {as : List Addr} {ds : List D} (h : Top K Z H a d) (r : FinOk K Z H as ds) : FinOk K Z H (a :: as) (d :: ds)
def RetOk (K : PySem.W.Frag) (H : Hp) (Z' : Addr → Prop) (H' : Hp) : Rv → V → Prop
  | .im d, v => Rep K Z' H' v d
  | .fr d, v => ∃ a, v = V.ref a ∧ ¬ Z' a ∧ H a = none ∧ Top K Z' H' a d
  | .bo _, _ => False
structure Aft (Z : Addr → Prop) (H : Hp) (as : List Addr) (Z' : Addr → Prop) (H' : Hp) : Prop where
  zz : ∀ b, Z b → Z' b
  zn : ∀ b, Z' b → Z b ∨ H b = none
  zt : ∀ b, Z' b → ∃ o, H' b = some o
  hk : ∀ b o, H b = some o → b ∉ as → H' b = some o
/-- a def's promise over plain data, as one over values -/
def lift (mg : Str → Option Value) (K : PySem.W.Frag) (fi : FI) : Sp := fun vs H Q E => ∃ Z ds as Qd Rd, ArgsOk K Z H fi.io vs ds as ∧ (∀ b, Z b → ∃ o, H b = some o) ∧ fi.sp ds Qd Rd ∧
  (∀ r fins v H' Z', Aft Z H as Z' H' → FinOk K Z' H' as fins → RetOk K H Z' H' r v → Qd r fins → Q v H') ∧
  ∀ x fins cls dd H' Z', Aft Z H as Z' H' → FinOk K Z' H' as fins → XRep mg K Z' H' cls dd x → Rd x fins → E cls dd H'

structure FnIs (P : Program) (w : World) (K : PySem.W.Frag) (mg : Str → Option Value) (base : Heap) (k : Nat) (f : Str) (fi : FI) : Prop where
  ex : ∃ (adr : Addr) (fd : FuncData) (ps : List Str), FnG P w K mg base k adr fd ps (lift mg K fi) ∧ mg f = some (.ref adr) ∧ PySem.W.keepIn K (.ref adr) = true ∧ Binds K fd ps []

structure XOk (Γ : Ga) (R : XP) (G : Gh) (N : List Str) (sc : Scope) (ow : Str → Bool) (bl : List Str) (X : Cx) : Prop where
  hN : X.N = N
  nd : N.Nodup
  hsc : X.env.scope = sc
  calm : X.calm = true
  hK : X.K = G.K
  un : X.A.units + 64 < cLine
  gd : X.A.guards = some []
  bl : ∀ x ∈ bl, X.mg x = none
  cs : ∀ x d, Γ.cs x = some d → ∃ v u, X.mg x = some u ∧ RelV v u ∧ ∀ Z H, Rep G.K Z H v d
  fn : ∀ f fi, Γ.fn f = some fi → ∃ k, RoomG k X.A ∧ FnIs X.prog X.w X.K X.mg X.base k f fi
  px : ∀ σ, PassesAt (L2N.CX X.prog X.w) X σ (WR X.mg G R σ)
  cell : ∀ x, ow x = true → X.fn x = true

section
variable (Γ : Ga) (R : XP) (G : Gh)
def tE (ex : Ex) : TE := fun σ H Q => ∃ Z env Q0, Rel G σ Z H env ∧ wpE Γ R ex env Q0 ∧ ∀ r env' v Z' H', Rel G σ Z' H' env' → Stp σ Z H env Z' H' env' → RepR G σ Z' H' env' r v → RepN H r v → Q0 r env' → Q v H'
def tT (ex : Ex) : TT := fun σ H Q => ∃ Z env Q0, Rel G σ Z H env ∧ wpT Γ R ex env Q0 ∧ ∀ k env' Z' H', Rel G σ Z' H' env' → Stp σ Z H env Z' H' env' → Q0 k env' → Q k H'
def tA (ex : Ex) : TA := fun σ H Q => ∃ Z env Q0, Rel G σ Z H env ∧ wpA Γ R ex env Q0 ∧ ∀ ds env' vs Z' H', Rel G σ Z' H' env' → Stp σ Z H env Z' H' env' → Reps G.K Z' H' vs ds → Q0 ds env' → Q vs H'
inductive RepRs (G : Gh) (σ : L2.St) (Z : Addr → Prop) (H : Hp) (env : Env) : List Rv → List V → Prop
  | nil : RepRs G σ Z H env [] []
  | cons {r : Rv} {v : V} {rs : List Rv} {vs : List V} (h : RepR G σ Z H env r v) (t : RepRs G σ Z H env rs vs) : RepRs G σ Z H env (r :: rs) (v :: vs)
def tB (ex : Ex) : TA := fun σ H Q => ∃ Z env Q0, Rel G σ Z H env ∧ wpB Γ R ex env Q0 ∧ ∀ rs env' vs Z' H', Rel G σ Z' H' env' → Stp σ Z H env Z' H' env' → RepRs G σ Z' H' env' rs vs → Q0 rs env' → Q vs H'
inductive RepNs (H : Hp) : List Rv → List V → Prop
  | nil : RepNs H [] []
  | cons {r : Rv} {v : V} {rs : List Rv} {vs : List V} (h : RepN H r v) (t : RepNs H rs vs) : RepNs H (r :: rs) (v :: vs)
def tCl (ms : List Bool) (ex : Ex) : TA := fun σ H Q => ∃ Z env Q0, Rel G σ Z H env ∧ wpC Γ R ex ms env Q0 ∧ ∀ rs env' vs Z' H', Rel G σ Z' H' env' → Stp σ Z H env Z' H' env' → RepRs G σ Z' H' env' rs vs → RepNs H rs vs → Q0 rs env' → Q vs H'
def tO (ex : Ex) : TO := fun σ H Q => ∃ Z env Q0, Rel G σ Z H env ∧ wpO Γ R ex env Q0 ∧ ∀ o env' Z' H', Rel G σ Z' H' env' → Stp σ Z H env Z' H' env' → Q0 o env' → Q o H'
end

section
variable {Γ : Ga} {R : XP} {G : Gh} {X : Cx} {σ : L2.St} {Z : Addr → Prop} {H : Hp} {env : Env} {N bl : List Str} {sc : Scope}
theorem pe_imp {e : Expr} {t t' : TE} (h : PE X e t) (i : ∀ σ H Q, t' σ H Q → t σ H Q) : PE X e t' := ⟨fun pins s σ H Q I hw => h.run pins s σ H Q I (i σ H Q hw)⟩
theorem pt_imp {e : Expr} {t t' : TT} (h : PT X e t) (i : ∀ σ H Q, t' σ H Q → t σ H Q) : PT X e t' := ⟨fun pins s σ H Q I hw => h.run pins s σ H Q I (i σ H Q hw)⟩
theorem pw_imp {e : Expr} {t t' : TT} (h : PW X e t) (i : ∀ σ H Q, t' σ H Q → t σ H Q) : PW X e t' := ⟨fun wh pins s σ H Q I hw => h.run wh pins s σ H Q I (i σ H Q hw)⟩
theorem pa_imp {e : List Expr} {t t' : TA} (h : PA X e t) (i : ∀ σ H Q, t' σ H Q → t σ H Q) : PA X e t' := ⟨fun pos pins s σ H Q I hw => h.run pos pins s σ H Q I (i σ H Q hw)⟩
theorem po_imp {e : Option Expr} {t t' : TO} (h : PO X e t) (i : ∀ σ H Q, t' σ H Q → t σ H Q) : PO X e t' := ⟨fun pins s σ H Q I hw => h.run pins s σ H Q I (i σ H Q hw)⟩
theorem pe_no {e : Expr} {t : TE} (h : ∀ σ H Q, ¬ t σ H Q) : PE X e t := ⟨fun _ _ σ H Q _ hw => (h σ H Q hw).elim⟩
theorem pt_no {e : Expr} {t : TT} (h : ∀ σ H Q, ¬ t σ H Q) : PT X e t := ⟨fun _ _ σ H Q _ hw => (h σ H Q hw).elim⟩

theorem rd_ok (Rl : Rel G σ Z H env) {r : Rv} {v : V} (V1 : RepR G σ Z H env r v) {K : D → Prop} (w : rd r env K) : ∃ d, RepT G.K Z H v d ∧ K d := by
  cases r with
  | im d => exact ⟨d, .inl V1, w⟩
  | fr d =>
    obtain ⟨a, rfl, _, _, _, t⟩ := V1
    exact ⟨d, .inr ⟨a, rfl, .inl t⟩, w⟩
  | bo i =>
    have V1 : σ[i]? = some (some v) := V1
    unfold rd at w
    simp only at w
    split at w
    · next d h =>
      obtain ⟨a, e, _, _, t⟩ := Rl.ow i d h
      rw [V1] at e; cases e
      exact ⟨d, .inr ⟨a, rfl, .inl t⟩, w⟩
    · next d h =>
      obtain ⟨e, _, _, t⟩ := Rl.io i d h
      rw [V1] at e; cases e
      exact ⟨d, .inr ⟨_, rfl, .inl t⟩, w⟩
    · next d h =>
      obtain ⟨u, e, t⟩ := Rl.im i d h
      rw [V1] at e; cases e
      exact ⟨d, .inl t, w⟩
    · next d h =>
      obtain ⟨a, e, _, t⟩ := Rl.lk i d h
      rw [V1] at e; cases e
      exact ⟨d, .inr ⟨a, rfl, .inr t⟩, w⟩
    · exact w.elim
theorem fz_ok {Z0 : Addr → Prop} {H0 : Hp} {env0 : Env} (Rl : Rel G σ Z H env) {r : Rv} {v : V} (S : Stp σ Z0 H0 env0 Z H env) (V1 : RepR G σ Z H env r v) (nw : RepN H0 r v) {K : D → Env → Prop} (w : fz r env K) :
    ∃ d env' Z', Rel G σ Z' H env' ∧ Stp σ Z0 H0 env0 Z' H env' ∧ Rep G.K Z' H v d ∧ K d env' := by
  cases r with
  | im d => exact ⟨d, env, Z, Rl, S, V1, w⟩
  | fr d =>
    obtain ⟨a, rfl, nz, no, h0, t⟩ := V1
    refine ⟨d, env, Zi Z a, Rl.freeze no h0 t.mut, ⟨⟨fun b z => .inl (S.grow.zz b z), fun b z => z.elim (S.grow.zn b) fun q => .inr (.inr (by rw [q]; exact nw a rfl)), S.grow.hk, S.grow.tr⟩, S.sub⟩, t.rep (fun _ z => .inl z) (.inr rfl), w⟩
  | bo i =>
    have V1 : σ[i]? = some (some v) := V1
    unfold fz at w
    simp only at w
    split at w
    · next d h =>
      obtain ⟨a, e, R1, S1, r1⟩ := Rl.freezeSlot h
      rw [V1] at e; cases e
      exact ⟨d, _, _, R1, S.trans S1, r1, w⟩
    · next d h =>
      obtain ⟨u, e, t⟩ := Rl.im i d h
      rw [V1] at e; cases e
      exact ⟨d, env, Z, Rl, S, t, w⟩
    · exact w.elim

theorem s_bin {op : Operator} {a b : Ex} {x y : Expr} {pos : Pos} (hK : X.K = G.K) (ha : PE X x (tE Γ R G a)) (hb : PE X y (tE Γ R G b)) : PE X (.BinOp x op y pos) (tE Γ R G (.bin op a b)) := by
  obtain ⟨r, hr, sem⟩ := bin_ok (X := X) op
  rw [hK] at sem
  refine pe_imp (pe_op hr ha hb) fun σ H Q ⟨Z, env, Q0, hR, hw, hq⟩ => ?_
  refine ⟨Z, env, _, hR, hw, fun r1 e1 v1 Z1 H1 R1 S1 V1 _ w1 => ⟨Z1, e1, _, R1, w1, fun r2 e2 v2 Z2 H2 R2 S2 V2 _ w2 => ?_⟩⟩
  obtain ⟨dx, tx, k1⟩ := rd_ok R2 (S2.repR R1 V1) w2
  obtain ⟨dy, ty, k2⟩ := rd_ok R2 V2 k1
  refine sem Z2 H2 v1 v2 dx dy _ Q tx ty k2 fun z v H' kz o => ?_
  obtain ⟨Z3, R3, S3, V3, N3⟩ := o.run R2
  have S := S1.trans S2
  exact hq z e2 v Z3 H' R3 (S.trans S3) V3 (S.repN N3) kz
theorem s_neg {a : Ex} {x : Expr} {pos : Pos} (ha : PE X x (tE Γ R G a)) : PE X (.UnaryOp .USub x pos) (tE Γ R G (.neg a)) := by
  refine pe_imp (pe_un un_neg ha) fun σ H Q ⟨Z, env, Q0, hR, hw, hq⟩ => ?_
  refine ⟨Z, env, _, hR, hw, fun r1 e1 v1 Z1 H1 R1 S1 V1 _ w1 => ?_⟩
  obtain ⟨dx, tx, i, rfl, k1⟩ := rd_ok R1 V1 w1
  cases tx.int
  exact ⟨i, rfl, hq (.im _) e1 _ Z1 H1 R1 S1 (Rep.int _) trivial k1⟩
theorem s_cmp {op : CmpOp} {a b : Ex} {x y : Expr} {pos : Pos} (hu : X.A.units + 64 < cLine) (hK : X.K = G.K) (hm : behindInMarks op y = false) (ha : PE X x (tE Γ R G a)) (hb : PE X y (tE Γ R G b)) : PE X (.Compare x [op] [y] pos) (tE Γ R G (.cmp op a b)) := by
  obtain ⟨r, hr, sem⟩ := cmp_ok (X := X) hu op
  rw [hK] at sem
  refine pe_imp (pe_cmpR hr ha hb hm) fun σ H Q ⟨Z, env, Q0, hR, hw, hq⟩ => ?_
  refine ⟨Z, env, _, hR, hw, fun r1 e1 v1 Z1 H1 R1 S1 V1 _ w1 => ⟨Z1, e1, _, R1, w1, fun r2 e2 v2 Z2 H2 R2 S2 V2 _ w2 => ?_⟩⟩
  obtain ⟨dx, tx, k1⟩ := rd_ok R2 (S2.repR R1 V1) w2
  obtain ⟨dy, ty, k2⟩ := rd_ok R2 V2 k1
  refine sem Z2 H2 v1 v2 dx dy _ Q tx ty k2 fun z kz => ?_
  exact hq (.im _) e2 _ Z2 H2 R2 (S1.trans S2) (Rep.bl _) trivial kz
theorem s_cmpT {op : CmpOp} {a b : Ex} {x y : Expr} {pos : Pos} (hu : X.A.units + 64 < cLine) (hK : X.K = G.K) (hm : behindInMarks op y = false) (ha : PE X x (tE Γ R G a)) (hb : PE X y (tE Γ R G b)) : PT X (.Compare x [op] [y] pos) (tT Γ R G (.cmp op a b)) := by
  obtain ⟨r, hr, sem⟩ := cmp_ok (X := X) hu op
  rw [hK] at sem
  refine pt_imp (pt_cmpR hr ha hb hm) fun σ H Q ⟨Z, env, Q0, hR, hw, hq⟩ => ?_
  refine ⟨Z, env, _, hR, hw, fun r1 e1 v1 Z1 H1 R1 S1 V1 _ w1 => ⟨Z1, e1, _, R1, w1, fun r2 e2 v2 Z2 H2 R2 S2 V2 _ w2 => ?_⟩⟩
  obtain ⟨dx, tx, k1⟩ := rd_ok R2 (S2.repR R1 V1) w2
  obtain ⟨dy, ty, k2⟩ := rd_ok R2 V2 k1
  refine sem Z2 H2 v1 v2 dx dy _ _ tx ty k2 fun z kz => ?_
  obtain ⟨k, e, kz⟩ := kz
  cases e
  exact ⟨_, rfl, hq _ e2 Z2 H2 R2 (S1.trans S2) kz⟩
theorem s_chain {op op' : CmpOp} {a b c : Ex} {x y z : Expr} {pos : Pos} (hu : X.A.units + 64 < cLine) (hK : X.K = G.K) (hm : lastMarks [op, op'] [y, z] = false) (ha : PE X x (tE Γ R G a)) (hb : PE X y (tE Γ R G b)) (hc : PE X z (tE Γ R G c)) :
    PE X (.Compare x [op, op'] [y, z] pos) (tE Γ R G (.chain op op' a b c)) := by
  obtain ⟨r, hr, sem⟩ := cmp_ok (X := X) hu op
  obtain ⟨r', hr', sem'⟩ := cmp_ok (X := X) hu op'
  rw [hK] at sem sem'
  refine pe_imp (pe_chain hr hr' ha hb hc hm) fun σ H Q ⟨Z, env, Q0, hR, hw, hq⟩ => ?_
  refine ⟨Z, env, _, hR, hw, fun r1 e1 v1 Z1 H1 R1 S1 V1 _ w1 => ⟨Z1, e1, _, R1, w1, fun r2 e2 v2 Z2 H2 R2 S2 V2 _ w2 => ?_⟩⟩
  obtain ⟨dx, tx, k1⟩ := rd_ok R2 (S2.repR R1 V1) w2
  obtain ⟨dy, ty, k2⟩ := rd_ok R2 V2 k1
  refine sem Z2 H2 v1 v2 dx dy _ _ tx ty k2 fun k kz => ⟨k, rfl, ?_⟩
  cases k with
  | false =>
    rw [if_neg Bool.false_ne_true] at kz ⊢
    exact hq (.im _) e2 _ Z2 H2 R2 (S1.trans S2) (Rep.bl _) trivial kz
  | true =>
    rw [if_pos rfl] at kz ⊢
    refine ⟨Z2, e2, _, R2, kz, fun r3 e3 v3 Z3 H3 R3 S3 V3 _ w3 => ?_⟩
    obtain ⟨dy, ty, k1⟩ := rd_ok R3 (S3.repR R2 V2) w3
    obtain ⟨dz, tz, k2⟩ := rd_ok R3 V3 k1
    refine sem' Z3 H3 v2 v3 dy dz _ _ ty tz k2 fun k kz => ?_
    exact hq (.im _) e3 _ Z3 H3 R3 ((S1.trans S2).trans S3) (Rep.bl _) trivial kz
theorem s_chainT {op op' : CmpOp} {a b c : Ex} {x y z : Expr} {pos : Pos} (hu : X.A.units + 64 < cLine) (hK : X.K = G.K) (hm : lastMarks [op, op'] [y, z] = false) (ha : PE X x (tE Γ R G a)) (hb : PE X y (tE Γ R G b)) (hc : PE X z (tE Γ R G c)) :
    PT X (.Compare x [op, op'] [y, z] pos) (tT Γ R G (.chain op op' a b c)) := by
  obtain ⟨r, hr, sem⟩ := cmp_ok (X := X) hu op
  obtain ⟨r', hr', sem'⟩ := cmp_ok (X := X) hu op'
  rw [hK] at sem sem'
  refine pt_imp (pt_chain hr hr' ha hb hc hm) fun σ H Q ⟨Z, env, Q0, hR, hw, hq⟩ => ?_
  refine ⟨Z, env, _, hR, hw, fun r1 e1 v1 Z1 H1 R1 S1 V1 _ w1 => ⟨Z1, e1, _, R1, w1, fun r2 e2 v2 Z2 H2 R2 S2 V2 _ w2 => ?_⟩⟩
  obtain ⟨dx, tx, k1⟩ := rd_ok R2 (S2.repR R1 V1) w2
  obtain ⟨dy, ty, k2⟩ := rd_ok R2 V2 k1
  refine sem Z2 H2 v1 v2 dx dy _ _ tx ty k2 fun k kz => ⟨k, rfl, ?_⟩
  cases k with
  | false =>
    rw [if_neg Bool.false_ne_true] at kz ⊢
    obtain ⟨k, e, kz⟩ := kz
    cases e
    exact ⟨_, rfl, hq _ e2 Z2 H2 R2 (S1.trans S2) kz⟩
  | true =>
    rw [if_pos rfl] at kz ⊢
    refine ⟨Z2, e2, _, R2, kz, fun r3 e3 v3 Z3 H3 R3 S3 V3 _ w3 => ?_⟩
    obtain ⟨dy, ty, k1⟩ := rd_ok R3 (S3.repR R2 V2) w3
    obtain ⟨dz, tz, k2⟩ := rd_ok R3 V3 k1
    refine sem' Z3 H3 v2 v3 dy dz _ _ ty tz k2 fun k kz => ?_
    obtain ⟨k, e, kz⟩ := kz
    cases e
    exact ⟨_, rfl, hq _ e3 Z3 H3 R3 ((S1.trans S2).trans S3) kz⟩
/-- the test of a plain expression -/
theorem s_truth {a : Ex} {x : Expr} (hK : X.K = G.K) (hne : ∀ env Q, wpT Γ R a env Q → wpE Γ R a env fun r e1 => rd r e1 fun d => ∃ k, dTru d = some k ∧ Q k e1)
    (he : ∀ whole, isTrue x X.env whole = (do let v ← whole; standAt x.pos; holding [v] (truthy v))) (ha : PE X x (tE Γ R G a)) : PT X x (tT Γ R G a) := by
  refine pt_imp (pt_truth ha he) fun σ H Q ⟨Z, env, Q0, hR, hw, hq⟩ => ?_
  refine ⟨Z, env, _, hR, hne _ _ hw, fun r1 e1 v1 Z1 H1 R1 S1 V1 _ w1 => ?_⟩
  obtain ⟨d, t, k, e, w⟩ := rd_ok R1 V1 w1
  have t' : RepT X.K Z1 H1 v1 d := by rw [hK]; exact t
  exact ⟨k, tru_of t' e, hq k e1 Z1 H1 R1 S1 w⟩
theorem s_and {a b : Ex} {x y : Expr} {zs : List Expr} {pos : Pos} (hK : X.K = G.K) (ha : PE X x (tE Γ R G a)) (hb : PE X (.BoolOp .And (y :: zs) pos) (tE Γ R G b)) : PE X (.BoolOp .And (x :: y :: zs) pos) (tE Γ R G (.andn a b)) := by
  refine pe_imp (pe_andT ha hb) fun σ H Q ⟨Z, env, Q0, hR, hw, hq⟩ => ?_
  refine ⟨Z, env, _, hR, hw, fun r1 e1 v1 Z1 H1 R1 S1 V1 N1 w1 => ?_⟩
  obtain ⟨d, t, k, e, w⟩ := rd_ok R1 V1 w1
  have t' : RepT X.K Z1 H1 v1 d := by rw [hK]; exact t
  refine ⟨k, tru_of t' e, ?_⟩
  cases k with
  | false => rw [if_neg Bool.false_ne_true] at w ⊢; exact hq _ _ _ _ _ R1 S1 V1 N1 w
  | true =>
    rw [if_pos rfl] at w ⊢
    exact ⟨Z1, e1, _, R1, w, fun r2 e2 v2 Z2 H2 R2 S2 V2 N2 w2 => hq _ _ _ _ _ R2 (S1.trans S2) V2 (S1.repN N2) w2⟩
theorem s_or {a b : Ex} {x y : Expr} {zs : List Expr} {pos : Pos} (hK : X.K = G.K) (ha : PE X x (tE Γ R G a)) (hb : PE X (.BoolOp .Or (y :: zs) pos) (tE Γ R G b)) : PE X (.BoolOp .Or (x :: y :: zs) pos) (tE Γ R G (.orn a b)) := by
  refine pe_imp (pe_orT ha hb) fun σ H Q ⟨Z, env, Q0, hR, hw, hq⟩ => ?_
  refine ⟨Z, env, _, hR, hw, fun r1 e1 v1 Z1 H1 R1 S1 V1 N1 w1 => ?_⟩
  obtain ⟨d, t, k, e, w⟩ := rd_ok R1 V1 w1
  have t' : RepT X.K Z1 H1 v1 d := by rw [hK]; exact t
  refine ⟨k, tru_of t' e, ?_⟩
  cases k with
  | true => rw [if_pos rfl] at w ⊢; exact hq _ _ _ _ _ R1 S1 V1 N1 w
  | false =>
    rw [if_neg Bool.false_ne_true] at w ⊢
    exact ⟨Z1, e1, _, R1, w, fun r2 e2 v2 Z2 H2 R2 S2 V2 N2 w2 => hq _ _ _ _ _ R2 (S1.trans S2) V2 (S1.repN N2) w2⟩
theorem s_not {a : Ex} {x : Expr} {pos : Pos} (hK : X.K = G.K) (ha : PE X x (tE Γ R G a)) : PE X (.UnaryOp .Not x pos) (tE Γ R G (.notn a)) := by
  refine pe_imp (pe_notT ha) fun σ H Q ⟨Z, env, Q0, hR, hw, hq⟩ => ?_
  refine ⟨Z, env, _, hR, hw, fun r1 e1 v1 Z1 H1 R1 S1 V1 _ w1 => ?_⟩
  obtain ⟨d, t, k, e, w⟩ := rd_ok R1 V1 w1
  have t' : RepT X.K Z1 H1 v1 d := by rw [hK]; exact t
  exact ⟨k, tru_of t' e, hq (.im _) _ _ _ _ R1 S1 (Rep.bl _) trivial w⟩
theorem s_andT {a b : Ex} {x y : Expr} {zs : List Expr} {pos : Pos} (ha : PT X x (tT Γ R G a)) (hb : PW X (.BoolOp .And (y :: zs) pos) (tT Γ R G b)) : PW X (.BoolOp .And (x :: y :: zs) pos) (tT Γ R G (.andn a b)) := by
  refine pw_imp (pw_and ha hb) fun σ H Q ⟨Z, env, Q0, hR, hw, hq⟩ => ?_
  refine ⟨Z, env, _, hR, hw, fun k e1 Z1 H1 R1 S1 w => ?_⟩
  cases k with
  | false => rw [if_neg Bool.false_ne_true] at w ⊢; exact hq _ _ _ _ R1 S1 w
  | true =>
    rw [if_pos rfl] at w ⊢
    exact ⟨Z1, e1, _, R1, w, fun k e2 Z2 H2 R2 S2 w2 => hq _ _ _ _ R2 (S1.trans S2) w2⟩
theorem s_orT {a b : Ex} {x y : Expr} {zs : List Expr} {pos : Pos} (ha : PT X x (tT Γ R G a)) (hb : PW X (.BoolOp .Or (y :: zs) pos) (tT Γ R G b)) : PW X (.BoolOp .Or (x :: y :: zs) pos) (tT Γ R G (.orn a b)) := by
  refine pw_imp (pw_or ha hb) fun σ H Q ⟨Z, env, Q0, hR, hw, hq⟩ => ?_
  refine ⟨Z, env, _, hR, hw, fun k e1 Z1 H1 R1 S1 w => ?_⟩
  cases k with
  | true => rw [if_pos rfl] at w ⊢; exact hq _ _ _ _ R1 S1 w
  | false =>
    rw [if_neg Bool.false_ne_true] at w ⊢
    exact ⟨Z1, e1, _, R1, w, fun k e2 Z2 H2 R2 S2 w2 => hq _ _ _ _ R2 (S1.trans S2) w2⟩
theorem s_notT {a : Ex} {x : Expr} {pos : Pos} (ha : PT X x (tT Γ R G a)) : PT X (.UnaryOp .Not x pos) (tT Γ R G (.notn a)) :=
  pt_imp (pt_not ha) fun σ H Q ⟨Z, env, Q0, hR, hw, hq⟩ => ⟨Z, env, _, hR, hw, fun k e1 Z1 H1 R1 S1 w => hq _ _ _ _ R1 S1 w⟩
theorem s_ife {c a b : Ex} {x y z : Expr} {pos : Pos} (hc : PT X x (tT Γ R G c)) (ha : PE X y (tE Γ R G a)) (hb : PE X z (tE Γ R G b)) : PE X (.IfExp x y z pos) (tE Γ R G (.ife c a b)) := by
  refine pe_imp (pe_ifExp hc ha hb) fun σ H Q ⟨Z, env, Q0, hR, hw, hq⟩ => ?_
  refine ⟨Z, env, _, hR, hw, fun k e1 Z1 H1 R1 S1 w => ?_⟩
  cases k with
  | true =>
    rw [if_pos rfl] at w ⊢
    exact ⟨Z1, e1, _, R1, w, fun r2 e2 v2 Z2 H2 R2 S2 V2 N2 w2 => hq _ _ _ _ _ R2 (S1.trans S2) V2 (S1.repN N2) w2⟩
  | false =>
    rw [if_neg Bool.false_ne_true] at w ⊢
    exact ⟨Z1, e1, _, R1, w, fun r2 e2 v2 Z2 H2 R2 S2 V2 N2 w2 => hq _ _ _ _ _ R2 (S1.trans S2) V2 (S1.repN N2) w2⟩
theorem s_ifeT {c a b : Ex} {x y z : Expr} {pos : Pos} (hc : PT X x (tT Γ R G c)) (ha : PT X y (tT Γ R G a)) (hb : PT X z (tT Γ R G b)) : PT X (.IfExp x y z pos) (tT Γ R G (.ife c a b)) := by
  refine ⟨fun pins s σ H Q I ⟨Z, env, Q0, hR, hw, hq⟩ => ?_⟩
  refine isTrue_IfExp ?_
  refine thn (hc.run pins s σ H (fun k H1 => if k = true then tT Γ R G a σ H1 Q else tT Γ R G b σ H1 Q) I ⟨Z, env, _, hR, hw, fun k e1 Z1 H1 R1 S1 w => ?_⟩) fun k s1 ⟨H1, I1, q1⟩ => ?_
  · cases k with
    | true =>
      rw [if_pos rfl] at w ⊢
      exact ⟨Z1, e1, _, R1, w, fun r2 e2 Z2 H2 R2 S2 w2 => hq _ _ _ _ R2 (S1.trans S2) w2⟩
    | false =>
      rw [if_neg Bool.false_ne_true] at w ⊢
      exact ⟨Z1, e1, _, R1, w, fun r2 e2 Z2 H2 R2 S2 w2 => hq _ _ _ _ R2 (S1.trans S2) w2⟩
  · cases k with
    | true => rw [if_pos rfl] at q1 ⊢; exact ha.run pins s1 σ H1 Q I1 q1
    | false => rw [if_neg Bool.false_ne_true] at q1 ⊢; exact hb.run pins s1 σ H1 Q I1 q1
theorem s_idx {a i : Ex} {x y : Expr} {pos : Pos} (hu : X.A.units + 64 < cLine) (hK : X.K = G.K) (hs : PlainIx y) (ha : PE X x (tE Γ R G a)) (hb : PE X y (tE Γ R G i)) : PE X (.Subscript x y pos) (tE Γ R G (.idx a i)) := by
  obtain ⟨r, hr, sem⟩ := ix_ok (X := X) hu
  rw [hK] at sem
  refine pe_imp (pe_ix hr ha hb hs) fun σ H Q ⟨Z, env, Q0, hR, hw, hq⟩ => ?_
  refine ⟨Z, env, _, hR, hw, fun r1 e1 v1 Z1 H1 R1 S1 V1 _ w1 => ⟨Z1, e1, _, R1, w1, fun r2 e2 v2 Z2 H2 R2 S2 V2 _ w2 => ?_⟩⟩
  obtain ⟨dx, tx, k1⟩ := rd_ok R2 (S2.repR R1 V1) w2
  obtain ⟨dy, ty, k2⟩ := rd_ok R2 V2 k1
  exact sem Z2 H2 v1 v2 dx dy _ Q tx ty k2 fun d v kd rv => hq (.im _) e2 _ Z2 H2 R2 (S1.trans S2) rv trivial kd
theorem s_slc {a lo hi : Ex} {x : Expr} {l h : Option Expr} {pos p2 : Pos} (hK : X.K = G.K) (ha : PE X x (tE Γ R G a)) (hl : PO X l (tO Γ R G lo)) (hh : PO X h (tO Γ R G hi)) : PE X (.Subscript x (.Slice l h none p2) pos) (tE Γ R G (.slc a lo hi)) := by
  obtain ⟨r, hr, sem⟩ := slc_ok (X := X)
  rw [hK] at sem
  refine pe_imp (pe_slice hr ha hl hh) fun σ H Q ⟨Z, env, Q0, hR, hw, hq⟩ => ?_
  refine ⟨Z, env, _, hR, hw, fun r1 e1 v1 Z1 H1 R1 S1 V1 _ w1 => ⟨Z1, e1, _, R1, w1, fun o2 e2 Z2 H2 R2 S2 w2 => ⟨Z2, e2, _, R2, w2, fun o3 e3 Z3 H3 R3 S3 w3 => ?_⟩⟩⟩
  obtain ⟨dx, tx, k1⟩ := rd_ok R3 (S3.repR R2 (S2.repR R1 V1)) w3
  refine sem Z3 H3 v1 _ _ dx _ Q tx k1 fun z v H' kz o => ?_
  obtain ⟨Z4, R4, S4, V4, N4⟩ := o.run R3
  have S := (S1.trans S2).trans S3
  exact hq z e3 v Z4 H' R4 (S.trans S4) V4 (S.repN N4) kz
theorem s_pnone : PO X none (tO Γ R G .nil) := po_imp po_none fun σ H Q ⟨Z, env, Q0, hR, hw, hq⟩ => hq _ _ _ _ hR .refl hw
theorem s_psome {a : Ex} {x : Expr} (hne : ∀ env Q, wpO Γ R a env Q → wpE Γ R a env fun r e1 => rd r e1 fun x => ∃ i, x = .int i ∧ Q (some i) e1) (ha : PE X x (tE Γ R G a)) : PO X (some x) (tO Γ R G a) := by
  refine po_imp (po_some ha) fun σ H Q ⟨Z, env, Q0, hR, hw, hq⟩ => ?_
  refine ⟨Z, env, _, hR, hne _ _ hw, fun r1 e1 v1 Z1 H1 R1 S1 V1 _ w1 => ?_⟩
  obtain ⟨d, t, i, rfl, w⟩ := rd_ok R1 V1 w1
  exact ⟨i, t.int, hq _ _ _ _ R1 S1 w⟩
theorem s_anil : PA X [] (tA Γ R G .nil) := pa_imp pa_nil fun σ H Q ⟨Z, env, Q0, hR, hw, hq⟩ => hq _ _ _ _ _ hR .refl .nil hw
theorem s_acons {a as : Ex} {x : Expr} {xs : List Expr} (hs : starEach (x :: xs) X.env = (false, eval x X.env) :: starEach xs X.env) (ha : PE X x (tE Γ R G a)) (hb : PA X xs (tA Γ R G as)) : PA X (x :: xs) (tA Γ R G (.cons a as)) := by
  refine pa_imp (pa_cons ha hb hs) fun σ H Q ⟨Z, env, Q0, hR, hw, hq⟩ => ?_
  refine ⟨Z, env, _, hR, hw, fun r1 e1 v1 Z1 H1 R1 S1 V1 N1 w1 => ?_⟩
  obtain ⟨d, e2, Z2, R2, S2, r2, w2⟩ := fz_ok R1 S1 V1 N1 w1
  exact ⟨Z2, e2, _, R2, w2, fun ds e3 vs Z3 H3 R3 S3 r3 w3 => hq _ _ _ _ _ R3 (S2.trans S3) (.cons (S3.rep R2 r2) r3) w3⟩
theorem s_bnil : PA X [] (tB Γ R G .nil) := pa_imp pa_nil fun σ H Q ⟨Z, env, Q0, hR, hw, hq⟩ => hq _ _ _ _ _ hR .refl .nil hw
theorem RepRs.stp {Z' : Addr → Prop} {H' : Hp} {env' : Env} (s : Stp σ Z H env Z' H' env') (Rl : Rel G σ Z H env) {rs : List Rv} {vs : List V} (h : RepRs G σ Z H env rs vs) : RepRs G σ Z' H' env' rs vs := by
  induction h with
  | nil => exact .nil
  | cons h _ ih => exact .cons (s.repR Rl h) ih
theorem s_bcons {a as : Ex} {x : Expr} {xs : List Expr} (hs : starEach (x :: xs) X.env = (false, eval x X.env) :: starEach xs X.env) (ha : PE X x (tE Γ R G a)) (hb : PA X xs (tB Γ R G as)) : PA X (x :: xs) (tB Γ R G (.cons a as)) := by
  refine pa_imp (pa_cons ha hb hs) fun σ H Q ⟨Z, env, Q0, hR, hw, hq⟩ => ?_
  refine ⟨Z, env, _, hR, hw, fun r1 e1 v1 Z1 H1 R1 S1 V1 N1 w1 => ?_⟩
  exact ⟨Z1, e1, _, R1, w1, fun ds e3 vs Z3 H3 R3 S3 r3 w3 => hq _ _ _ _ _ R3 (S1.trans S3) (.cons (S3.repR R1 V1) r3) w3⟩
theorem Stp.repNs {Z' : Addr → Prop} {H' : Hp} {env' : Env} (s : Stp σ Z H env Z' H' env') {rs : List Rv} {vs : List V} (h : RepNs H' rs vs) : RepNs H rs vs := by
  induction h with
  | nil => exact .nil
  | cons h _ ih => exact .cons (s.repN h) ih
theorem s_cnil : PA X [] (tCl Γ R G [] .nil) := pa_imp pa_nil fun σ H Q ⟨Z, env, Q0, hR, hw, hq⟩ => hq _ _ _ _ _ hR .refl .nil .nil hw
theorem s_ccons {a as : Ex} {m : Bool} {ms : List Bool} {x : Expr} {xs : List Expr} (hs : starEach (x :: xs) X.env = (false, eval x X.env) :: starEach xs X.env) (ha : PE X x (tE Γ R G a)) (hb : PA X xs (tCl Γ R G ms as)) : PA X (x :: xs) (tCl Γ R G (m :: ms) (.cons a as)) := by
  refine pa_imp (pa_cons ha hb hs) fun σ H Q ⟨Z, env, Q0, hR, hw, hq⟩ => ?_
  cases m with
  | true =>
    refine ⟨Z, env, _, hR, hw, fun r1 e1 v1 Z1 H1 R1 S1 V1 N1 w1 => ?_⟩
    exact ⟨Z1, e1, _, R1, w1.2, fun ds e3 vs Z3 H3 R3 S3 r3 n3 w3 => hq _ _ _ _ _ R3 (S1.trans S3) (.cons (S3.repR R1 V1) r3) (.cons N1 (S1.repNs n3)) w3⟩
  | false =>
    refine ⟨Z, env, _, hR, hw, fun r1 e1 v1 Z1 H1 R1 S1 V1 N1 w1 => ?_⟩
    obtain ⟨d, e2, Z2, R2, S2, r2, w2⟩ := fz_ok R1 S1 V1 N1 w1
    exact ⟨Z2, e2, _, R2, w2, fun ds e3 vs Z3 H3 R3 S3 r3 n3 w3 => hq _ _ _ _ _ R3 (S2.trans S3) (.cons (r := .im d) (S3.rep R2 r2) r3) (.cons (r := .im d) trivial (S2.repNs n3)) w3⟩
theorem Ow.back {Z' : Addr → Prop} {H' : Hp} {env' : Env} {b : Addr} (s : Stp σ Z H env Z' H' env') (o : Ow σ env' b) : Ow σ env b := let ⟨i, h, e⟩ := o; ⟨i, s.sub i h, e⟩
theorem dct_end {p : Addr} {Z4 : Addr → Prop} {H3 : Hp} {e4 : Env} {Q : VK} {Q0 : Rv → Env → Prop} {vs : List (Key × V)} {ds : List (Key × D)} (hR : Rel G σ Z H env) (hp : H p = none) (S : Stp σ Z (upd H p (.dK [])) env Z4 H3 e4) (R4 : Rel G σ Z4 H3 e4) (hH : H3 p = some (.dK []))
    (r : RepKs G.K Z4 H3 vs ds) (hq : ∀ r env' v Z' H', Rel G σ Z' H' env' → Stp σ Z H env Z' H' env' → RepR G σ Z' H' env' r v → RepN H r v → Q0 r env' → Q v H') (w : Q0 (.fr (.dct ds)) e4) : Q (.ref p) (upd H3 p (.dK vs)) := by
  have nz : ¬ Z4 p := fun z => by
    rcases S.grow.zn p z with z | z | z
    · exact hR.zn hp z
    · exact hR.on hp z
    · rw [upd_same] at z; cases z
  have no : ¬ Ow σ e4 p := fun o => hR.on hp (Ow.back S o)
  have h0 := hR.h0n hp
  have zk : ∀ b u, Z4 b → H3 b = some u → upd H3 p (.dK vs) b = some u := fun b u z h => by rw [upd_ne (fun e : b = p => nz (e ▸ z))]; exact h
  refine hq (.fr (.dct ds)) e4 _ Z4 _ (R4.over hH trivial nz no h0) ⟨⟨fun b z => S.grow.zz b z, fun b z => ?_, fun b o h n => ?_, fun b o h => ?_⟩, S.sub⟩ ⟨p, rfl, nz, no, h0, .dct upd_same (r.mono (fun _ z => z) zk)⟩ (fun a e => by cases e; exact hp) w
  · rcases S.grow.zn b z with z | z | z
    · exact .inl z
    · exact .inr (.inl z)
    · refine .inr (.inr ?_)
      by_cases e : b = p
      · rw [e]; exact hp
      · rw [upd_ne e] at z; exact z
  · have e : b ≠ p := ne_of_none h hp
    rw [upd_ne e]
    exact S.grow.hk b o (by rw [upd_ne e]; exact h) n
  · have e : b ≠ p := ne_of_none h hp
    rw [upd_ne e]
    exact S.grow.tr b o (by rw [upd_ne e]; exact h)
theorem s_tup {as : Ex} {xs : List Expr} {k : Nat} {pos : Pos} (ha : PA X xs (tA Γ R G as)) : PE X (.Tuple xs k pos) (tE Γ R G (.tupn as)) := by
  refine pe_imp (pe_tup ha) fun σ H Q ⟨Z, env, Q0, hR, hw, hq⟩ => ?_
  refine ⟨Z, env, _, hR, hw, fun ds e1 vs Z1 H1 R1 S1 r1 w1 => ⟨by rw [r1.length]; exact w1.1, fun p hp => ?_⟩⟩
  obtain ⟨Z2, R2, S2, V2, N2⟩ := (Out.tup hp r1).run R1
  exact hq _ _ _ _ _ R2 (S1.trans S2) V2 (S1.repN N2) w1.2
theorem s_lst {as : Ex} {xs : List Expr} {pos : Pos} (ha : PA X xs (tA Γ R G as)) : PE X (.List xs pos) (tE Γ R G (.lstn as)) := by
  refine pe_imp (pe_lst ha) fun σ H Q ⟨Z, env, Q0, hR, hw, hq⟩ => ?_
  refine ⟨Z, env, _, hR, hw, fun ds e1 vs Z1 H1 R1 S1 r1 w1 => ⟨by rw [r1.length]; exact w1.1, fun p hp => ?_⟩⟩
  obtain ⟨Z2, R2, S2, V2, N2⟩ := (Out.lst hp r1).run R1
  exact hq _ _ _ _ _ R2 (S1.trans S2) V2 (S1.repN N2) w1.2
theorem s_dct1 {a b : Ex} {k v : Expr} {pos : Pos} (ha : PE X k (tE Γ R G a)) (hb : PE X v (tE Γ R G b)) : PE X (.Dict [some k] [v] pos) (tE Γ R G (.dctn a b)) := by
  refine pe_imp (pe_disp (pps_cons ha hb pps_nil) rfl rfl (by simp) (by simp)) fun σ H Q ⟨Z, env, Q0, hR, hw, hq⟩ p hp => ?_
  refine ⟨Z, env, _, hR.fresh hp, hw, fun r1 e1 v1 Z1 H1 R1 S1 V1 N1 w1 => ?_⟩
  obtain ⟨d, e2, Z2, R2, S2, r2, w2⟩ := fz_ok R1 S1 V1 N1 w1
  refine ⟨Z2, e2, _, R2, w2, fun r3 e3 v3 Z3 H3 R3 S3 V3 N3 w3 => ?_⟩
  obtain ⟨d', e4, Z4, R4, S4, r4, kk, hk, w4⟩ := fz_ok R3 S3 V3 N3 w3
  have S := S2.trans S4
  have hH : H3 p = some (.dK []) := S.grow.hk p _ upd_same (hR.on hp)
  cases (r2.key hk)
  show H3 p = _ ∧ _
  refine ⟨hH, [(kk, v3)], rfl, by simp, ?_⟩
  exact dct_end hR hp S R4 hH ((RepKs.cons r4 .nil).merge .nil) hq w4
theorem s_dct2 {a b a' b' : Ex} {k v k' v' : Expr} {pos : Pos} (ha : PE X k (tE Γ R G a)) (hb : PE X v (tE Γ R G b)) (ha' : PE X k' (tE Γ R G a')) (hb' : PE X v' (tE Γ R G b')) : PE X (.Dict [some k, some k'] [v, v'] pos) (tE Γ R G (.dctw a b a' b')) := by
  refine pe_imp (pe_disp (pps_cons ha hb (pps_cons ha' hb' pps_nil)) rfl rfl (by simp) (by simp)) fun σ H Q ⟨Z, env, Q0, hR, hw, hq⟩ p hp => ?_
  refine ⟨Z, env, _, hR.fresh hp, hw, fun r1 e1 v1 Z1 H1 R1 S1 V1 N1 w1 => ?_⟩
  obtain ⟨d, e2, Z2, R2, S2, r2, w2⟩ := fz_ok R1 S1 V1 N1 w1
  refine ⟨Z2, e2, _, R2, w2, fun r3 e3 v3 Z3 H3 R3 S3 V3 N3 w3 => ?_⟩
  obtain ⟨d', e4, Z4, R4, S4, r4, w4⟩ := fz_ok R3 S3 V3 N3 w3
  refine ⟨Z4, e4, _, R4, w4, fun r5 e5 v5 Z5 H5 R5 S5 V5 N5 w5 => ?_⟩
  obtain ⟨d6, e6, Z6, R6, S6, r6, w6⟩ := fz_ok R5 S5 V5 N5 w5
  refine ⟨Z6, e6, _, R6, w6, fun r7 e7 v7 Z7 H7 R7 S7 V7 N7 w7 => ?_⟩
  obtain ⟨d8, e8, Z8, R8, S8, r8, kk, kk', hk, hk', w8⟩ := fz_ok R7 S7 V7 N7 w7
  have S := ((S2.trans S4).trans S6).trans S8
  have hH : H7 p = some (.dK []) := S.grow.hk p _ upd_same (hR.on hp)
  cases (r2.key hk)
  cases (r6.key hk')
  show H7 p = _ ∧ _
  refine ⟨hH, [(kk, v3), (kk', v7)], rfl, by simp, ?_⟩
  exact dct_end hR hp S R8 hH ((RepKs.cons ((S6.trans S8).rep R4 r4) (.cons r8 .nil)).merge .nil) hq w8
theorem pe_tupF {X : Cx} {es : List Expr} {t : TA} {pos : Pos} {x1} (h : PA X es t) : PE X (.Tuple es x1 pos) (fun σ H Q => t σ H fun xs H1 => xs.length ≤ sizeLine ∧ ∀ p (o : Obj), H1 p = none → o.dict = none → Q (.ref p) (upd H1 p (.frz o (.tup xs)))) := by
  refine ⟨fun pins s σ H Q I hq => ?_⟩
  refine wpAny_Tuple_spliced (thn (h.run pos pins s σ H _ I hq) fun us s1 ⟨xs, H1, I1, r, z, q⟩ => ⟨by rw [← r.length]; exact z, ?_⟩)
  have hf : H1 s1.heap.objs.size = none := I1.hok.fresh (Nat.le_refl _)
  refine ⟨.ref s1.heap.objs.size, upd H1 s1.heap.objs.size (.frz _ (.tup xs)), I1.laid (t' := s1.toks) (fun b u e => Heap.get?_push_of_some _ e) (Nat.le_refl _) ⟨Heap.get?_push_size _ rfl, z, us, r, _, Heap.get?_push_size _ rfl, rfl, _, rfl⟩, rfl, q _ _ hf rfl⟩
theorem s_ptn {as : Ex} {xs : List Expr} {k : Nat} {pos : Pos} (ha : PA X xs (tA Γ R G as)) : PE X (.Tuple xs k pos) (tE Γ R G (.ptn as)) := by
  refine pe_imp (pe_tupF ha) fun σ H Q ⟨Z, env, Q0, hR, hw, hq⟩ => ?_
  refine ⟨Z, env, _, hR, hw, fun ds e1 vs Z1 H1 R1 S1 r1 w1 => ⟨by rw [r1.length]; exact w1.1, fun p o hp ho => ?_⟩⟩
  obtain ⟨Z2, R2, S2, V2, N2⟩ := (Out.ptp hp ho r1).run R1
  exact hq _ _ _ _ _ R2 (S1.trans S2) V2 (S1.repN N2) w1.2
theorem s_fgt {a : Ex} {e : Expr} (ha : PE X e (tE Γ R G a)) : PE X e (tE Γ R G (.fgt a)) := by
  refine pe_imp ha fun σ H Q ⟨Z, env, Q0, hR, hw, hq⟩ => ?_
  refine ⟨Z, env, _, hR, hw, fun r1 e1 v1 Z1 H1 R1 S1 V1 N1 w1 => ?_⟩
  obtain ⟨d, t, ds, rfl, w⟩ := rd_ok R1 V1 w1
  obtain ⟨b, vs, rfl, h, r⟩ := t.ptp
  exact hq (.im (.tup ds)) e1 _ Z1 H1 R1 S1 (.tup h.tat r) trivial w
theorem s_kept {i : Nat} {a : Ex} {e : Expr} (ha : PE X e (tE Γ R G a)) : PE X e (tE Γ R G (.kept i a)) := by
  refine pe_imp ha fun σ H Q ⟨Z, env, Q0, hR, ⟨d, hd, hw⟩, hq⟩ => ?_
  refine ⟨Z, env, _, hR, hw, fun r1 e1 v1 Z1 H1 R1 S1 V1 N1 w1 => ?_⟩
  obtain ⟨hu, x, rfl, w1⟩ := w1
  obtain ⟨v, hv, rv⟩ := hR.im i d hd
  have ss : σ.set i (some v) = σ := by
    refine List.ext_getElem? fun j => ?_
    by_cases q : i = j
    · subst q
      rw [List.getElem?_set_self (List.getElem?_eq_some_iff.mp hv).1, hv]
    · rw [List.getElem?_set_ne q]
  have R2 := R1.setIm (j := i) (fun c h => by rw [hu] at h; cases h) (S1.rep hR rv)
  rw [ss] at R2
  have os : ∀ j, own (e1.set i (.im d)) j → own e1 j := fun j ⟨c, h⟩ => by
    by_cases q : i = j
    · subst q
      have l := (List.getElem?_eq_some_iff.mp hu).1
      rw [List.getElem?_set_self l] at h
      rcases h with h | h <;> cases h
    · rw [List.getElem?_set_ne q] at h
      exact ⟨c, h⟩
  obtain ⟨p, rfl, nz, no, h0, t⟩ := V1
  exact hq (.fr x) _ _ Z1 H1 R2 ⟨S1.grow, fun j h => S1.sub j (os j h)⟩ ⟨p, rfl, nz, (fun ⟨j, o, e⟩ => no ⟨j, os j o, e⟩), h0, t⟩ N1 w1
theorem s_dnew {t : Bool} {pos : Pos} : PE X (.Dict [] [] pos) (tE Γ R G (.dnew t)) := by
  cases t with
  | false =>
    refine pe_imp pe_dnewK fun σ H Q ⟨Z, env, Q0, hR, hw, hq⟩ p hp => ?_
    obtain ⟨Z2, R2, S2, V2, N2⟩ := (Out.dct (vs := []) (ds := []) hp .nil).run hR
    exact hq _ _ _ _ _ R2 S2 V2 N2 hw
  | true =>
    refine pe_imp pe_dnewT fun σ H Q ⟨Z, env, Q0, hR, hw, hq⟩ p hp => ?_
    obtain ⟨Z2, R2, S2, V2, N2⟩ := (Out.dtt hp).run hR
    exact hq _ _ _ _ _ R2 S2 V2 N2 hw
end
end TG
end
section
namespace TG
open PySem PySem.Spec PyProof.Rows L2
theorem parts_step {M : Program} {W : World} {A0 : Around} {Er : Value → Shared → Prop} {sh : Shared} {b : Addr} {x y z : Value} {lo hi : Option Int} {c : Int} {n : Nat} {Q : Int × Int × Nat → Shared → Prop}
    (so : sh.heap.IsSliceOf b x y z) (px : IsPart x lo) (py : IsPart y hi) (pz : IsPart z (some c)) (ne : c ≠ 0) (go : Q ((Builtin.Slice.sliceAdjust lo hi c n).1, c, Builtin.Slice.slicePlaces (Builtin.Slice.sliceAdjust lo hi c n).1 (Builtin.Slice.sliceAdjust lo hi c n).2 c) sh) :
    wpAny (model M W) A0 (Builtin.Slice.sliceApplied (.ref b) (pure (n : Int))) Q Er sh := by
  rcases so with ⟨ob, at', kind, flds⟩
  rw [Builtin.Slice.sliceApplied, Builtin.Slice.sliceFields]
  refine wpAny_bind (wpAny_bind (wpAny_field at' flds (x := x) rfl (wpAny_bind (wpAny_field at' flds (x := y) rfl (wpAny_bind (wpAny_field at' flds (x := z) rfl (wpAny_pure (wpAny_bind (HT.slicePart_ pz ?_)))))))))
  have nz : ¬ ((c == 0) = true) := fun q => ne (eq_of_beq q)
  show wpAny _ _ (if (c == 0) = true then _ else _) _ _ sh
  rw [if_neg nz]
  exact wpAny_bind (HT.slicePart_ px (wpAny_bind (HT.slicePart_ py (wpAny_bind (wpAny_pure (wpAny_pure go))))))
theorem tup_step {M : Program} {W : World} {A0 : Around} {Er : Value → Shared → Prop} {sh : Shared} {a b : Addr} {us : Array Value} {x y z : Value} {lo hi : Option Int} {c : Int} {Q : Value → Shared → Prop}
    (tu : IsTup sh.heap a us) (so : sh.heap.IsSliceOf b x y z) (px : IsPart x lo) (py : IsPart y hi) (pz : IsPart z (some c)) (n0 : c ≠ 0) (n1 : c ≠ 1) (few : (ixT lo hi c us.size).length ≤ sizeLine)
    (go : Q (.ref sh.heap.objs.size) { sh with heap := sh.heap.push { cls := .type "tuple", data := .seq ((ixT lo hi c us.size).filterMap (us[·]?)).toArray } }) : wpAny (model M W) A0 (getItem (.ref a) (.ref b)) Q Er sh := by
  have room : sizeOk (.seq ((ixT lo hi c us.size).filterMap (us[·]?)).toArray) := by
    show (List.toArray _).size ≤ sizeLine
    rw [List.size_toArray]
    exact Nat.le_trans (List.length_filterMap_le _ _) few
  have isS : sh.TypeIs (.ref b) "slice" := let ⟨ob, at', kind, _⟩ := so; ⟨ob, at', kind⟩
  have slot := PyProof.Rows.slot_tuple_getitem
  unfold getItem
  refine wpAny_holding (wpAny_bind (wpAny_sequenceKey tu.typeIs (by decide) (wpAny_bind (wpAny_callSpecial?_slot (name := Str.ofString "__getitem__") tu.typeIs slot (wpAny_call_entry slot tu.typeIs entry_tuple_getitem ?_ (args_tuple_getitem _ _))))))
  refine wpAny_bind (m := Builtin.Tuple.tupleItemsOf (.ref a)) (tupleItemsOf_ tu (wpAny_bind (wpAny_typeOf isS ?_)))
  rw [if_pos (by decide)]
  refine wpAny_bind (parts_step so px py pz n0 ?_)
  have same : ∀ (l0 : Int) (k0 : Nat), l0 = (Builtin.Slice.sliceAdjust lo hi c us.size).1 → k0 = Builtin.Slice.slicePlaces l0 (Builtin.Slice.sliceAdjust lo hi c us.size).2 c →
      ((List.range k0).filterMap fun (k : Nat) => us[(l0 + (k : Int) * c).toNat]?).toArray = ((ixT lo hi c us.size).filterMap (us[·]?)).toArray := fun l0 k0 e1 e2 => by
    subst e1 e2
    rw [ixT, List.filterMap_map]; rfl
  generalize e1 : (Builtin.Slice.sliceAdjust lo hi c us.size).1 = l0 at *
  generalize e2 : Builtin.Slice.slicePlaces l0 (Builtin.Slice.sliceAdjust lo hi c us.size).2 c = k0 at *
  show wpAny _ _ (if (l0 == 0 && c == 1 && k0 == us.size) = true then _ else _) _ _ sh
  rw [if_neg (by rw [show (c == 1) = false from beq_false_of_ne n1, Bool.and_false, Bool.false_and]; exact Bool.false_ne_true), same l0 k0 rfl e2.symm]
  exact wpAny_bind (m := Builtin.Tuple.tupleExact _) (wpAny_newObj_type (wpAny_pure ⟨_, rfl, wpAny_pure go⟩) room)
theorem adj_one (n : Nat) : Builtin.Slice.sliceAdjust none none 1 (n : Int) = (0, (n : Int)) := rfl
theorem places_one (n : Nat) : Builtin.Slice.slicePlaces 0 (n : Int) 1 = n := by
  unfold Builtin.Slice.slicePlaces
  rw [if_pos (by decide)]
  split <;> omega
theorem tup_same {M : Program} {W : World} {A0 : Around} {Er : Value → Shared → Prop} {sh : Shared} {a b : Addr} {us : Array Value} {x y z : Value} {Q : Value → Shared → Prop}
    (tu : IsTup sh.heap a us) (so : sh.heap.IsSliceOf b x y z) (px : IsPart x none) (py : IsPart y none) (pz : IsPart z (some 1))
    (go : Q (.ref a) sh) : wpAny (model M W) A0 (getItem (.ref a) (.ref b)) Q Er sh := by
  have isS : sh.TypeIs (.ref b) "slice" := let ⟨ob, at', kind, _⟩ := so; ⟨ob, at', kind⟩
  have slot := PyProof.Rows.slot_tuple_getitem
  unfold getItem
  refine wpAny_holding (wpAny_bind (wpAny_sequenceKey tu.typeIs (by decide) (wpAny_bind (wpAny_callSpecial?_slot (name := Str.ofString "__getitem__") tu.typeIs slot (wpAny_call_entry slot tu.typeIs entry_tuple_getitem ?_ (args_tuple_getitem _ _))))))
  refine wpAny_bind (m := Builtin.Tuple.tupleItemsOf (.ref a)) (tupleItemsOf_ tu (wpAny_bind (wpAny_typeOf isS ?_)))
  rw [if_pos (by decide)]
  refine wpAny_bind (parts_step so px py pz (by decide) ?_)
  rw [adj_one]
  show wpAny _ _ (if ((0 : Int) == 0 && (1 : Int) == 1 && Builtin.Slice.slicePlaces 0 (us.size : Int) 1 == us.size) = true then _ else _) _ _ sh
  rw [places_one, if_pos (by simp)]
  refine wpAny_bind (m := Builtin.Tuple.tupleIsExact (.ref a)) ?_
  unfold Builtin.Tuple.tupleIsExact
  refine wpAny_bind (wpAny_typeOf tu.typeIs (wpAny_pure ?_))
  rw [if_pos (by decide)]
  exact wpAny_bind (wpAny_rule (wpAny_pure ⟨_, rfl, wpAny_pure go⟩))
end TG
namespace TG
open PySem PySem.Spec PyProof.Rows L2
theorem vals_pick {xs : List V} {us : List Value} (r : Vals xs us) : ∀ ix : List Nat, Vals (pickN xs ix) (ix.filterMap (us.toArray[·]?))
  | [] => .nil
  | i :: ix => by
    have ih := vals_pick r ix
    unfold pickN at ih ⊢
    rw [List.filterMap_cons, List.filterMap_cons, List.getElem?_toArray]
    cases e : xs[i]? with
    | none =>
      have : us[i]? = none := by
        rw [List.getElem?_eq_none_iff] at e ⊢
        rw [← r.length]; exact e
      rw [this]; exact ih
    | some x =>
      obtain ⟨u, h1, h2⟩ := r.get e
      rw [h1]; exact .cons h2 ih
theorem Reps.pick {K : PySem.W.Frag} {Z : Addr → Prop} {H : Hp} {vs : List V} {ds : List D} (r : Reps K Z H vs ds) : ∀ ix : List Nat, Reps K Z H (pickN vs ix) (pickN ds ix)
  | [] => .nil
  | i :: ix => by
    have ih := Reps.pick r ix
    unfold pickN at ih ⊢
    rw [List.filterMap_cons, List.filterMap_cons]
    cases e : ds[i]? with
    | none =>
      have : vs[i]? = none := by
        rw [List.getElem?_eq_none_iff] at e ⊢
        rw [r.length]; exact e
      rw [this]; exact ih
    | some d =>
      obtain ⟨v, h1, h2⟩ := r.get e
      rw [h1]; exact .cons h2 ih
section
variable {X : Cx} {e st : Expr} {l h : Option Expr} {te : TE} {tl th ts : TO} {p3 pos : Pos}
def rSls (K : PySem.W.Frag) : V → Option Int → Option Int → Int → Hp → VK → Prop := fun x lo hi c H Q => c ≠ 0 ∧ ∃ a xs, x = .ref a ∧
  ((SqL K H a xs ∧ ∀ p, H p = none → Q (.ref p) (upd H p (.lst (pickN xs (ixL lo hi c xs.length))))) ∨
   ((c ≠ 1 ∨ (lo = none ∧ hi = none)) ∧ SqT K H a xs ∧ (ixT lo hi c xs.length).length ≤ sizeLine ∧ (c = 1 → lo = none → hi = none → Q (.ref a) H) ∧ ∀ p, H p = none → Q (.ref p) (upd H p (.tup (pickN xs (ixT lo hi c xs.length))))))
theorem pe_sls (he : PE X e te) (hl : PO X l tl) (hh : PO X h th) (hst : PO X (some st) ts) :
    PE X (.Subscript e (.Slice l h (some st) p3) pos) (fun σ H Q => te σ H fun x H1 => tl σ H1 fun lo H2 => th σ H2 fun hi H3 => ts σ H3 fun c H4 => ∃ c', c = some c' ∧ rSls X.K x lo hi c' H4 Q) := by
  refine ⟨fun pins s σ H Q I q0 => ?_⟩
  refine Subscript_ (thn (he.run pins s σ H _ I q0) fun v s1 ⟨x, H1, I1, r1, q1⟩ => ?_)
  refine wpAny_Slice (thn (hl.run pins s1 σ H1 _ I1 q1) fun vl s2 ⟨lo, H2, I2, pl, q2⟩ => ?_)
  refine thn (hh.run pins s2 σ H2 _ I2 q2) fun vu s3 ⟨hi, H3, I3, pu, q3⟩ => ?_
  refine thn (hst.run pins s3 σ H3 _ I3 q3) fun vs s4 ⟨o, H4, I4, ps, q4⟩ => ?_
  obtain ⟨c, rfl, c0, a, xs, rfl, q⟩ := q4
  cases r1
  have I5 : Inv X pins σ H4 { s4 with heap := s4.heap.push { cls := .type "slice", data := .fields #[vl, vu, vs] } } := I4.kept (t' := s4.toks) fun b ob q => Heap.get?_push_of_some _ q
  show wpAny (model X.prog X.w) X.A (subscriptTail e (.Slice l h (some st) p3) (.ref a) (.ref s4.heap.objs.size)) (EP X pins σ Q) X.xe { s4 with heap := s4.heap.push { cls := .type "slice", data := .fields #[vl, vu, vs] } }
  rcases q with ⟨hx, q⟩ | ⟨c1, hx, hz0, qs, q⟩
  · obtain ⟨its, r, ht, hz⟩ := I5.list hx
    have hlen := r.length
    refine tail_any (ops := [.ref a, .ref s4.heap.objs.size]) ht.isList.typeIs (PySem.slot_list_getitem.lookup) ?_ (by with_unfolding_all rfl)
    refine wpAny_getItem_list_slice ht.isList (Heap.IsSliceOf.new _ vl vu vs) pl pu ps (by simpa using c0) ?_ (by rw [List.size_toArray]; omega)
    have es : slicePick its.toArray lo hi (some c) = ((ixL lo hi c xs.length).filterMap (its.toArray[·]?)).toArray := by
      unfold slicePick ixL
      rw [List.size_toArray, ← hlen]
    refine ⟨.ref _, _, I5.laid (t' := s4.toks) (o := .lst (pickN xs (ixL lo hi c xs.length))) (fun b ob q => Heap.get?_push_of_some _ q) (Nat.le_refl _) ?_, rfl, q _ (I5.hok.fresh (Nat.le_refl _))⟩
    rw [es]
    refine ⟨?_, _, 0, vals_pick r _, Heap.get?_push_size _ rfl⟩
    have h1 := slicePick_size_le its.toArray lo hi (some c)
    rw [es, List.size_toArray, List.size_toArray, ← (vals_pick r _).length] at h1
    omega
  · obtain ⟨its, r, ht, hz⟩ := I5.tuple hx
    have hlen : its.toArray.size = xs.length := by rw [List.size_toArray]; exact r.length.symm
    refine tail_any (ops := [.ref a, .ref s4.heap.objs.size]) ht.typeIs (PyProof.Rows.slot_tuple_getitem.lookup) ?_ (by with_unfolding_all rfl)
    by_cases e1 : c = 1
    · obtain ⟨l0, h0⟩ := c1.resolve_left (fun z => z e1)
      subst e1 l0 h0
      exact tup_same ht (Heap.IsSliceOf.new _ vl vu vs) pl pu ps ⟨.ref a, _, I5, rfl, qs rfl rfl rfl⟩
    refine tup_step ht (Heap.IsSliceOf.new _ vl vu vs) pl pu ps c0 e1 (by rw [hlen]; exact hz0) ?_
    rw [hlen]
    refine ⟨.ref _, _, I5.laid (t' := s4.toks) (o := .tup (pickN xs (ixT lo hi c xs.length))) (fun b ob q => Heap.get?_push_of_some _ q) (Nat.le_refl _) ?_, rfl, q _ (I5.hok.fresh (Nat.le_refl _))⟩
    exact ⟨Nat.le_trans (List.length_filterMap_le _ _) hz0, _, vals_pick r _, IsTup.new _ _⟩
end
theorem self_pick {α : Type} : ∀ l : List α, (List.range l.length).filterMap (fun k => l[k]?) = l
  | [] => rfl
  | x :: l => by
    rw [List.length_cons, List.range_succ_eq_map, List.filterMap_cons, List.getElem?_cons_zero, List.filterMap_map]
    show x :: _ = _
    congr 1
    exact self_pick l
theorem pick_oneT {α : Type} (l : List α) : pickN l (ixT none none 1 l.length) = l := by
  rw [ixT, adj_one, places_one, pickN, List.filterMap_map]
  have e : ((fun k => l[k]?) ∘ fun (k : Nat) => ((0 : Int) + (k : Int) * 1).toNat) = fun k => l[k]? := by
    funext k
    show l[((0 : Int) + (k : Int) * 1).toNat]? = l[k]?
    rw [show ((0 : Int) + (k : Int) * 1).toNat = k by omega]
  exact (congrArg (fun f => (List.range l.length).filterMap f) e).trans (self_pick l)
section
variable {X : Cx} {Γ : Ga} {R : XP} {G : Gh}
theorem sls_ok {Z : Addr → Prop} {H : Hp} {x : V} {lo hi : Option Int} {c : Int} {dx : D} {Kp : Rv → Prop} {Q : VK} (hx : RepT X.K Z H x dx) (hd : dSls dx lo hi c Kp) (q : ∀ z v H', Kp z → Out X.K Z H z v H' → Q v H') : rSls X.K x lo hi c H Q := by
  cases dx with
  | lst ds =>
    obtain ⟨a, vs, rfl, h, r⟩ := hx.lst
    refine ⟨hd.1, a, vs, rfl, .inl ⟨SqL.of h, fun p hp => q _ _ _ hd.2 ?_⟩⟩
    rw [← r.length]
    exact .lst hp (r.pick _)
  | tup ds =>
    obtain ⟨a, vs, rfl, h, r⟩ := hx.tup
    refine ⟨hd.1, a, vs, rfl, .inr ⟨hd.2.1, h.sq, by rw [r.length]; exact hd.2.2.1, fun e1 e2 e3 => q _ _ _ hd.2.2.2 (.same ?_), fun p hp => q _ _ _ hd.2.2.2 ?_⟩⟩
    · subst e1 e2 e3
      rw [pick_oneT]
      exact .tup h r
    rw [← r.length]
    exact .tup hp (r.pick _)
  | _ => exact hd.elim
theorem s_sls {a lo hi c : Ex} {x st : Expr} {l h : Option Expr} {pos p2 : Pos} (hK : X.K = G.K) (ha : PE X x (tE Γ R G a)) (hl : PO X l (tO Γ R G lo)) (hh : PO X h (tO Γ R G hi)) (hc : PO X (some st) (tO Γ R G c)) : PE X (.Subscript x (.Slice l h (some st) p2) pos) (tE Γ R G (.sls a lo hi c)) := by
  refine pe_imp (pe_sls ha hl hh hc) fun σ H Q ⟨Z, env, Q0, hR, hw, hq⟩ => ?_
  refine ⟨Z, env, _, hR, hw, fun r1 e1 v1 Z1 H1 R1 S1 V1 _ w1 => ⟨Z1, e1, _, R1, w1, fun o2 e2 Z2 H2 R2 S2 w2 => ⟨Z2, e2, _, R2, w2, fun o3 e3 Z3 H3 R3 S3 w3 => ⟨Z3, e3, _, R3, w3, fun o4 e4 Z4 H4 R4 S4 w4 => ?_⟩⟩⟩⟩
  obtain ⟨c', ec, w4⟩ := w4
  obtain ⟨dx, tx, k1⟩ := rd_ok R4 (S4.repR R3 (S3.repR R2 (S2.repR R1 V1))) w4
  refine ⟨c', ec, ?_⟩
  rw [hK]
  have sem := @sls_ok { X with K := G.K } Z4 H4 v1 o2 o3 c' dx _ Q tx k1
  refine sem fun z v H' kz o => ?_
  obtain ⟨Z5, R5, S5, V5, N5⟩ := o.run R4
  have S := ((S1.trans S2).trans S3).trans S4
  exact hq z e4 v Z5 H' R5 (S.trans S5) V5 (S.repN N5) kz
end
theorem fm_same {α β : Type} {f g : α → Option β} : ∀ {l : List α}, (∀ x ∈ l, f x = g x) → l.filterMap f = l.filterMap g
  | [], _ => rfl
  | x :: l, h => by rw [List.filterMap_cons, List.filterMap_cons, h x List.mem_cons_self, fm_same fun y hy => h y (List.mem_cons_of_mem _ hy)]
theorem back_pick {α : Type} (l : List α) {ix : List Nat} (h : ix = (List.range l.length).map fun k => l.length - 1 - k) : pickN l ix = l.reverse := by
  subst h
  have e := self_pick l.reverse
  rw [List.length_reverse] at e
  rw [← e, pickN, List.filterMap_map]
  refine fm_same fun k hk => ?_
  rw [List.getElem?_reverse (List.mem_range.mp hk)]; rfl
theorem pick_revT {α : Type} (l : List α) : pickN l (ixT none none (-1) l.length) = l.reverse := back_pick l (by
  have h1 : (Builtin.Slice.sliceAdjust none none (-1) (l.length : Int)) = ((l.length : Int) - 1, -1) := rfl
  have h2 : Builtin.Slice.slicePlaces ((l.length : Int) - 1) (-1) (-1) = l.length := by
    unfold Builtin.Slice.slicePlaces
    rw [if_neg (by decide), show (-(-1) : Int) = 1 from rfl, Int.ediv_one]
    split <;> omega
  rw [ixT, h1, h2]
  refine List.map_congr_left fun k hk => ?_
  have := List.mem_range.mp hk
  show ((l.length : Int) - 1 + (k : Int) * (-1)).toNat = _
  omega)
theorem pick_revL {α : Type} (l : List α) : pickN l (ixL none none (-1) l.length) = l.reverse := back_pick l (by
  have h1 : sliceBounds none none (some (-1)) l.length = ((l.length : Int) - 1, -1, -1) := rfl
  rw [ixL, h1]
  show sliceRange ((l.length : Int) - 1) (-1) (-1) = _
  unfold sliceRange
  rw [if_neg (by decide), show (-(-1) : Int) = 1 from rfl, Int.ediv_one]
  show List.map _ (List.range (if (l.length : Int) - 1 > -1 then (l.length : Int) - 1 - -1 - -1 - 1 else 0).toNat) = _
  have h2 : (if (l.length : Int) - 1 > -1 then (l.length : Int) - 1 - -1 - -1 - 1 else 0).toNat = l.length := by split <;> omega
  rw [h2]
  refine List.map_congr_left fun k hk => ?_
  have := List.mem_range.mp hk
  omega)
end TG
end
section
namespace TG
open PySem PySem.Spec PyProof.Rows L2

section
variable {X : Cx} {pins : List (Addr × Obj)} {σ : L2.St} {H : Hp} {s : Shared} {a : Addr} {xs : List V}
def SqX (K : PySem.W.Frag) (k : Bool) (H : Hp) (a : Addr) (xs : List V) : Prop := match k with
  | true => SqL K H a xs
  | false => SqT K H a xs
def itAt (k : Bool) (h : Heap) (it a : Addr) (i : Nat) : Prop := match k with
  | true => h.IsListIter it a i
  | false => h.IsTupleIter it a i
def sqAt (k : Bool) (h : Heap) (a : Addr) (items : Array Value) : Prop := match k with
  | true => h.IsList a items
  | false => h.IsTuple a items
def objIt (k : Bool) (a : Addr) : Obj := match k with
  | true => { cls := .type "list_iterator", data := .fields #[.ref a, .int 0 0] }
  | false => { cls := .type "tuple_iterator", data := .fields #[.ref a, .int 0 0] }
theorem inv_sq {k : Bool} (I : Inv X pins σ H s) (h : SqX X.K k H a xs) : ∃ its : List Value, Vals xs its ∧ sqAt k s.heap a its.toArray ∧ xs.length ≤ sizeLine := by
  cases k with
  | true => obtain ⟨its, r, p, z⟩ := I.list h; exact ⟨its, r, p.isList, z⟩
  | false => obtain ⟨its, r, p, z⟩ := I.tuple h; exact ⟨its, r, p, z⟩
theorem sq_inj {k : Bool} {ys : List V} (I : Inv X pins σ H s) (h : SqX X.K k H a xs) (h' : SqX X.K k H a ys) : xs = ys := by
  cases k with
  | true => exact I.list_inj h h'
  | false => exact I.tuple_inj h h'
theorem draws_k {prog : Program} {w : World} {A : Around} (k : Bool) (hh : A.handled = none) (it l : Addr) (hne : l ≠ it) (items : Array Value) :
    Draws prog w A it [it, l] items.size (fun i v => items[i]? = some v) (fun i h => itAt k h it l i ∧ sqAt k h l items) := by
  cases k with
  | true => exact Draws.list hh it l hne items
  | false => exact Draws.tuple hh it l hne items
theorem begins_k (k : Bool) (l : Addr) (items : Array Value) : Begins (.ref l) (objIt k l) fun h => sqAt k h l items := by
  cases k with
  | true => exact begins_list l items
  | false => exact begins_tuple l items
theorem objIt_at {k : Bool} {h : Heap} {it l : Addr} (e : h.get? it = some (objIt k l)) : itAt k h it l 0 := by
  cases k with
  | true => exact ⟨_, e, rfl, rfl⟩
  | false => exact ⟨_, e, rfl, rfl⟩
theorem itAt.obj {k : Bool} {h : Heap} {it l : Addr} {i : Nat} (e : itAt k h it l i) : ∃ o, h.get? it = some o ∧ ∀ v, o.data ≠ .cell v := by
  cases k with
  | true => obtain ⟨o, e1, _, d1⟩ := e; exact ⟨o, e1, fun v q => by rw [d1] at q; cases q⟩
  | false => obtain ⟨o, e1, _, d1⟩ := e; exact ⟨o, e1, fun v q => by rw [d1] at q; cases q⟩
theorem itAt.at {k : Bool} {h h' : Heap} {it l : Addr} {i : Nat} (e : itAt k h it l i) (hk : ∀ o, h.get? it = some o → h'.get? it = some o) : itAt k h' it l i := by
  cases k with
  | true => exact Heap.IsListIter.at e hk
  | false => exact Heap.IsTupleIter.at e hk
theorem sqAt.lt {k : Bool} {h : Heap} {l : Addr} {items : Array Value} (e : sqAt k h l items) : l < h.objs.size := by
  cases k with
  | true => obtain ⟨o, e1, _⟩ := e; exact Heap.lt_size e1
  | false => obtain ⟨o, e1, _⟩ := e; exact Heap.lt_size e1
end

/-- a walk that hands out new tuples, its sources as they stand at each turn -/
theorem turnW {P : Program} {w : World} {K : PySem.W.Frag} {elts : List Expr} {kk : Nat} {tpos : Pos} {J : It} {z : Addr} {fp wr : List Addr} {tn : Nat → Heap → Prop} {ι : Type} {n : ι → Nat} {Pt : ι → Nat → Array Value → Prop} {Sc : ι → Heap → Prop} {fpx : ι → List Addr}
    {Mid : ι → Nat → Addr → Heap → Prop} {St : ι → Nat → Heap → Prop}
    (W : ∀ (A : Around), A.handled = none → ∀ x : ι, WalksT P w A z (fpx x) wr (n x) (Pt x) (St x) (Mid x))
    (mk : ∀ x i h, tn i h → Sc x h → St x i h) (un : ∀ x i h, St x i h → tn i h)
    (hmem : z ∈ fp) (hwr : ∀ b ∈ wr, b ∈ fp) (hobj : ∀ i h, tn i h → ∀ b ∈ fp, ∃ o, h.get? b = some o ∧ ∀ v, o.data ≠ .cell v)
    (hkeep : ∀ i h h', tn i h → (∀ b ∈ fp, ∀ o, h.get? b = some o → h'.get? b = some o) → tn i h')
    (hself : ∀ (A : Around) (i : Nat) (s : Shared) (Q : Value → Shared → Prop) (E : Value → Shared → Prop), tn i s.heap → Q (.ref z) s → wpAny (model P w) A (pyIter (.ref z)) Q E s)
    (hitem : ∀ (X : Cx), X.K = K → ∀ (i : Nat) (pins : List (Addr × Obj)) (s : Shared) (σ : L2.St) (H : Hp), Inv X pins σ H s → J.go i H → ∃ x, Sc x s.heap ∧ i < n x ∧ ∀ vals, Pt x i vals →
      ∃ vs, Vals vs vals.toList ∧ vs.length ≤ 8 ∧ ∀ T, H T = none → J.yld i H (.ref T) (upd H T (.tup vs)))
    (hdone : ∀ (X : Cx), X.K = K → ∀ (i : Nat) (pins : List (Addr × Obj)) (s : Shared) (σ : L2.St) (H : Hp), Inv X pins σ H s → J.stop i H → ∃ x, Sc x s.heap ∧ i = n x) :
    Turn P w K (.Tuple elts kk tpos) J fp z tn where
  mem := hmem
  obj := hobj
  keep := hkeep
  item := by
    intro X hP hw hK hc i pins s σ H E I hf st hg
    subst hP hw
    obtain ⟨x, sc, hi, hy⟩ := hitem X hK i pins s σ H I hg
    refine (W X.A (I.ok.hd hc) x).item i s _ E hi (mk x i _ st sc) fun T vals h' tk hP hT hTup hm hk => ⟨.ref T, rfl, ?_⟩
    refine (W X.A (I.ok.hd hc) x).go elts kk tpos i T { s with heap := h', toks := tk } _ _ hm fun h'' st'' hk'' => ?_
    obtain ⟨vs, rv, hl, y⟩ := hy vals hP
    have hn : H T = none := I.hok.fresh hT
    have hTup2 : h''.IsTuple T vals := hTup.at fun o e => hk'' T o ((W X.A (I.ok.hd hc) x).apart i T h' hm) e
    have new : ObjOk X.prog X.w (upd H T (.tup vs)) h'' T (.tup vs) := ⟨Nat.le_trans hl (by rw [sizeLine_eq]; decide), vals.toList, rv, by
      obtain ⟨o, h1, h2, m, h3⟩ := hTup2
      exact ⟨o, h1, h2, m, by rw [h3, Array.toArray_toList]⟩⟩
    have I1 : Inv X pins σ (upd H T (.tup vs)) { s with heap := h'', toks := tk } :=
      I.turnedNew (t' := tk) (ch := wr) (fun c o hb q => hk'' c o hb (hk c o hb q)) (fun b hb => hf b (hwr b hb)) hT new
    refine ⟨.ref T, _, I1, rfl, y T hn, un x _ _ st'', fun c hcm => ?_⟩
    obtain ⟨o, ho, _⟩ := hobj i _ st c hcm
    rw [upd_ne (Nat.ne_of_lt (Nat.lt_of_lt_of_le (Heap.lt_size ho) hT))]
    exact (hf c hcm).1
  done := by
    intro X hP hw hK hc i pins s σ H E I hf st hg
    subst hP hw
    obtain ⟨x, sc, rfl⟩ := hdone X hK i pins s σ H I hg
    exact (W X.A (I.ok.hd hc) x).done s _ E (mk x _ _ st sc) fun h' tk hk => ⟨rfl, I.turnedL (t' := tk) (ch := wr) (fun c o hb q => hk c o hb q) fun b hb => hf b (hwr b hb)⟩
  self := hself

/-- zip of two -/
def Itz2 (K : PySem.W.Frag) (k1 k2 : Bool) (a b : Addr) : It :=
  ⟨fun i H => ∃ xs ys, SqX K k1 H a xs ∧ SqX K k2 H b ys ∧ i < xs.length ∧ i < ys.length,
    fun i H v H' => ∃ T x y, v = .ref T ∧ H T = none ∧ H' = upd H T (.tup [x, y]) ∧ ∀ xs ys, SqX K k1 H a xs → SqX K k2 H b ys → xs[i]? = some x ∧ ys[i]? = some y,
    fun i H => ∃ xs ys, SqX K k1 H a xs ∧ SqX K k2 H b ys ∧ i = min xs.length ys.length⟩
theorem turn_z2 {P : Program} {w : World} {K : PySem.W.Frag} {elts : List Expr} {kk : Nat} {tpos : Pos} {k1 k2 : Bool} {a b z TI TO i1 i2 : Addr} (D : ZipSep2 z TI TO i1 i2 [i1, a] [i2, b]) (n1 : a ≠ i1) (n2 : b ≠ i2) :
    Turn P w K (.Tuple elts kk tpos) (Itz2 K k1 k2 a b) [z, TI, TO, i1, i2] z (fun i h => IsZip h z TI TO .none ∧ IsTupOf2 h TI (.ref i1) (.ref i2) ∧ (∃ x y, IsTupOf2 h TO x y) ∧ itAt k1 h i1 a i ∧ itAt k2 h i2 b i) := by
  refine turnW (ι := Array Value × Array Value) (Sc := fun x h => sqAt k1 h a x.1 ∧ sqAt k2 h b x.2)
    (fun A hh x => WalksT.zipD2 D (draws_k (A := A.in1) k1 hh i1 a n1 x.1) (draws_k (A := A.in1) k2 hh i2 b n2 x.2))
    (fun x i h st sc => ⟨st.1, st.2.1, st.2.2.1, ⟨st.2.2.2.1, sc.1⟩, ⟨st.2.2.2.2, sc.2⟩⟩) (fun x i h st => ⟨st.1, st.2.1, st.2.2.1, st.2.2.2.1.1, st.2.2.2.2.1⟩)
    (by simp) (fun c hc => ?_) (fun i h st c hc => ?_) (fun i h h' st k => ?_) (fun A i s Q E st h => wpAny_pyIter_zip st.1 h) (fun X hK i pins s σ H I hg => ?_) (fun X hK i pins s σ H I hg => ?_)
  · have e' : c = z ∨ c = TO ∨ c = i1 ∨ c = i2 := by simpa using hc
    rcases e' with q | q | q | q <;> simp [q]
  · obtain ⟨hz, hTI, ⟨x, y, hTO⟩, h1, h2⟩ := st
    have e' : c = z ∨ c = TI ∨ c = TO ∨ c = i1 ∨ c = i2 := by simpa using hc
    rcases e' with q | q | q | q | q
    · rw [q]; exact ⟨_, hz, fun v q => nomatch q⟩
    · rw [q]; exact ⟨_, hTI, fun v q => nomatch q⟩
    · rw [q]; exact ⟨_, hTO, fun v q => nomatch q⟩
    · rw [q]; exact h1.obj
    · rw [q]; exact h2.obj
  · obtain ⟨hz, hTI, ⟨x, y, hTO⟩, h1, h2⟩ := st
    exact ⟨k z (by simp) _ hz, k TI (by simp) _ hTI, ⟨x, y, k TO (by simp) _ hTO⟩, h1.at fun o q => k i1 (by simp) o q, h2.at fun o q => k i2 (by simp) o q⟩
  · subst hK
    obtain ⟨xs, ys, hx, hy, lx, ly⟩ := hg
    obtain ⟨its, rv, p, _⟩ := inv_sq I hx
    obtain ⟨its2, rv2, p2, _⟩ := inv_sq I hy
    have l1 := rv.length
    have l2 := rv2.length
    refine ⟨(its.toArray, its2.toArray), ⟨p, p2⟩, by simp; omega, fun vals hP => ?_⟩
    obtain ⟨x1, x2, e1, e2, rfl⟩ := hP
    obtain ⟨u1, hu1, r1⟩ := rv.get (List.getElem?_eq_getElem lx)
    obtain ⟨u2, hu2, r2⟩ := rv2.get (List.getElem?_eq_getElem ly)
    have q1 : its[i]? = some x1 := by simpa using e1
    have q2 : its2[i]? = some x2 := by simpa using e2
    rw [hu1] at q1; cases q1
    rw [hu2] at q2; cases q2
    exact ⟨[xs[i], ys[i]], .cons r1 (.cons r2 .nil), by simp, fun T hT => ⟨T, _, _, rfl, hT, rfl, fun xs' ys' hx' hy' => by rw [sq_inj I hx' hx, sq_inj I hy' hy]; exact ⟨List.getElem?_eq_getElem lx, List.getElem?_eq_getElem ly⟩⟩⟩
  · subst hK
    obtain ⟨xs, ys, hx, hy, e⟩ := hg
    obtain ⟨its, rv, p, _⟩ := inv_sq I hx
    obtain ⟨its2, rv2, p2, _⟩ := inv_sq I hy
    have l1 := rv.length
    have l2 := rv2.length
    exact ⟨(its.toArray, its2.toArray), ⟨p, p2⟩, by simp; omega⟩
/-- zip of three -/
def Itz3 (K : PySem.W.Frag) (k1 k2 k3 : Bool) (a b c : Addr) : It :=
  ⟨fun i H => ∃ xs ys zs, SqX K k1 H a xs ∧ SqX K k2 H b ys ∧ SqX K k3 H c zs ∧ i < xs.length ∧ i < ys.length ∧ i < zs.length,
    fun i H v H' => ∃ T x y z, v = .ref T ∧ H T = none ∧ H' = upd H T (.tup [x, y, z]) ∧ ∀ xs ys zs, SqX K k1 H a xs → SqX K k2 H b ys → SqX K k3 H c zs → xs[i]? = some x ∧ ys[i]? = some y ∧ zs[i]? = some z,
    fun i H => ∃ xs ys zs, SqX K k1 H a xs ∧ SqX K k2 H b ys ∧ SqX K k3 H c zs ∧ i = min (min xs.length ys.length) zs.length⟩
theorem turn_z3 {P : Program} {w : World} {K : PySem.W.Frag} {elts : List Expr} {kk : Nat} {tpos : Pos} {k1 k2 k3 : Bool} {a b d z TI TO i1 i2 i3 : Addr} (D : ZipSep3 z TI TO i1 i2 i3 [i1, a] [i2, b] [i3, d]) (n1 : a ≠ i1) (n2 : b ≠ i2) (n3 : d ≠ i3) :
    Turn P w K (.Tuple elts kk tpos) (Itz3 K k1 k2 k3 a b d) [z, TI, TO, i1, i2, i3] z (fun i h => IsZip h z TI TO .none ∧ IsTupOf3 h TI (.ref i1) (.ref i2) (.ref i3) ∧ (∃ x y u, IsTupOf3 h TO x y u) ∧ itAt k1 h i1 a i ∧ itAt k2 h i2 b i ∧ itAt k3 h i3 d i) := by
  refine turnW (ι := Array Value × Array Value × Array Value) (Sc := fun x h => sqAt k1 h a x.1 ∧ sqAt k2 h b x.2.1 ∧ sqAt k3 h d x.2.2)
    (fun A hh x => WalksT.zipD3 D (draws_k (A := A.in1) k1 hh i1 a n1 x.1) (draws_k (A := A.in1) k2 hh i2 b n2 x.2.1) (draws_k (A := A.in1) k3 hh i3 d n3 x.2.2))
    (fun x i h st sc => ⟨st.1, st.2.1, st.2.2.1, ⟨st.2.2.2.1, sc.1⟩, ⟨st.2.2.2.2.1, sc.2.1⟩, ⟨st.2.2.2.2.2, sc.2.2⟩⟩) (fun x i h st => ⟨st.1, st.2.1, st.2.2.1, st.2.2.2.1.1, st.2.2.2.2.1.1, st.2.2.2.2.2.1⟩)
    (by simp) (fun c hc => ?_) (fun i h st c hc => ?_) (fun i h h' st k => ?_) (fun A i s Q E st h => wpAny_pyIter_zip st.1 h) (fun X hK i pins s σ H I hg => ?_) (fun X hK i pins s σ H I hg => ?_)
  · have e' : c = z ∨ c = TO ∨ c = i1 ∨ c = i2 ∨ c = i3 := by simpa using hc
    rcases e' with q | q | q | q | q <;> simp [q]
  · obtain ⟨hz, hTI, ⟨x, y, u, hTO⟩, h1, h2, h3⟩ := st
    have e' : c = z ∨ c = TI ∨ c = TO ∨ c = i1 ∨ c = i2 ∨ c = i3 := by simpa using hc
    rcases e' with q | q | q | q | q | q
    · rw [q]; exact ⟨_, hz, fun v q => nomatch q⟩
    · rw [q]; exact ⟨_, hTI, fun v q => nomatch q⟩
    · rw [q]; exact ⟨_, hTO, fun v q => nomatch q⟩
    · rw [q]; exact h1.obj
    · rw [q]; exact h2.obj
    · rw [q]; exact h3.obj
  · obtain ⟨hz, hTI, ⟨x, y, u, hTO⟩, h1, h2, h3⟩ := st
    exact ⟨k z (by simp) _ hz, k TI (by simp) _ hTI, ⟨x, y, u, k TO (by simp) _ hTO⟩, h1.at fun o q => k i1 (by simp) o q, h2.at fun o q => k i2 (by simp) o q, h3.at fun o q => k i3 (by simp) o q⟩
  · subst hK
    obtain ⟨xs, ys, zs, hx, hy, hz, lx, ly, lz⟩ := hg
    obtain ⟨its, rv, p, _⟩ := inv_sq I hx
    obtain ⟨its2, rv2, p2, _⟩ := inv_sq I hy
    obtain ⟨its3, rv3, p3, _⟩ := inv_sq I hz
    have l1 := rv.length
    have l2 := rv2.length
    have l3 := rv3.length
    refine ⟨(its.toArray, its2.toArray, its3.toArray), ⟨p, p2, p3⟩, by simp; omega, fun vals hP => ?_⟩
    obtain ⟨x1, x2, x3, e1, e2, e3, rfl⟩ := hP
    obtain ⟨u1, hu1, r1⟩ := rv.get (List.getElem?_eq_getElem lx)
    obtain ⟨u2, hu2, r2⟩ := rv2.get (List.getElem?_eq_getElem ly)
    obtain ⟨u3, hu3, r3⟩ := rv3.get (List.getElem?_eq_getElem lz)
    have q1 : its[i]? = some x1 := by simpa using e1
    have q2 : its2[i]? = some x2 := by simpa using e2
    have q3 : its3[i]? = some x3 := by simpa using e3
    rw [hu1] at q1; cases q1
    rw [hu2] at q2; cases q2
    rw [hu3] at q3; cases q3
    exact ⟨[xs[i], ys[i], zs[i]], .cons r1 (.cons r2 (.cons r3 .nil)), by simp, fun T hT => ⟨T, _, _, _, rfl, hT, rfl, fun xs' ys' zs' hx' hy' hz' => by rw [sq_inj I hx' hx, sq_inj I hy' hy, sq_inj I hz' hz]; exact ⟨List.getElem?_eq_getElem lx, List.getElem?_eq_getElem ly, List.getElem?_eq_getElem lz⟩⟩⟩
  · subst hK
    obtain ⟨xs, ys, zs, hx, hy, hz, e⟩ := hg
    obtain ⟨its, rv, p, _⟩ := inv_sq I hx
    obtain ⟨its2, rv2, p2, _⟩ := inv_sq I hy
    obtain ⟨its3, rv3, p3, _⟩ := inv_sq I hz
    have l1 := rv.length
    have l2 := rv2.length
    have l3 := rv3.length
    exact ⟨(its.toArray, its2.toArray, its3.toArray), ⟨p, p2, p3⟩, by simp; omega⟩
/-- enumerate -/
def Ite1 (K : PySem.W.Frag) (k1 : Bool) (a : Addr) : It :=
  ⟨fun i H => ∃ xs, SqX K k1 H a xs ∧ i < xs.length,
    fun i H v H' => ∃ T x, v = .ref T ∧ H T = none ∧ H' = upd H T (.tup [.int (i : Nat), x]) ∧ ∀ xs, SqX K k1 H a xs → xs[i]? = some x,
    fun i H => ∃ xs, SqX K k1 H a xs ∧ i = xs.length⟩
theorem turn_en {P : Program} {w : World} {K : PySem.W.Frag} {elts : List Expr} {kk : Nat} {tpos : Pos} {k1 : Bool} {a e it : Addr} (n1 : a ≠ it) (n2 : e ≠ it) (n3 : e ≠ a) :
    Turn P w K (.Tuple elts kk tpos) (Ite1 K k1 a) [e, it] e (fun i h => (∃ old, IsEnum h e it (0 + (i : Int)) old) ∧ itAt k1 h it a i) := by
  refine turnW (ι := Array Value) (Sc := fun x h => sqAt k1 h a x)
    (fun A hh x => WalksT.enumFrom 0 (draws_k (A := A.in1) k1 hh it a n1 x) e n2 (by simp [n2, n3]) (by simp))
    (fun x i h st sc => ⟨st.1, st.2, sc⟩) (fun x i h st => ⟨st.1, st.2.1⟩)
    (by simp) (fun c hc => hc) (fun i h st c hc => ?_) (fun i h h' st k => ?_) (fun A i s Q E st h => by obtain ⟨⟨_, he⟩, _⟩ := st; exact wpAny_pyIter_enum he h) (fun X hK i pins s σ H I hg => ?_) (fun X hK i pins s σ H I hg => ?_)
  · obtain ⟨⟨old, he⟩, h1⟩ := st
    have e' : c = e ∨ c = it := by simpa using hc
    rcases e' with q | q
    · rw [q]; exact ⟨_, he, fun v q => nomatch q⟩
    · rw [q]; exact h1.obj
  · obtain ⟨⟨old, he⟩, h1⟩ := st
    exact ⟨⟨old, k e (by simp) _ he⟩, h1.at fun o q => k it (by simp) o q⟩
  · subst hK
    obtain ⟨xs, hx, lx⟩ := hg
    obtain ⟨its, rv, p, _⟩ := inv_sq I hx
    have l1 := rv.length
    refine ⟨its.toArray, p, by simp; omega, fun vals hP => ?_⟩
    obtain ⟨t, x1, e1, rfl⟩ := hP
    obtain ⟨u1, hu1, r1⟩ := rv.get (List.getElem?_eq_getElem lx)
    have q1 : its[i]? = some x1 := by simpa using e1
    rw [hu1] at q1; cases q1
    exact ⟨[.int (i : Nat), xs[i]], .cons ⟨t, by simp⟩ (.cons r1 .nil), by simp, fun T hT => ⟨T, _, rfl, hT, rfl, fun xs' hx' => by rw [sq_inj I hx' hx]; exact List.getElem?_eq_getElem lx⟩⟩
  · subst hK
    obtain ⟨xs, hx, e⟩ := hg
    obtain ⟨its, rv, p, _⟩ := inv_sq I hx
    have l1 := rv.length
    exact ⟨its.toArray, p, by simp; omega⟩

section
variable {X : Cx}
theorem enum_newB {v : Value} {o : Obj} {H : Heap → Prop} (B : Begins v o H) :
    Meets (Builtin.«enumerate.__new__» ⟨[.type "enumerate", v], []⟩) (fun _ R s => H s.heap ∧
      R (.ok (.ret (.ref (s.heap.push o).objs.size))) { s with heap := (s.heap.push o).push { cls := .type "enumerate", data := .fields #[.none, .bool false, .ref s.heap.objs.size, rawInt 0, .none, .none] } }) :=
  .of_wp fun prog w A R s h => by
    obtain ⟨hp, g, d, tk, os⟩ := s; obtain ⟨h1, h⟩ := h
    have hsub := sub_enumerate
    have q1 : ∀ {A' : Around} {E : Value → Shared → Prop} {Q : Value → Shared → Prop}, Q (.ref hp.objs.size) ⟨hp.push o, g, d, tk, os⟩ → wpAny (model prog w) A' (pyIter v) Q E ⟨hp, g, d, tk, os⟩ :=
      fun q => B.iter prog w _ _ ⟨hp, g, d, tk, os⟩ _ h1 q
    wp_walk using q1
    refine wpAny_stack_any fun st => wpAny_pure ?_
    split
    · rename_i c _ _ _ _ _
      cases (c == Value.type "enumerate")
      · wp_walk using q1
        exact ⟨_, rfl, h⟩
      · wp_walk using q1
        exact ⟨_, rfl, h⟩
    · wp_walk using q1
      exact ⟨_, rfl, h⟩
theorem enum_begin {prog : Program} {w : World} {A : Around} {E : Value → Shared → Prop} {s : Shared} {v : Value} {o : Obj} {H : Heap → Prop} {Q : Value → Shared → Prop} (B : Begins v o H) (h1 : H s.heap)
    (h : ∀ h', IsEnum h' (s.heap.objs.size + 1) s.heap.objs.size 0 .none → h'.get? s.heap.objs.size = some o → h'.objs.size = s.heap.objs.size + 2 →
      (∀ b o, s.heap.get? b = some o → h'.get? b = some o) → Q (.ref (s.heap.objs.size + 1)) { s with heap := h' }) :
    wpAny (model prog w) A (call (.type "enumerate") [v]) Q E s := by
  refine callType_new F.called_enumerate (by decide) (F.typeCall_enumerate_1 _) (F.newCall_enumerate_1 _) (fun obj => F.args_object_init_2 obj _) F.entry_enumerate_new
    (enum_newB B) ⟨h1, ?_⟩
  have hz : (s.heap.push o).objs.size = s.heap.objs.size + 1 := Heap.size_push ..
  show _ ∧ _
  rw [hz]
  have he : IsEnum ((s.heap.push o).push { cls := .type "enumerate", data := .fields #[.none, .bool false, .ref s.heap.objs.size, rawInt 0, .none, .none] }) (s.heap.objs.size + 1) s.heap.objs.size 0 .none := by
    have := Heap.get?_push_size (s.heap.push o) (o := { cls := .type "enumerate", data := .fields #[.none, .bool false, .ref s.heap.objs.size, rawInt 0, .none, .none] }) rfl
    rw [hz] at this; exact this
  exact ⟨⟨_, he, rfl⟩, h _ he (Heap.get?_push_of_some _ (Heap.get?_push_size _ B.free)) (by rw [Heap.size_push, hz]) fun b o x => Heap.get?_push_of_some _ (Heap.get?_push_of_some _ x)⟩
def iEn (K : PySem.W.Frag) (ta : TA) : TI := fun σ H R => ta σ H fun vs H1 => ∃ a k xs, vs = [.ref a] ∧ SqX K k H1 a xs ∧ R (Ite1 K k a) H1
def iZ2 (K : PySem.W.Frag) (ta : TA) : TI := fun σ H R => ta σ H fun vs H1 => ∃ a b k1 k2 xs ys, vs = [.ref a, .ref b] ∧ SqX K k1 H1 a xs ∧ SqX K k2 H1 b ys ∧ R (Itz2 K k1 k2 a b) H1
def iZ3 (K : PySem.W.Frag) (ta : TA) : TI := fun σ H R => ta σ H fun vs H1 => ∃ a b c k1 k2 k3 xs ys zs, vs = [.ref a, .ref b, .ref c] ∧ SqX K k1 H1 a xs ∧ SqX K k2 H1 b ys ∧ SqX K k3 H1 c zs ∧ R (Itz3 K k1 k2 k3 a b c) H1
theorem pi_en {e : Expr} {ta : TA} {p pos tpos : Pos} {elts : List Expr} {kk : Nat} (hg : Gl X "enumerate") (hm : X.mg "enumerate" = none) (ha : PA X [e] ta) (hs : starEach [e] X.env = [(false, eval e X.env)]) :
    PI X (.Tuple elts kk tpos) (.Call (.Name "enumerate" p) [e] [] pos) (iEn X.K ta) := by
  refine ⟨fun pins s σ H R I h => ?_⟩
  refine Call_ (ld_blt I hg hm boot_enumerate (PyProof.Rows.callWith_type1 (thn (ha.run pos pins s σ H _ I h) fun us s1 ⟨vs, H1, I1, r1, q1⟩ => ?_) hs rfl))
  obtain ⟨a, k, xs, ex, hq, q⟩ := q1
  subst ex
  cases r1 with
  | cons r rr =>
    cases rr
    cases r
    obtain ⟨its, rv, p', hz⟩ := inv_sq I1 hq
    have lt := p'.lt
    refine enum_begin (begins_k k a its.toArray) p' fun h' he hit hsz hk => wpAny_pyIter_enum he ?_
    have I2 : Inv X pins σ H1 { s1 with heap := h' } := I1.kept (t' := s1.toks) hk
    refine ⟨s1.heap.objs.size + 1, [s1.heap.objs.size + 1, s1.heap.objs.size], _, _, H1, rfl, I2, turn_en (Nat.ne_of_lt lt) (Nat.succ_ne_self _) (Nat.ne_of_gt (Nat.lt_succ_of_lt lt)), ⟨⟨.none, he⟩, objIt_at hit⟩, fun b hb => ?_, q⟩
    have e' : b = s1.heap.objs.size + 1 ∨ b = s1.heap.objs.size := by simpa using hb
    have hle : s1.heap.objs.size ≤ b := by
      rcases e' with z | z
      · rw [z]; exact Nat.le_add_right _ _
      · rw [z]; exact Nat.le_refl _
    exact I1.fpOk hle (I1.hok.fresh hle)
theorem pi_z2 {e e2 : Expr} {ta : TA} {p pos tpos : Pos} {elts : List Expr} {kk : Nat} (hg : Gl X "zip") (hm : X.mg "zip" = none) (ha : PA X [e, e2] ta)
    (hs : starEach [e, e2] X.env = (false, eval e X.env) :: starEach [e2] X.env) (hpl : (backTo pos (starEach [e2] X.env)).any (·.1) = false) :
    PI X (.Tuple elts kk tpos) (.Call (.Name "zip" p) [e, e2] [] pos) (iZ2 X.K ta) := by
  refine ⟨fun pins s σ H R I h => ?_⟩
  refine Call_ (ld_blt I hg hm PyProof.Rows.boot_zip (PyProof.Rows.callWith_type1 (thn (ha.run pos pins s σ H _ I h) fun us s1 ⟨vs, H1, I1, r1, q1⟩ => ?_) hs hpl))
  obtain ⟨a, b, k1, k2, xs, ys, ex, hx, hy, q⟩ := q1
  subst ex
  cases r1 with
  | cons r rr =>
    cases rr with
    | cons r' rr =>
      cases rr
      cases r
      cases r'
      obtain ⟨its, rv, p1, _⟩ := inv_sq I1 hx
      obtain ⟨its2, rv2, p2, _⟩ := inv_sq I1 hy
      have l1 := p1.lt
      have l2 := p2.lt
      refine zip_begins2 (begins_k k1 a its.toArray) (begins_k k2 b its2.toArray) p1 p2 fun h' hz hTI hTO h1 h2 hsz hk => wpAny_pyIter_zip hz ?_
      have I2 : Inv X pins σ H1 { s1 with heap := h' } := I1.kept (t' := s1.toks) hk
      refine ⟨s1.heap.objs.size + 4, [s1.heap.objs.size + 4, s1.heap.objs.size + 2, s1.heap.objs.size + 3, s1.heap.objs.size, s1.heap.objs.size + 1], _, _, H1, rfl, I2,
        turn_z2 (zip_sep2 (fp1 := [a]) (fp2 := [b]) (by simpa using l1) (by simpa using l2)) (Nat.ne_of_lt l1) (Nat.ne_of_lt (Nat.lt_succ_of_lt l2)), ⟨hz, hTI, ⟨_, _, hTO⟩, objIt_at h1, objIt_at h2⟩, fun c hcm => ?_, q⟩
      have e' : c = s1.heap.objs.size + 4 ∨ c = s1.heap.objs.size + 2 ∨ c = s1.heap.objs.size + 3 ∨ c = s1.heap.objs.size ∨ c = s1.heap.objs.size + 1 := by simpa using hcm
      have hle : s1.heap.objs.size ≤ c := by
        rcases e' with z | z | z | z | z <;> rw [z] <;> first | exact Nat.le_add_right _ _ | exact Nat.le_refl _
      exact I1.fpOk hle (I1.hok.fresh hle)
theorem pi_z3 {e e2 e3 : Expr} {ta : TA} {p pos tpos : Pos} {elts : List Expr} {kk : Nat} (hg : Gl X "zip") (hm : X.mg "zip" = none) (ha : PA X [e, e2, e3] ta)
    (hs : starEach [e, e2, e3] X.env = (false, eval e X.env) :: starEach [e2, e3] X.env) (hpl : (backTo pos (starEach [e2, e3] X.env)).any (·.1) = false) :
    PI X (.Tuple elts kk tpos) (.Call (.Name "zip" p) [e, e2, e3] [] pos) (iZ3 X.K ta) := by
  refine ⟨fun pins s σ H R I h => ?_⟩
  refine Call_ (ld_blt I hg hm PyProof.Rows.boot_zip (PyProof.Rows.callWith_type1 (thn (ha.run pos pins s σ H _ I h) fun us s1 ⟨vs, H1, I1, r1, q1⟩ => ?_) hs hpl))
  obtain ⟨a, b, d, k1, k2, k3, xs, ys, zs, ex, hx, hy, hw, q⟩ := q1
  subst ex
  cases r1 with
  | cons r rr =>
    cases rr with
    | cons r' rr =>
      cases rr with
      | cons r'' rr =>
        cases rr
        cases r
        cases r'
        cases r''
        obtain ⟨its, rv, p1, _⟩ := inv_sq I1 hx
        obtain ⟨its2, rv2, p2, _⟩ := inv_sq I1 hy
        obtain ⟨its3, rv3, p3, _⟩ := inv_sq I1 hw
        have l1 := p1.lt
        have l2 := p2.lt
        have l3 := p3.lt
        refine zip_begins3 (begins_k k1 a its.toArray) (begins_k k2 b its2.toArray) (begins_k k3 d its3.toArray) p1 p2 p3 fun h' hz hTI hTO h1 h2 h3 hsz hk => wpAny_pyIter_zip hz ?_
        have I2 : Inv X pins σ H1 { s1 with heap := h' } := I1.kept (t' := s1.toks) hk
        refine ⟨s1.heap.objs.size + 5, [s1.heap.objs.size + 5, s1.heap.objs.size + 3, s1.heap.objs.size + 4, s1.heap.objs.size, s1.heap.objs.size + 1, s1.heap.objs.size + 2], _, _, H1, rfl, I2,
          turn_z3 (zip_sep3 (fp1 := [a]) (fp2 := [b]) (fp3 := [d]) (by simpa using l1) (by simpa using l2) (by simpa using l3)) (Nat.ne_of_lt l1) (Nat.ne_of_lt (Nat.lt_succ_of_lt l2)) (Nat.ne_of_lt (Nat.lt_succ_of_lt (Nat.lt_succ_of_lt l3))), ⟨hz, hTI, ⟨_, _, _, hTO⟩, objIt_at h1, objIt_at h2, objIt_at h3⟩, fun c hcm => ?_, q⟩
        have e' : c = s1.heap.objs.size + 5 ∨ c = s1.heap.objs.size + 3 ∨ c = s1.heap.objs.size + 4 ∨ c = s1.heap.objs.size ∨ c = s1.heap.objs.size + 1 ∨ c = s1.heap.objs.size + 2 := by simpa using hcm
        have hle : s1.heap.objs.size ≤ c := by
          rcases e' with z | z | z | z | z | z <;> rw [z] <;> first | exact Nat.le_add_right _ _ | exact Nat.le_refl _
        exact I1.fpOk hle (I1.hok.fresh hle)
/-- a list, a tuple or a text -/
def iAny (K : PySem.W.Frag) (tl : TE) : TI := fun σ H R => tl σ H fun x H1 => (∃ a xs, x = .ref a ∧ SqL K H1 a xs ∧ R (Itl K a) H1) ∨ (∃ a xs, x = .ref a ∧ SqT K H1 a xs ∧ R (Itt K a) H1) ∨ ∃ z, x = .str z ∧ R (Its z) H1
theorem pi_any {tg l : Expr} {tl : TE} (hl : PE X l tl) : PI X tg l (iAny X.K tl) := by
  refine ⟨fun pins s σ H R I h => ?_⟩
  have hc : PE X l tl := hl
  refine thn (hl.run pins s σ H _ I h) fun v s1 ⟨x, H1, I1, r1, q1⟩ => ?_
  rcases q1 with ⟨a, xs, e, hq, q⟩ | ⟨a, xs, e, hq, q⟩ | ⟨z, e, q⟩
  · subst e
    cases r1
    obtain ⟨its, rv, p, hz⟩ := I1.list hq
    refine wpAny_pyIter_list p.isList ?_
    refine ⟨s1.heap.objs.size, [s1.heap.objs.size], _, _, H1, rfl, I1.kept (t' := s1.toks) fun b o e => Heap.get?_push_of_some _ e, turn_list a _, ⟨_, Heap.get?_push_size _ rfl, rfl, rfl⟩, fun b hb => ?_, q⟩
    have e : b = s1.heap.objs.size := by simpa using hb
    subst e
    exact I1.fpOk (Nat.le_refl _) (I1.hok.fresh (Nat.le_refl _))
  · subst e
    cases r1
    obtain ⟨its, rv, p, hz⟩ := I1.tuple hq
    refine wpAny_pyIter_tuple (show s1.heap.IsTuple a its.toArray from p) ?_
    refine ⟨s1.heap.objs.size, [s1.heap.objs.size], _, _, H1, rfl, I1.kept (t' := s1.toks) fun b o e => Heap.get?_push_of_some _ e, turn_tuple a _, ⟨_, Heap.get?_push_size _ rfl, rfl, rfl⟩, fun b hb => ?_, q⟩
    have e : b = s1.heap.objs.size := by simpa using hb
    subst e
    exact I1.fpOk (Nat.le_refl _) (I1.hok.fresh (Nat.le_refl _))
  · subst e
    obtain ⟨t, rfl⟩ := r1
    cases ha : z.cps.all (· < 128)
    · exact wpAny_pyIter_wide ha (pi_one (tk := s1.toks) I1 _ (turn_str _ z t "str_iterator" (.inr rfl)) ⟨_, Heap.get?_push_size _ rfl, rfl, rfl⟩ q)
    · exact wpAny_pyIter_ascii ha (pi_one (tk := s1.toks) I1 _ (turn_str _ z t "str_ascii_iterator" (.inl rfl)) ⟨_, Heap.get?_push_size _ rfl, rfl, rfl⟩ q)
end
end TG
end
section
namespace TG
open PySem PySem.Spec PyProof.Rows L2

section
variable {Γ : Ga} {R : XP} {G : Gh} {X : Cx} {σ : L2.St} {Z : Addr → Prop} {H : Hp} {env : Env} {N bl : List Str} {sc : Scope}
theorem s_var {i : Nat} {x : Str} {pos : Pos} (hN : X.N[i]? = some x) (hv : Vis X.env.scope x) (hd : (x == ("__debug__" : Str)) = false) (hcd : (x == ("__classdict__" : Str)) = false) : PE X (.Name x pos) (tE Γ R G (.var i)) := by
  refine pe_imp (pe_var hN hv hd hcd) fun σ H Q ⟨Z, env, Q0, hR, hw, hq⟩ => ?_
  have hw : (match env[i]? with
    | some (Sl.im d) => Q0 (.im d) env
    | some .un => False
    | some _ => Q0 (.bo i) env
    | none => False) := hw
  split at hw
  · next d h =>
    obtain ⟨v, e, r⟩ := hR.im i d h
    exact ⟨v, e, hq (.im d) env v Z H hR .refl r trivial hw⟩
  · exact hw.elim
  · next s h1 h2 h =>
    cases s with
    | un => exact (h2 rfl).elim
    | im d => exact (h1 d rfl).elim
    | ow d =>
      obtain ⟨a, e, _⟩ := hR.ow i d h
      exact ⟨_, e, hq (.bo i) env _ Z H hR .refl e trivial hw⟩
    | io d =>
      obtain ⟨e, _⟩ := hR.io i d h
      exact ⟨_, e, hq (.bo i) env _ Z H hR .refl e trivial hw⟩
    | lk d =>
      obtain ⟨a, e, _⟩ := hR.lk i d h
      exact ⟨_, e, hq (.bo i) env _ Z H hR .refl e trivial hw⟩
    | xc n f =>
      obtain ⟨g, _, _, _, e, _⟩ := hR.xc.sl i n f h
      exact ⟨_, e, hq (.bo i) env _ Z H hR .refl e trivial hw⟩
  · exact hw.elim
theorem s_int {i : Int} {j pos} : PE X (.Constant (.int i) j pos) (tE Γ R G (.cint i)) := pe_imp pe_int fun σ H Q ⟨Z, env, Q0, hR, hw, hq⟩ => hq (.im _) env _ Z H hR .refl (Rep.int _) trivial hw
theorem s_str {i : Str} {j pos} : PE X (.Constant (.str i) j pos) (tE Γ R G (.cstr i)) := pe_imp pe_str fun σ H Q ⟨Z, env, Q0, hR, hw, hq⟩ => hq (.im _) env _ Z H hR .refl (Rep.str _) trivial hw
theorem s_bl {i : Bool} {j pos} : PE X (.Constant (.bool i) j pos) (tE Γ R G (.cbl i)) := pe_imp pe_bl fun σ H Q ⟨Z, env, Q0, hR, hw, hq⟩ => hq (.im _) env _ Z H hR .refl (Rep.bl _) trivial hw
theorem s_non {j pos} : PE X (.Constant .none j pos) (tE Γ R G .cnon) := pe_imp pe_non fun σ H Q ⟨Z, env, Q0, hR, hw, hq⟩ => hq (.im _) env _ Z H hR .refl Rep.non trivial hw
theorem s_glob {x : Str} {pos : Pos} (hcs : ∀ x d, Γ.cs x = some d → ∃ v u, X.mg x = some u ∧ RelV v u ∧ ∀ Z H, Rep G.K Z H v d) (hg : Gl X x) (hd : (x == ("__debug__" : Str)) = false) : PE X (.Name x pos) (tE Γ R G (.glob x)) := by
  by_cases h : ∃ d, Γ.cs x = some d
  · obtain ⟨d, h⟩ := h
    obtain ⟨v, u, h1, h2, h3⟩ := hcs x d h
    refine pe_imp (pe_glob hg h1 h2 hd) fun σ H Q ⟨Z, env, Q0, hR, hw, hq⟩ => ?_
    obtain ⟨d', e, hw⟩ := (show ∃ d, Γ.cs x = some d ∧ Q0 (.im d) env from hw)
    rw [h] at e; cases e
    exact hq (.im _) env _ Z H hR .refl (h3 Z H) trivial hw
  · refine pe_no fun σ H Q ⟨Z, env, Q0, hR, hw, hq⟩ => ?_
    obtain ⟨d', e, hw⟩ := (show ∃ d, Γ.cs x = some d ∧ Q0 (.im d) env from hw)
    exact h ⟨d', e⟩

theorem rds_ok (Rl : Rel G σ Z H env) : ∀ {rs : List Rv} {vs : List V} {K : List D → Prop}, RepRs G σ Z H env rs vs → rds rs env K → ∃ ds, RepTL G.K Z H vs ds ∧ K ds
  | _, _, _, .nil, w => ⟨[], .nil, w⟩
  | _, _, _, .cons h t, w => by
    obtain ⟨d, r, w⟩ := rd_ok Rl h w
    obtain ⟨ds, rr, w⟩ := rds_ok Rl t w
    exact ⟨d :: ds, .cons r rr, w⟩
theorem s_blt {b : Bt} {as : Ex} {e : Expr} {es : List Expr} {p pos : Pos} (hgd : X.A.guards = some []) (hu : X.A.units + 64 < cLine) (hc : X.calm = true) (hK : X.K = G.K) (hg : Gl X b.nm) (hm : X.mg b.nm = none) (ha : PA X (e :: es) (tB Γ R G as))
    (he : starEach (e :: es) X.env = (false, eval e X.env) :: starEach es X.env) (hpl : (backTo pos (starEach es X.env)).any (·.1) = false) : PE X (.Call (.Name b.nm p) (e :: es) [] pos) (tE Γ R G (.blt b as)) := by
  obtain ⟨r, hr, sem⟩ := blt_ok (X := X) hgd hu hc b
  rw [hK] at sem
  obtain ⟨hv, hn, hdb⟩ := bt_boot b
  have base : PE X (.Call (.Name b.nm p) (e :: es) [] pos) (tCB r (tB Γ R G as)) := by
    unfold Bt.val at hr hv
    cases ht : b.ty with
    | none => rw [ht] at hr hv; exact pe_callB hr hg hm hv ha hn hdb he hpl
    | some T => rw [ht] at hr hv; exact pe_callTy hr hg hm hv ha hn hdb he hpl
  refine pe_imp base fun σ H Q ⟨Z, env, Q0, hR, hw, hq⟩ => ?_
  refine ⟨Z, env, _, hR, hw, fun rs e1 vs Z1 H1 R1 S1 r1 w1 => ?_⟩
  obtain ⟨ds, rr, w⟩ := rds_ok R1 r1 w1
  refine sem Z1 H1 vs ds _ Q rr w fun z v H' kz o => ?_
  obtain ⟨Z3, R3, S3, V3, N3⟩ := o.run R1
  exact hq z e1 v Z3 H' R3 (S1.trans S3) V3 (S1.repN N3) kz
def Tn.val (t : Tn) : Value := .type t.nm
theorem tn_boot (t : Tn) : bootBuiltins t.nm = some (.type t.nm) ∧ (t.nm : Str) ≠ "__name__" ∧ ((t.nm : Str) == ("__debug__" : Str)) = false := by
  cases t
  all_goals refine ⟨?_, by decide +kernel, by decide +kernel⟩
  · exact PyProof.Rows.boot_int
  · exact PyProof.Rows.boot_bool
  · exact PyProof.Rows.boot_str
  · exact PyProof.Rows.boot_tuple
  · exact PyProof.Rows.boot_list
  · exact PyProof.Rows.boot_dict
def tyD : D → String
  | .non => "NoneType" | .bl _ => "bool" | .int _ => "int" | .str _ => "str" | .tup _ => "tuple" | .lst _ => "list" | .scr _ => "list" | .dct _ => "dict" | .dtt _ => "dict" | .ptp _ => "tuple"
theorem kit_d (d : D) (t : Tn) : kitB (tyD d) t.nm = some (dIsi d t) := by
  cases d <;> cases t <;> (simp only [tyD, dIsi, Tn.nm]; decide +kernel)
theorem RepT.ty {K : PySem.W.Frag} {v : V} {d : D} (h : RepT K Z H v d) : TyX K H v (.type (tyD d)) := by
  rcases h with h | ⟨a, rfl, h | h⟩
  · cases h with
    | non => exact .base .non
    | bl b => exact .base (.bl b)
    | int b => exact .base (.int b)
    | str b => exact .base (.str b)
    | tup h r =>
      rcases h with ⟨_, h⟩ | ⟨o, its, n, h1, h2, _⟩ | ⟨_, o, h⟩
      · exact .base (.tup h)
      · exact .kTuple h1 h2
      · exact .fTuple h
    | lst h r => exact .base (.lst h.2)
    | scr h r =>
      rcases h with ⟨_, o, h⟩ | ⟨o, its, n, h1, h2, _⟩
      · exact .base (.frz h)
      · exact .kList h1 h2
    | dct z h r => exact .base (.dK h)
    | dtt z h r => exact .base (.dT h)
    | ptp h r => obtain ⟨_, o, _, h⟩ := h; exact .fTuple h
  · cases h with
    | lst h r => exact .base (.lst h)
    | dct h r => exact .base (.dK h)
    | dtt h r => exact .base (.dT h)
  · cases h with
    | dct h r => exact .fDict h
theorem s_isi {a : Ex} {t : Tn} {e : Expr} {p p2 pos : Pos} (hK : X.K = G.K) (hg : Gl X "isinstance") (hm : X.mg "isinstance" = none) (hg2 : Gl X t.nm) (hm2 : X.mg t.nm = none) (ha : PE X e (tE Γ R G a))
    (he : starEach [e, .Name t.nm p2] X.env = (false, eval e X.env) :: starEach [.Name t.nm p2] X.env) (hpl : (backTo pos (starEach [.Name t.nm p2] X.env)).any (·.1) = false) :
    PE X (.Call (.Name "isinstance" p) [e, .Name t.nm p2] [] pos) (tE Γ R G (.isi a t)) := by
  obtain ⟨hv, hn, hdb⟩ := tn_boot t
  refine pe_imp (pe_callB (r := rIsi X.K) call_isi hg hm PyProof.Rows.boot_isinstance (pa_cons ha (pa_cons (pe_bltn (v := .ty t.nm) hg2 hm2 hv rfl hn hdb) pa_nil rfl) he) (by decide) (by decide) he hpl) fun σ H Q ⟨Z, env, Q0, hR, hw, hq⟩ => ?_
  refine ⟨Z, env, _, hR, hw, fun r1 e1 v1 Z1 H1 R1 S1 V1 _ w1 => ?_⟩
  obtain ⟨d, tr, w⟩ := rd_ok R1 V1 w1
  rw [← hK] at tr
  exact ⟨v1, .ty t.nm, _, _, dIsi d t, rfl, .ty _, tr.ty, kit_ty (kit_d d t), hq (.im _) e1 _ Z1 H1 R1 S1 (Rep.bl _) trivial w⟩

def Mt.nm : Mt → Str
  | .get => "get" | .index => "index" | .count => "count" | .join => "join" | .split => "split" | .startswith => "startswith" | .endswith => "endswith" | .replace => "replace" | .upper => "upper"
def Mm.nm : Mm → Str
  | .append => "append" | .extend => "extend" | .pop => "pop" | .remove => "remove" | .insert => "insert" | .clear => "clear" | .reverse => "reverse"
def tyG (K : PySem.W.Frag) (T : String) (x : V) (H : Hp) : Prop := tyV K T x H ∨ (T = "dict" ∧ ∃ p o kvs, x = .ref p ∧ H p = some (.frz o (.dK kvs)))
theorem tyG_is {pins : List (Addr × Obj)} {s : Shared} {T : String} {x : V} {v : Value} (I : Inv X pins σ H s) (r : RelV x v) (ty : tyG X.K T x H) : s.TypeIs v T ∧ ∀ a, v = .ref a → ∃ ob, s.heap.get? a = some ob ∧ ob.dict = none := by
  rcases ty with ty | ⟨rfl, p, ob, kvs, rfl, h⟩
  · exact tyV_is I r ty
  · cases (show v = Value.ref p from r)
    obtain ⟨_, _, _, vs, _, o, es, ep, h1, h2, _⟩ := (show ObjOk X.prog X.w H s.heap p (.frz ob (.dK kvs)) from I.hok p _ h)
    exact ⟨⟨o, h1, h2.1⟩, fun a e => by cases e; exact ⟨o, h1, h2.2.1⟩⟩
def tBG (K : PySem.W.Frag) (T : String) (r : V → List V → Hp → VK → Prop) (to : TE) (t : TA) : TE := fun σ H Q => to σ H fun x H1 => tyG K T x H1 ∧ t σ H1 fun xs H2 => r x xs H2 Q
theorem pe_bmG {o e : Expr} {es : List Expr} {to : TE} {t : TA} {name : Str} {apos cpos : Pos} {T id : String} {r : V → List V → Hp → VK → Prop} (pa : PlainAttrs T) (slot : Slot T name id) (hty : typeOf (.builtin id) = pure (.type "method_descriptor")) (hm : MtR X id r) (ho : PE X o to) (ha : PA X (e :: es) t)
    (hbase : attributeBase o name X.env (eval o X.env) = eval o X.env)
    (hfew : ((backTo cpos (starEach (e :: es) X.env)).all (fun x => !x.1) && (backToKw cpos (keywordEach [] X.env)).all (fun x => x.1.isSome)
      && decide ((e :: es).length + ([] : List Keyword).length + (if ([] : List Keyword).isEmpty then 0 else 1) < 30)) = true)
    (hline : (apos.endLine == cpos.line) = true) (hs : starEach (e :: es) X.env = (false, eval e X.env) :: starEach es X.env) (hplain : (backTo cpos (starEach es X.env)).any (·.1) = false) :
    PE X (.Call (.Attribute o name apos) (e :: es) [] cpos) (tBG X.K T r to t) := by
  refine ⟨fun pins s σ H Q I h => ?_⟩
  refine wpAny_Call_method_late hbase hfew hline rfl (thn (ho.run pins s σ H _ I h) fun v s1 ⟨x, H1, I1, r1, ty, q1⟩ => ?_)
  obtain ⟨h1, h2⟩ := tyG_is I1 r1 ty
  refine ⟨T, id, pa, slot, hty, h1, h2, ?_⟩
  have hA := ha.run cpos pins s1 σ H1 _ I1 q1
  rw [hs] at hA ⊢
  refine Calls.callWith_builtin (by show (false || (backTo cpos (starEach es X.env)).any (·.1)) = false; rw [hplain] <;> rfl) (Calls.evalArgs_plain ?_)
  exact thn hA fun us s2 ⟨vs, H2, I2, r2, q2⟩ => hm pins s2 σ H2 x vs v us Q I2 r1 r2 q2
def Mt.typ : Mt → String
  | .get => "dict" | .index => "list" | .count => "list" | _ => "str"
def Mt.bid : Mt → String
  | .get => "dict.get" | .index => "list.index" | .count => "list.count" | .join => "str.join" | .split => "str.split" | .startswith => "str.startswith" | .endswith => "str.endswith" | .replace => "str.replace" | .upper => "str.upper"
def MtOk (X : Cx) (m : Mt) : Prop := ∃ T id, PlainAttrs T ∧ Slot T m.nm id ∧ typeOf (.builtin id) = pure (.type "method_descriptor") ∧ ∃ r : V → List V → Hp → VK → Prop, MtR X id r ∧
  (∀ (Z : Addr → Prop) (H : Hp) (x : V) (d : D), RepT X.K Z H x d → tyM m d = true → tyG X.K T x H) ∧ ∀ (d : D) (ds : List D) (Kp : Rv → Prop), dMt m d ds Kp → ∀ (Z' : Addr → Prop) (H' : Hp) (x : V) (xs : List V) (Q : VK), RepT X.K Z' H' x d → RepTL X.K Z' H' xs ds →
    (∀ z v H2, Kp z → Out X.K Z' H' z v H2 → Q v H2) → r x xs H' Q
theorem mt_none {id : String} : MtR X id (fun _ _ _ _ => False) := fun _ _ _ _ _ _ _ _ _ _ _ _ h => h.elim
theorem mt_get (hu : X.A.units + 64 < cLine) : MtR X "dict.get" (fun x xs H Q => ∃ a, x = .ref a ∧ ((∃ y o, xs = [y] ∧ DGe X.K H a y o ∧ Q (o.getD .non) H) ∨ ∃ y d o, xs = [y, d] ∧ DGe X.K H a y o ∧ Q (o.getD d) H)) := by
  intro pins s σ H x xs v us Q I rx rs h
  obtain ⟨a, rfl, h⟩ := h
  cases rx
  rcases h with ⟨y, o, rfl, g, q⟩ | ⟨y, d, o, rfl, g, q⟩
  · obtain ⟨u, rfl, ru⟩ := rs.one
    exact e_get1 (by omega) I g ru fun w' s' I' r' => ⟨_, H, I', r', q⟩
  · obtain ⟨u, w, rfl, ru, rw'⟩ := rs.two
    exact e_get2 (by omega) I g ru rw' fun w' s' I' r' => ⟨_, H, I', r', q⟩
theorem RepT.tyD {v : V} {kvs : List (Key × D)} (h : RepT X.K Z H v (.dct kvs)) : tyG X.K "dict" v H := by
  rcases h with h | ⟨a, rfl, h | h⟩
  · cases h with
    | dct z h r => exact .inl (.inr (.inr (.inl ⟨rfl, .inl ⟨_, h⟩⟩)))
  · cases h with
    | dct h r => exact .inl (.inr (.inr (.inl ⟨rfl, .inl ⟨_, h⟩⟩)))
  · cases h with
    | dct h r => exact .inr ⟨rfl, _, _, _, rfl, h⟩
theorem RepT.tyDT {v : V} {kvs : List (List Key × D)} (h : RepT X.K Z H v (.dtt kvs)) : tyG X.K "dict" v H := by
  obtain ⟨a, kvs, rfl, h, r⟩ := h.dtt
  exact .inl (.inr (.inr (.inl ⟨rfl, .inr ⟨_, h⟩⟩)))
theorem mtok_get (hu : X.A.units + 64 < cLine) : MtOk X .get := by
  refine ⟨"dict", "dict.get", F.plainAttrs_dict, F.slot_dict_get, F.type_dict_get, _, mt_get hu, fun Z H x d hx ht => ?_, fun d ds Kp hd Z' H' x xs Q hx' hxs q => ?_⟩
  · cases d <;> first | exact hx.tyD | exact hx.tyDT | cases ht
  cases d <;> try exact hd.elim
  · obtain ⟨a, kvs, rfl, h1, r1⟩ := hx'.dct
    cases hxs with
    | nil => exact hd.elim
    | cons h2 r2 =>
      cases r2 with
      | nil =>
        obtain ⟨k, ek, hd⟩ := hd
        cases h2.key ek
        refine ⟨a, rfl, .inl ?_⟩
        rcases RepKs.dget (k := k) h1 r1 with ⟨e, g⟩ | ⟨v, d, e, g, rv⟩
        · rw [e] at hd; exact ⟨_, _, rfl, .inl g, q _ _ _ hd (.same .non)⟩
        · rw [e] at hd; exact ⟨_, _, rfl, .inl g, q _ _ _ hd (.same rv)⟩
      | cons h3 r3 =>
        cases r3 with
        | cons _ _ => exact hd.elim
        | nil =>
          obtain ⟨fl, k, ek, hd⟩ := hd
          cases h2.key ek
          refine ⟨a, rfl, .inr ?_⟩
          rcases RepKs.dget (k := k) h1 r1 with ⟨e, g⟩ | ⟨v, d, e, g, rv⟩
          · rw [e] at hd; exact ⟨_, _, _, rfl, .inl g, q _ _ _ hd (.same (h3.flat fl).2)⟩
          · rw [e] at hd; exact ⟨_, _, _, rfl, .inl g, q _ _ _ hd (.same rv)⟩
  · obtain ⟨a, kvs, rfl, h1, r1⟩ := hx'.dtt
    cases hxs with
    | nil => exact hd.elim
    | @cons v2 d2 _ _ h2 r2 =>
      cases r2 with
      | nil =>
        cases d2 <;> try exact hd.elim
        obtain ⟨k, ek, hd⟩ := hd
        obtain ⟨b, ws, rfl, hb, rb⟩ := h2.tup
        refine ⟨a, rfl, .inl ?_⟩
        rcases RepTs.dget h1 hb.sq (rb.keys ek) r1 with ⟨e, g⟩ | ⟨v, d, e, g, rv⟩
        · rw [e] at hd; exact ⟨_, _, rfl, g, q _ _ _ hd (.same .non)⟩
        · rw [e] at hd; exact ⟨_, _, rfl, g, q _ _ _ hd (.same rv)⟩
      | cons h3 r3 =>
        cases r3 with
        | cons _ _ => cases d2 <;> exact hd.elim
        | nil =>
          cases d2 <;> try exact hd.elim
          obtain ⟨fl, k, ek, hd⟩ := hd
          obtain ⟨b, ws, rfl, hb, rb⟩ := h2.tup
          refine ⟨a, rfl, .inr ?_⟩
          rcases RepTs.dget h1 hb.sq (rb.keys ek) r1 with ⟨e, g⟩ | ⟨v, d, e, g, rv⟩
          · rw [e] at hd; exact ⟨_, _, _, rfl, g, q _ _ _ hd (.same (h3.flat fl).2)⟩
          · rw [e] at hd; exact ⟨_, _, _, rfl, g, q _ _ _ hd (.same rv)⟩
theorem index_list_data {prog : Program} {w : World} {A : Around} {E : Value → Shared → Prop} {s : Shared} {l : Addr} {vs : Array Value} {x : Value} {xs : List PyData} {d : PyData} {as bs : List Addr} {Q : Value → Shared → Prop} {j : Nat} (hl : s.heap.IsList l vs) (rs : ReadsAll s.heap vs.toList xs as) (rx : Reads s.heap x d bs) (hxs : PyData.plainAll xs = true) (hd : d.plain = true) (hu : A.units + 1 + min (PyData.depthAll xs) d.depth < cLine)
    (hp : SeqAt.dataPlace xs d = some j) (hsz : vs.size ≤ sizeLine) (h : Q (.int j s.toks) { s with toks := s.toks + 1 }) : wpAny (model prog w) A (call (.builtin "list.index") [.ref l, x]) Q E s := by
  obtain ⟨⟨cls, dd, data, sl⟩, ho, hc, n, hd'⟩ := id hl
  simp only at hc hd'
  subst hc hd'
  obtain ⟨hj, hit, hno⟩ := SeqAt.hit_at rs hxs hp
  have hsm : (j : Int) < 2 ^ 63 - 1 := by
    have := line63
    omega
  exact call_meets F.slot_list_index ⟨_, ho, rfl⟩ F.entry_list_index (F.args_list_index_2 _ _) (SeqAt.list_indexAt l vs n dd sl x _ j hj hsm hit hno) ⟨ho, SeqAt.items_plain rs rx hxs hd hu, h⟩
theorem mt_index (hu : X.A.units + 64 < cLine) : MtR X "list.index" (fun x xs H Q => ∃ (a : Addr) (vs : List V) (y : V) (ds : List PyData) (d : PyData) (j : Nat), x = .ref a ∧ xs = [y] ∧ SqL X.K H a vs ∧ DpAll X.K H vs ds ∧ Dp X.K H y d ∧ PyData.plainAll ds = true ∧ d.plain = true ∧ d.depth ≤ 30 ∧ SeqAt.dataPlace ds d = some j ∧ Q (.int j) H) := by
  intro pins s σ H x xs v us Q I rx rs h
  obtain ⟨a, vs, y, ds, d, j, rfl, rfl, hs, hd, hy, pl, pd, dp, hp, q⟩ := h
  cases rx
  obtain ⟨u, rfl, ru⟩ := rs.one
  obtain ⟨its, rv, hl, hz⟩ := I.list hs
  obtain ⟨as, r1⟩ := Dp.readsAll I _ _ _ hd rv
  obtain ⟨bs, r2⟩ := Dp.reads I d y u hy ru
  have hlen := rv.length
  exact index_list_data hl.isList (by simpa using r1) r2 pl pd (by omega) hp (by simp only [List.size_toArray]; omega) ⟨.int j, H, I.tok _, ⟨_, rfl⟩, q⟩
theorem find_toP (x : D) (hx : x.pln = true) : ∀ ds : List D, D.plns ds = true → SeqAt.dataPlace (D.toPs ds) x.toP = ds.findIdx? fun y => D.eqb y x
  | [], _ => rfl
  | d :: ds, h => by
    have h : (d.pln && D.plns ds) = true := by simpa only [D.plns] using h
    rw [Bool.and_eq_true] at h
    have ih := find_toP x hx ds h.2
    unfold SeqAt.dataPlace at ih ⊢
    rw [D.toPs, List.findIdx?_cons, List.findIdx?_cons, toP_eqv d x h.1 hx, ih]
theorem mtok_index (hu : X.A.units + 64 < cLine) : MtOk X .index := by
  refine ⟨"list", "list.index", F.plainAttrs_list, F.slot_list_index, F.type_list_index, _, mt_index hu, fun Z H x d hx ht => ?_, fun d ds Kp hd Z' H' x xs Q hx' hxs q => ?_⟩
  · cases d <;> first | (obtain ⟨a, vs, rfl, hl, r⟩ := hx.lst; exact .inl (.inl ⟨rfl, _, SqL.of hl⟩)) | cases ht
  cases d <;> try exact hd.elim
  cases hxs with
  | nil => exact hd.elim
  | @cons v2 d2 _ _ h2 r2 =>
    cases r2 with
    | cons _ _ => exact hd.elim
    | nil =>
      obtain ⟨⟨p1, p2, p3⟩, j, hj, hk⟩ := hd
      obtain ⟨a, vs, rfl, hl, r⟩ := hx'.lst
      exact ⟨a, vs, v2, _, _, j, rfl, rfl, SqL.of hl, Reps.dp r p2, h2.dp p1, PyData.plainAll_of_canLay0 _ (toPs_lay _ p2), PyData.plain_of_canLay0 _ (toP_lay _ p1), by rw [toP_dep _ p1]; exact p3, by rw [find_toP _ p1 _ p2]; exact hj, q _ _ _ hk (.same (.int _))⟩
theorem count_reads {h : Heap} {d : PyData} (xs : List PyData) (us : List Value) (as : List Addr) (p : PyData.plainAll xs = true) (r : ReadsAll h us xs as) : us.countP (fun y => PyData.eqv (SeqAt.readOf h y) d) = xs.countP fun e => PyData.eqv e d := by
  rw [← SeqAt.readsAll_map_plain xs us as p r, List.countP_map]
  rfl
theorem mt_countD (hu : X.A.units + 64 < cLine) : MtR X "list.count" (fun x xs H Q => ∃ (a : Addr) (vs : List V) (y : V) (ds : List PyData) (d : PyData), x = .ref a ∧ xs = [y] ∧ SqL X.K H a vs ∧ DpAll X.K H vs ds ∧ Dp X.K H y d ∧ PyData.plainAll ds = true ∧ d.plain = true ∧ d.depth ≤ 30 ∧ Q (.int ((ds.countP fun e => PyData.eqv e d : Nat) : Int)) H) := by
  intro pins s σ H x xs v us Q I rx rs h
  obtain ⟨a, vs, y, ds, d, rfl, rfl, hs, hd, hy, pl, pd, dp, q⟩ := h
  cases rx
  obtain ⟨u, rfl, ru⟩ := rs.one
  obtain ⟨its, rv, ⟨⟨cls, dd, data, sl⟩, n, ho, hc, hdn, hd'⟩, hz⟩ := I.list hs
  obtain ⟨as, r1⟩ := Dp.readsAll I _ _ _ hd rv
  obtain ⟨bs, r2⟩ := Dp.reads I d y u hy ru
  simp only at hc hd'
  subst hc hd'
  refine call_meets F.slot_list_count ⟨_, ho, rfl⟩ F.entry_list_count (F.args_list_count_2 _ _) (SeqAt.list_countAt a its.toArray n dd sl u _) ⟨ho, SeqAt.items_plain (by simpa using r1) r2 pl pd (by omega), ?_⟩
  refine ⟨.int ((ds.countP fun e => PyData.eqv e d : Nat) : Int), H, I.tok _, ⟨s.toks, ?_⟩, q⟩
  have e : its.toArray.toList.countP (fun y => PyData.eqv (SeqAt.readOf s.heap y) d) = ds.countP fun e => PyData.eqv e d := count_reads ds its as pl r1
  show Value.int ((its.toArray.toList.countP (fun y => PyData.eqv (SeqAt.readOf s.heap y) d) : Nat) : Int) s.toks = _
  rw [e]
theorem count_toP (x : D) (hx : x.pln = true) : ∀ ds : List D, D.plns ds = true → (D.toPs ds).countP (fun e => PyData.eqv e x.toP) = ds.countP fun y => D.eqb y x
  | [], _ => rfl
  | d :: ds, h => by
    have h : (d.pln && D.plns ds) = true := by simpa only [D.plns] using h
    rw [Bool.and_eq_true] at h
    rw [D.toPs, List.countP_cons, List.countP_cons, count_toP x hx ds h.2, toP_eqv d x h.1 hx]
theorem mtok_count (hu : X.A.units + 64 < cLine) : MtOk X .count := by
  refine ⟨"list", "list.count", F.plainAttrs_list, F.slot_list_count, F.type_list_count, _, mt_countD hu, fun Z H x d hx ht => ?_, fun d ds Kp hd Z' H' x xs Q hx' hxs q => ?_⟩
  · cases d <;> first | (obtain ⟨a, vs, rfl, hl, r⟩ := hx.lst; exact .inl (.inl ⟨rfl, _, SqL.of hl⟩)) | cases ht
  cases d <;> try exact hd.elim
  cases hxs with
  | nil => exact hd.elim
  | @cons v2 d2 _ _ h2 r2 =>
    cases r2 with
    | cons _ _ => exact hd.elim
    | nil =>
      obtain ⟨⟨p1, p2, p3⟩, hk⟩ := hd
      obtain ⟨a, vs, rfl, hl, r⟩ := hx'.lst
      exact ⟨a, vs, v2, _, _, rfl, rfl, SqL.of hl, Reps.dp r p2, h2.dp p1, PyData.plainAll_of_canLay0 _ (toPs_lay _ p2), PyData.plain_of_canLay0 _ (toP_lay _ p1), by rw [toP_dep _ p1]; exact p3, q _ _ _ (by rw [count_toP _ p1 _ p2]; exact hk) (.same (.int _))⟩
theorem mtok_join : MtOk X .join := by
  refine ⟨"str", "str.join", F.plainAttrs_str, F.slot_str_join, F.type_str_join, _, mt_join, fun Z H x d hx ht => ?_, fun d ds Kp hd Z' H' x xs Q hx' hxs q => ?_⟩
  · cases d <;> first | (cases hx.str; exact .inl rfl) | cases ht
  cases d <;> try exact hd.elim
  cases hx'.str
  cases hxs with
  | nil => exact hd.elim
  | @cons v2 d2 _ _ h2 r2 =>
    cases r2 with
    | cons _ _ => cases d2 <;> exact hd.elim
    | nil =>
      cases d2 <;> try exact hd.elim
      · obtain ⟨ys, ey, hz, hk⟩ := hd
        obtain ⟨b, ws, rfl, hb, rb⟩ := h2.tup
        obtain ⟨e1, e2⟩ := strs_of rb ey
        subst e1
        exact ⟨_, b, ys, rfl, rfl, .inr hb.sq, hz, q _ _ _ hk (.same (.str _))⟩
      · obtain ⟨ys, ey, hz, hk⟩ := hd
        obtain ⟨b, ws, rfl, hb, rb⟩ := h2.lst
        obtain ⟨e1, e2⟩ := strs_of rb ey
        subst e1
        exact ⟨_, b, ys, rfl, rfl, .inl (SqL.of hb), hz, q _ _ _ hk (.same (.str _))⟩
theorem mtok_split : MtOk X .split := by
  refine ⟨"str", "str.split", F.plainAttrs_str, F.slot_str_split, F.type_str_split, _, mt_split, fun Z H x d hx ht => ?_, fun d ds Kp hd Z' H' x xs Q hx' hxs q => ?_⟩
  · cases d <;> first | (cases hx.str; exact .inl rfl) | cases ht
  cases d <;> try exact hd.elim
  cases hx'.str
  cases hxs with
  | nil => exact hd.elim
  | @cons v2 d2 _ _ h2 r2 =>
    cases r2 with
    | cons _ _ => cases d2 <;> exact hd.elim
    | nil =>
      cases d2 <;> try exact hd.elim
      cases h2.str
      obtain ⟨⟨h1, h3⟩, k⟩ := hd
      exact ⟨_, _, rfl, rfl, h1, h3, fun p hp => q _ _ _ k (.lst hp (reps_strs _))⟩
theorem mtok_startswith : MtOk X .startswith := by
  refine ⟨"str", "str.startswith", F.plainAttrs_str, F.slot_str_startswith, F.type_str_startswith, _, mt_startswith, fun Z H x d hx ht => ?_, fun d ds Kp hd Z' H' x xs Q hx' hxs q => ?_⟩
  · cases d <;> first | (cases hx.str; exact .inl rfl) | cases ht
  cases d <;> try exact hd.elim
  cases hx'.str
  cases hxs with
  | nil => exact hd.elim
  | @cons v2 d2 _ _ h2 r2 =>
    cases r2 with
    | cons _ _ => cases d2 <;> exact hd.elim
    | nil =>
      cases d2 <;> try exact hd.elim
      cases h2.str
      exact ⟨_, _, rfl, rfl, q _ _ _ hd (.same (.bl _))⟩
theorem mtok_endswith : MtOk X .endswith := by
  refine ⟨"str", "str.endswith", F.plainAttrs_str, F.slot_str_endswith, F.type_str_endswith, _, mt_endswith, fun Z H x d hx ht => ?_, fun d ds Kp hd Z' H' x xs Q hx' hxs q => ?_⟩
  · cases d <;> first | (cases hx.str; exact .inl rfl) | cases ht
  cases d <;> try exact hd.elim
  cases hx'.str
  cases hxs with
  | nil => exact hd.elim
  | @cons v2 d2 _ _ h2 r2 =>
    cases r2 with
    | cons _ _ => cases d2 <;> exact hd.elim
    | nil =>
      cases d2 <;> try exact hd.elim
      cases h2.str
      exact ⟨_, _, rfl, rfl, q _ _ _ hd (.same (.bl _))⟩
theorem mt_no {m : Mt} (h0 : ∀ d, tyM m d = false) (h : ∀ d ds Kp, ¬ dMt m d ds Kp) (sl : ∃ T id, PlainAttrs T ∧ Slot T m.nm id ∧ typeOf (.builtin id) = pure (.type "method_descriptor")) : MtOk X m := by
  obtain ⟨T, id, h1, h2, h3⟩ := sl
  exact ⟨T, id, h1, h2, h3, _, mt_none, fun Z H x d _ ht => by (rw [h0 d] at ht; cases ht), fun d ds Kp hd => (h d ds Kp hd).elim⟩
theorem s_meth {m : Mt} {o as : Ex} {x e : Expr} {es : List Expr} {apos cpos : Pos} (hK : X.K = G.K) (hm : MtOk X m) (ho : PE X x (tE Γ R G o)) (ha : PA X (e :: es) (tB Γ R G as))
    (hbase : attributeBase x m.nm X.env (eval x X.env) = eval x X.env)
    (hfew : ((backTo cpos (starEach (e :: es) X.env)).all (fun x => !x.1) && (backToKw cpos (keywordEach [] X.env)).all (fun x => x.1.isSome)
      && decide ((e :: es).length + ([] : List Keyword).length + (if ([] : List Keyword).isEmpty then 0 else 1) < 30)) = true)
    (hline : (apos.endLine == cpos.line) = true) (hs : starEach (e :: es) X.env = (false, eval e X.env) :: starEach es X.env) (hplain : (backTo cpos (starEach es X.env)).any (·.1) = false) :
    PE X (.Call (.Attribute x m.nm apos) (e :: es) [] cpos) (tE Γ R G (.meth m o as)) := by
  obtain ⟨T, id, h1, h2, h3, r, hr, ty, sem⟩ := hm
  rw [hK] at sem ty
  refine pe_imp (pe_bmG h1 h2 h3 hr ho ha hbase hfew hline hs hplain) fun σ H Q ⟨Z, env, Q0, hR, hw, hq⟩ => ?_
  refine ⟨Z, env, _, hR, hw, fun r1 e1 v1 Z1 H1 R1 S1 V1 _ w1 => ?_⟩
  obtain ⟨d0, t0, ht, w⟩ := rd_ok R1 V1 w1
  refine ⟨by rw [hK]; exact ty _ _ _ _ t0 ht, ?_⟩
  refine ⟨Z1, e1, _, R1, w, fun rs e2 vs Z2 H2 R2 S2 r2 w2 => ?_⟩
  obtain ⟨dx, tx, k1⟩ := rd_ok R2 (S2.repR R1 V1) w2
  obtain ⟨ds, rr, k2⟩ := rds_ok R2 r2 k1
  refine sem _ _ _ k2 Z2 H2 _ _ _ tx rr fun z v H' kz o => ?_
  obtain ⟨Z3, R3, S3, V3, N3⟩ := o.run R2
  have S := S1.trans S2
  exact hq z e2 v Z3 H' R3 (S.trans S3) V3 (S.repN N3) kz
/-- a changing method of a slot's own thing -/
def MmOk (X : Cx) (m : Mm) : Prop := ∃ T id, PlainAttrs T ∧ Slot T m.nm id ∧ typeOf (.builtin id) = pure (.type "method_descriptor") ∧ ∃ r : V → List V → Hp → VK → Prop, MtR X id r ∧
  (∀ (Z : Addr → Prop) (H : Hp) (a : Addr) (d : D), Top X.K Z H a d → tyMm m d = true → tyG X.K T (.ref a) H) ∧ ∀ (d : D) (ds : List D) (Kp : D → D → Prop), dMm m d ds Kp → ∀ (Z : Addr → Prop) (H : Hp) (a : Addr) (xs : List V) (Q : VK), Top X.K Z H a d → Reps X.K Z H xs ds →
    (∀ d' y v o, Kp d' y → (∀ Z' H', Rep X.K Z' H' v y) → (∀ H', (∀ b u, b ≠ a → H b = some u → H' b = some u) → H' a = some o → (∀ b, Z b → b ≠ a) → Top X.K Z H' a d') → Q v (upd H a o)) → r (.ref a) xs H Q
theorem mm_none {m : Mm} (h : ∀ d ds Kp, ¬ dMm m d ds Kp) (sl : ∃ id, Slot "list" m.nm id ∧ typeOf (.builtin id) = pure (.type "method_descriptor")) : MmOk X m := by
  obtain ⟨id, h2, h3⟩ := sl
  refine ⟨"list", id, F.plainAttrs_list, h2, h3, _, mt_none, fun Z H a d hx ht => ?_, fun d ds Kp hd => (h d ds Kp hd).elim⟩
  cases hx with
  | lst h r => exact .inl (.inl ⟨rfl, _, SqL.of h⟩)
  | dct h r => cases m <;> cases ht
  | dtt h r => cases m <;> cases ht
theorem mmok_append : MmOk X .append := by
  refine ⟨"list", "list.append", F.plainAttrs_list, F.slot_list_append, F.type_list_append, _, mt_append, fun Z H a d hx ht => ?_, fun d ds Kp hd Z H a xs Q hx hxs q => ?_⟩
  · cases hx with
    | lst h r => exact .inl (.inl ⟨rfl, _, SqL.of h⟩)
    | dct h r => cases ht
    | dtt h r => cases ht
  cases hx with
  | dct h r => exact hd.elim
  | dtt h r => exact hd.elim
  | lst h r =>
    cases hxs with
    | nil => exact hd.elim
    | cons h2 r2 =>
      cases r2 with
      | cons _ _ => exact hd.elim
      | nil =>
        exact ⟨a, _, _, rfl, rfl, h, by rw [r.length]; exact hd.1, q _ _ _ _ hd.2 (fun _ _ => .non) fun H' k e z => .lst e (by
          have zk : ∀ b u, Z b → H b = some u → H' b = some u := fun b u zb hb => k b u (z b zb) hb
          exact (r.mono (fun _ z => z) zk).append (.cons (h2.mono (fun _ z => z) zk) .nil))⟩
theorem mmok_remove : MmOk X .remove := by
  refine ⟨"list", "list.remove", F.plainAttrs_list, F.slot_list_remove, F.type_list_remove, _, mt_remove, fun Z H a d hx ht => ?_, fun d ds Kp hd Z H a xs Q hx hxs q => ?_⟩
  · cases hx with
    | lst h r => exact .inl (.inl ⟨rfl, _, SqL.of h⟩)
    | dct h r => cases ht
    | dtt h r => cases ht
  cases hx with
  | dct h r => exact hd.elim
  | dtt h r => exact hd.elim
  | lst h r =>
    cases hxs with
    | nil => exact hd.elim
    | @cons v2 d2 _ _ h2 r2 =>
      cases r2 with
      | cons _ _ => cases d2 <;> exact hd.elim
      | nil =>
        cases d2 <;> try exact hd.elim
        cases (RepT.of h2).int
        obtain ⟨ns, j, e, e1, e2, hk⟩ := hd
        obtain ⟨q1, q2⟩ := ints_of r e
        subst q1
        refine ⟨a, ns, _, j, rfl, rfl, h, e1, e2, q _ _ _ _ hk (fun _ _ => .non) fun H' k e z => .lst e (by
          have zk : ∀ b u, Z b → H b = some u → H' b = some u := fun b u zb hb => k b u (z b zb) hb
          rw [← erase_mapI]
          exact (r.mono (fun _ z => z) zk).eraseIdx j)⟩
theorem mmok_extend : MmOk X .extend := by
  refine ⟨"list", "list.extend", F.plainAttrs_list, F.slot_list_extend, F.type_list_extend, _, mt_extend, fun Z H a d hx ht => ?_, fun d ds Kp hd Z H a xs Q hx hxs q => ?_⟩
  · cases hx with
    | lst h r => exact .inl (.inl ⟨rfl, _, SqL.of h⟩)
    | dct h r => cases ht
    | dtt h r => cases ht
  cases hx with
  | dct h r => exact hd.elim
  | dtt h r => exact hd.elim
  | lst h r =>
    cases hxs with
    | nil => exact hd.elim
    | @cons v2 d2 _ _ h2 r2 =>
      cases r2 with
      | cons _ _ => cases d2 <;> exact hd.elim
      | nil =>
        cases d2 <;> try exact hd.elim
        obtain ⟨b, zs, rfl, hb, rb⟩ := (RepT.of h2).lst
        exact ⟨a, b, _, _, rfl, rfl, h, hb, by rw [r.length, rb.length]; exact hd.1, q _ _ _ _ hd.2 (fun _ _ => .non) fun H' k e z => .lst e (by
          have zk : ∀ b u, Z b → H b = some u → H' b = some u := fun b u zb hb => k b u (z b zb) hb
          cases h2 with
          | lst h5 r5 =>
            have e4 := h5.2.symm.trans hb
            cases e4
            exact (r.mono (fun _ z => z) zk).append (r5.mono (fun _ z => z) zk))⟩
theorem mmok_insert : MmOk X .insert := by
  refine ⟨"list", "list.insert", F.plainAttrs_list, F.slot_list_insert, F.type_list_insert, _, mt_insert, fun Z H a d hx ht => ?_, fun d ds Kp hd Z H a xs Q hx hxs q => ?_⟩
  · cases hx with
    | lst h r => exact .inl (.inl ⟨rfl, _, SqL.of h⟩)
    | dct h r => cases ht
    | dtt h r => cases ht
  cases hx with
  | dct h r => exact hd.elim
  | dtt h r => exact hd.elim
  | lst h r =>
    cases hxs with
    | nil => exact hd.elim
    | @cons v2 d2 _ _ h2 r2 =>
      cases r2 with
      | nil => cases d2 <;> exact hd.elim
      | @cons v3 d3 _ _ h3 r3 =>
        cases r3 with
        | cons _ _ => cases d2 <;> exact hd.elim
        | nil =>
          cases d2 <;> try exact hd.elim
          cases (RepT.of h2).int
          obtain ⟨⟨g1, g2, g3⟩, hk⟩ := hd
          exact ⟨a, _, _, _, rfl, rfl, h, by rw [r.length]; exact g1, g2, g3, q _ _ _ _ hk (fun _ _ => .non) fun H' k e z => .lst e (by
            have zk : ∀ b u, Z b → H b = some u → H' b = some u := fun b u zb hb => k b u (z b zb) hb
            have rm := r.mono (fun _ z => z) zk
            exact ((rm.take _).append (.cons (h3.mono (fun _ z => z) zk) .nil)).append (rm.drop _))⟩
theorem s_mut {m : Mm} {i : Nat} {as : Ex} {x : Str} {e : Expr} {es : List Expr} {apos cpos npos : Pos} (hK : X.K = G.K) (hm : MmOk X m) (hN : X.N[i]? = some x) (hv : Vis X.env.scope x) (hd : (x == ("__debug__" : Str)) = false) (hcd : (x == ("__classdict__" : Str)) = false) (ha : PA X (e :: es) (tA Γ R G as))
    (hbase : attributeBase (.Name x npos) m.nm X.env (eval (.Name x npos) X.env) = eval (.Name x npos) X.env)
    (hfew : ((backTo cpos (starEach (e :: es) X.env)).all (fun x => !x.1) && (backToKw cpos (keywordEach [] X.env)).all (fun x => x.1.isSome)
      && decide ((e :: es).length + ([] : List Keyword).length + (if ([] : List Keyword).isEmpty then 0 else 1) < 30)) = true)
    (hline : (apos.endLine == cpos.line) = true) (hs : starEach (e :: es) X.env = (false, eval e X.env) :: starEach es X.env) (hplain : (backTo cpos (starEach es X.env)).any (·.1) = false) :
    PE X (.Call (.Attribute (.Name x npos) m.nm apos) (e :: es) [] cpos) (tE Γ R G (.mut m i as)) := by
  obtain ⟨T, id, h1, h2, h3, r, hr, ty, sem⟩ := hm
  rw [hK] at sem ty
  refine pe_imp (pe_bmG h1 h2 h3 hr (pe_var hN hv hd hcd) ha hbase hfew hline hs hplain) fun σ H Q ⟨Z, env, Q0, hR, hw, hq⟩ => ?_
  obtain ⟨hw1, hw2⟩ := (show _ ∧ _ from hw)
  have own1 : ∃ d a, (env[i]? = some (Sl.ow d) ∨ env[i]? = some (Sl.io d)) ∧ σ[i]? = some (some (V.ref a)) ∧ Top G.K Z H a d ∧ tyMm m d = true := by
    split at hw1
    · next d h => obtain ⟨a, e, _, _, t⟩ := hR.ow i d h; exact ⟨d, a, .inl h, e, t, hw1⟩
    · next d h => obtain ⟨e, _, _, t⟩ := hR.io i d h; exact ⟨d, _, .inr h, e, t, hw1⟩
    · exact hw1.elim
  obtain ⟨d0, a, _, e1, t1, ht⟩ := own1
  refine ⟨_, e1, by rw [hK]; exact ty _ _ _ _ t1 ht, Z, env, _, hR, hw2, fun ds e2 vs Z1 H1 R1 S1 r1 w1 => ?_⟩
  have fin : ∀ {s : Sl} {s' : D → Sl} {d : D}, e2[i]? = some s → Top G.K Z1 H1 a d → (∀ d', (s = .ow d ∧ s' d' = .ow d') ∨ (s = .io d ∧ s' d' = .io d')) → dMm m d ds (fun d' x => Q0 (.im x) (e2.set i (s' d'))) → r (.ref a) vs H1 Q := fun {s s' d} h2 t hs hd => by
    have oi : Ow σ e2 a := ⟨i, ⟨d, by rcases hs d with ⟨q, _⟩ | ⟨q, _⟩ <;> rw [h2, q] <;> simp⟩, e1⟩
    refine sem d ds _ hd Z1 H1 a vs Q t r1 fun d' y v o k ry tp => ?_
    obtain ⟨R2, S2⟩ := R1.write (a := a) (o := o) h2 (hs d') e1 fun H' hk ho => tp H' hk ho fun b zb q => R1.nO zb (by rw [q]; exact oi)
    exact hq (.im y) _ v Z1 _ R2 (S1.trans S2) (ry _ _) trivial k
  have w1 : (match e2[i]? with
    | some (Sl.ow d) => dMm m d ds fun d' x => Q0 (.im x) (e2.set i (.ow d'))
    | some (.io d) => dMm m d ds fun d' x => Q0 (.im x) (e2.set i (.io d'))
    | _ => False) := w1
  split at w1
  · next d h =>
    obtain ⟨b, e, _, _, t⟩ := R1.ow i d h
    rw [e1] at e; cases e
    exact fin (s' := .ow) h t (fun d' => .inl ⟨rfl, rfl⟩) w1
  · next d h =>
    obtain ⟨e, _, _, t⟩ := R1.io i d h
    rw [e1] at e; cases e
    exact fin (s' := .io) h t (fun d' => .inr ⟨rfl, rfl⟩) w1
  · exact w1.elim
end
end TG
end
section
namespace TG
open PySem PySem.Spec PyProof.Rows L2

section
variable {Γ : Ga} {R : XP} {G : Gh} {X : Cx} {σ : L2.St} {Z Z' Zs : Addr → Prop} {H H' Hs : Hp} {env env2 envs : Env} {N bl : List Str} {sc : Scope}
theorem FinOk.there {K : PySem.W.Frag} : ∀ {as : List Addr} {ds : List D}, FinOk K Z H as ds → ∀ a ∈ as, ∃ o, H a = some o
  | _, _, .nil, a, h => by cases h
  | _, _, .cons t r, a, h => by
    rcases List.mem_cons.mp h with rfl | h
    · exact t.there
    · exact FinOk.there r a h
/-- behind a call -/
theorem Rel.called {as : List Addr} (Rl : Rel G σ Z H env) (A : Aft Z H as Z' H') (S : Stp σ Zs Hs envs Z H env)
    (has : ∀ a ∈ as, Ow σ env a ∨ (¬ Z a ∧ G.H0 a = none ∧ Hs a = none ∧ ¬ Ow σ env a ∧ ∃ o, H a = some o ∧ Mut (some o))) (thr : ∀ a ∈ as, ∃ o, H' a = some o)
    (hl : env2.length = env.length)
    (h2 : ∀ i, (env2[i]? = env[i]? ∧ (own env i → ∀ a ∈ as, σ[i]? ≠ some (some (V.ref a)))) ∨ ∃ a d d', a ∈ as ∧ σ[i]? = some (some (V.ref a)) ∧ Top G.K Z' H' a d' ∧ ((env[i]? = some (Sl.ow d) ∧ env2[i]? = some (Sl.ow d')) ∨ (env[i]? = some (Sl.io d) ∧ env2[i]? = some (Sl.io d')))) :
    Rel G σ Z' H' env2 ∧ Stp σ Zs Hs envs Z' H' env2 := by
  have muts : ∀ a ∈ as, ∃ o, H a = some o ∧ Mut (some o) := fun a h => (has a h).elim (fun o => let ⟨u, e, m, _⟩ := Rl.ownT o; ⟨u, e, m⟩) fun q => q.2.2.2.2
  have nz : ∀ a ∈ as, ¬ Z a := fun a h => (has a h).elim (fun o z => Rl.nO z o) fun q => q.1
  have nz' : ∀ a o, H a = some o → ¬ Z a → ¬ Z' a := fun a o e n z => (A.zn a z).elim n fun q => by rw [e] at q; cases q
  have zk : ∀ b u, Z b → H b = some u → H' b = some u := fun b u z e => A.hk b u e fun q => nz b q z
  have sub : ∀ i, own env2 i → own env i := fun i h => by
    rcases h2 i with ⟨e, _⟩ | ⟨a, d, d', _, _, _, q | q⟩
    · obtain ⟨d, h⟩ := h; rw [e] at h; exact ⟨d, h⟩
    · exact ⟨d, .inl q.1⟩
    · exact ⟨d, .inr q.1⟩
  have subk : ∀ i, ownk env2 i → ownk env i := fun i h => by
    rcases h with h | ⟨c, h⟩
    · exact .inl (sub i h)
    · rcases h2 i with ⟨e, _⟩ | ⟨a, d, d', _, _, _, q | q⟩
      · rw [e] at h; exact .inr ⟨c, h⟩
      · rw [q.2] at h; cases h
      · rw [q.2] at h; cases h
  refine ⟨⟨hl.trans Rl.len, fun i d h => ?_, fun i d h => ?_, fun i d h => ?_, fun i d h => ?_, fun i j a hi hj => Rl.inj i j a (subk i hi) (subk j hj), fun b z => A.zz b (Rl.z0 b z), fun b z => ?_, A.zt, fun b o e n => ?_, fun b o e => ?_, (Rl.xc.mono A.zz zk).part fun j n f e => ?_⟩, ⟨⟨fun b z => A.zz b (S.grow.zz b z), fun b z => ?_, fun b o e n => ?_, fun b o e => ?_⟩, fun i h => S.sub i (sub i h)⟩⟩
  · rcases h2 i with ⟨e, _⟩ | ⟨a, d, d', _, _, _, q | q⟩
    · rw [e] at h
      obtain ⟨v, e, r⟩ := Rl.im i d h
      exact ⟨v, e, r.mono A.zz zk⟩
    · rw [q.2] at h; cases h
    · rw [q.2] at h; cases h
  · rcases h2 i with ⟨e, ne⟩ | ⟨a, c, d', ha, es, t, q | q⟩
    · rw [e] at h
      obtain ⟨a, e, nza, h0, t⟩ := Rl.ow i d h
      obtain ⟨o, ho⟩ := t.there
      have na : a ∉ as := fun ha => ne ⟨d, .inl h⟩ a ha e
      exact ⟨a, e, nz' a o ho nza, h0, t.mono A.zz zk fun o e => A.hk a o e na⟩
    · rw [q.2] at h; cases h
      obtain ⟨b, e, nza, h0, t2⟩ := Rl.ow i c q.1
      rw [es] at e; cases e
      obtain ⟨o, ho⟩ := t2.there
      exact ⟨a, es, nz' a o ho nza, h0, t⟩
    · rw [q.2] at h; cases h
  · rcases h2 i with ⟨e, ne⟩ | ⟨a, c, d', ha, es, t, q | q⟩
    · rw [e] at h
      obtain ⟨e, nza, h0, t⟩ := Rl.io i d h
      obtain ⟨o, ho⟩ := t.there
      have na : G.ad i ∉ as := fun ha => ne ⟨d, .inr h⟩ _ ha e
      exact ⟨e, nz' _ o ho nza, h0, t.mono A.zz zk fun o e => A.hk _ o e na⟩
    · rw [q.2] at h; cases h
    · rw [q.2] at h; cases h
      obtain ⟨e, nza, h0, t2⟩ := Rl.io i c q.1
      rw [es] at e; cases e
      obtain ⟨o, ho⟩ := t2.there
      exact ⟨es, nz' _ o ho nza, h0, t⟩
  · rcases h2 i with ⟨e, ne⟩ | ⟨a, c, d', ha, es, t, q | q⟩
    · rw [e] at h
      obtain ⟨a, e, nza, l⟩ := Rl.lk i d h
      obtain ⟨o, ho⟩ := l.there
      have na : a ∉ as := fun ha => by
        obtain ⟨o, h1, m⟩ := muts a ha
        cases l with
        | dct hh r => rw [hh] at h1; cases h1; exact m
      exact ⟨a, e, nz' a o ho nza, l.mono A.zz zk fun o e => A.hk a o e na⟩
    · rw [q.2] at h; cases h
    · rw [q.2] at h; cases h
  · rcases A.zn b z with z | z
    · exact Rl.z1 b z
    · exact .inr (Rl.h0n z)
  · have q := Rl.keep b o e n
    refine A.hk b o q fun hb => ?_
    rcases has b hb with ⟨i, ⟨d, h | h⟩, es⟩ | ⟨_, h0, _⟩
    · obtain ⟨a, e2, _, h0, _⟩ := Rl.ow i d h
      rw [es] at e2; cases e2
      rw [h0] at e; cases e
    · obtain ⟨e2, _, hs, _⟩ := Rl.io i d h
      rw [es] at e2; cases e2
      exact n hs
    · rw [h0] at e; cases e
  · obtain ⟨u, h⟩ := Rl.tr b o e
    by_cases hb : b ∈ as
    · exact thr b hb
    · exact ⟨u, A.hk b u h hb⟩
  · rcases h2 j with ⟨q, _⟩ | ⟨_, _, _, _, _, _, q | q⟩
    · rw [q] at e; exact ⟨e, rfl⟩
    · rw [q.2] at e; cases e
    · rw [q.2] at e; cases e
  · rcases A.zn b z with z | z
    · exact S.grow.zn b z
    · exact .inr (.inr (S.nn z))
  · refine A.hk b o (S.grow.hk b o e n) fun hb => ?_
    rcases has b hb with ⟨i, h, es⟩ | ⟨_, _, h, _⟩
    · exact n ⟨i, S.sub i h, es⟩
    · rw [h] at e; cases e
  · obtain ⟨u, h⟩ := S.grow.tr b o e
    by_cases hb : b ∈ as
    · exact thr b hb
    · exact ⟨u, A.hk b u h hb⟩
theorem putS_len (e : Env) (i : Nat) (d : D) : (putS e i d).length = e.length := by
  unfold putS
  split <;> first | exact List.length_set | rfl
theorem putB_len : ∀ (ms : List Bool) (rs : List Rv) (ds : List D) (e : Env), (putB ms rs ds e).length = e.length
  | true :: ms, .bo i :: rs, d :: ds, e => by rw [putB, putB_len ms rs ds, putS_len]
  | true :: ms, .im _ :: rs, _ :: ds, e => by rw [putB, putB_len ms rs ds] <;> (intros; simp_all)
  | true :: ms, .fr _ :: rs, _ :: ds, e => by rw [putB, putB_len ms rs ds] <;> (intros; simp_all)
  | false :: ms, _ :: rs, ds, e => by rw [putB, putB_len ms rs ds]
  | [], _, _, e => by rw [putB] <;> (intros; simp_all)
  | _ :: _, [], _, e => by rw [putB] <;> (intros; simp_all)
  | true :: ms, r :: rs, [], e => by rw [putB] <;> (intros; simp_all)
theorem putB_ne : ∀ (ms : List Bool) (rs : List Rv) (ds : List D) (e : Env) (j : Nat), j ∉ bos rs → (putB ms rs ds e)[j]? = e[j]?
  | true :: ms, .bo i :: rs, d :: ds, e, j, h => by
    rw [putB, putB_ne ms rs ds _ j fun q => h (by simp [bos, q])]
    unfold putS
    have n : i ≠ j := fun q => h (by simp [bos, q])
    split <;> first | exact List.getElem?_set_ne n | rfl
  | true :: ms, .im _ :: rs, _ :: ds, e, j, h => by rw [putB, putB_ne ms rs ds e j fun q => h (by simpa [bos] using q)] <;> (intros; simp_all)
  | true :: ms, .fr _ :: rs, _ :: ds, e, j, h => by rw [putB, putB_ne ms rs ds e j fun q => h (by simpa [bos] using q)] <;> (intros; simp_all)
  | false :: ms, r :: rs, ds, e, j, h => by
    rw [putB, putB_ne ms rs ds e j fun q => h (by cases r <;> simp [bos, q])]
  | [], _, _, e, j, _ => by rw [putB] <;> (intros; simp_all)
  | _ :: _, [], _, e, j, _ => by rw [putB] <;> (intros; simp_all)
  | true :: ms, r :: rs, [], e, j, _ => by rw [putB] <;> (intros; simp_all)
/-- the arguments -/
def ArgsC (G : Gh) (Hs : Hp) (σ : L2.St) (Z : Addr → Prop) (H : Hp) (env : Env) (ms : List Bool) (rs : List Rv) (vs : List V) (K : List D → Prop) : Prop :=
    ∃ ds as, ArgsOk G.K Z H ms vs ds as ∧ K ds ∧ (∀ a ∈ as, (∃ i, i ∈ bos rs ∧ own env i ∧ σ[i]? = some (some (V.ref a))) ∨ (¬ noFr rs = true ∧ ¬ Z a ∧ G.H0 a = none ∧ Hs a = none ∧ ¬ Ow σ env a ∧ ∃ o, H a = some o ∧ Mut (some o))) ∧
      ∀ (Z' : Addr → Prop) (H' : Hp) (fins : List D), FinOk G.K Z' H' as fins → ∀ e : Env, (∀ i ∈ bos rs, e[i]? = env[i]?) → ∀ i ∈ bos rs, ∃ a d d', a ∈ as ∧ σ[i]? = some (some (V.ref a)) ∧ Top G.K Z' H' a d' ∧ ((env[i]? = some (Sl.ow d) ∧ (putB ms rs fins e)[i]? = some (Sl.ow d')) ∨ (env[i]? = some (Sl.io d) ∧ (putB ms rs fins e)[i]? = some (Sl.io d')))
theorem args_ok (Rl : Rel G σ Z H env) : ∀ {rs : List Rv} {vs : List V} {ms : List Bool} {K : List D → Prop}, RepRs G σ Z H env rs vs → RepNs Hs rs vs → (bos rs).Nodup → rdC ms rs env K →
    ArgsC G Hs σ Z H env ms rs vs K
  | _, _, [], _, .nil, _, _, w => ⟨[], [], .nil, w, fun a h => (by cases h), fun _ _ _ _ _ _ i h => (by cases h)⟩
  | _, _, true :: _, _, .nil, _, _, w => False.elim w
  | _, _, false :: _, _, .nil, _, _, w => False.elim w
  | _, _, [], _, .cons (r := r) _ _, _, _, w => by cases r <;> exact False.elim w
  | _, _, false :: ms, _, .cons (r := r) h t, .cons _ nn, nd, w => by
    cases r with
    | fr d => exact False.elim w
    | bo i => exact False.elim w
    | im d =>
      obtain ⟨ds, as, q1, q2, q3, q4⟩ := args_ok Rl t nn nd w
      exact ⟨d :: ds, as, .im h q1, q2, fun a ha => (q3 a ha).imp id fun q => q, fun Z' H' fins f e he i hi => q4 Z' H' fins f e he i hi⟩
  | _, _, true :: ms, K, .cons (r := r) (rs := rs) (v := v) h t, .cons n nn, nd, w => by
    cases r with
    | im d => exact False.elim w
    | fr d =>
      obtain ⟨nf, w⟩ := (show noFr rs = true ∧ _ from w)
      obtain ⟨ds, as, q1, q2, q3, q4⟩ := args_ok Rl t nn nd w
      obtain ⟨a, rfl, nz, no, h0, tp⟩ := h
      have na : a ∉ as := fun ha => by
        rcases q3 a ha with ⟨i, _, oi, es⟩ | ⟨q, _⟩
        · exact no ⟨i, oi, es⟩
        · exact q nf
      refine ⟨d :: ds, a :: as, .io nz na tp q1, q2, fun b hb => ?_, fun Z' H' fins f e he i hi => ?_⟩
      · rcases List.mem_cons.mp hb with rfl | hb
        · exact .inr ⟨by simp [noFr], nz, h0, n b rfl, no, tp.mut⟩
        · rcases q3 b hb with q | ⟨q, _⟩
          · exact .inl q
          · exact (q nf).elim
      · cases f with
        | cons ft fr =>
          obtain ⟨a', c, d', ha, es, tt, q⟩ := q4 Z' H' _ fr e he i hi
          exact ⟨a', c, d', List.mem_cons_of_mem _ ha, es, tt, q⟩
    | bo j =>
      have hj : σ[j]? = some (some v) := h
      have nd' : j ∉ bos rs ∧ (bos rs).Nodup := by simpa [bos] using nd
      have key : ∀ (d : D) (a : Addr) (s : Sl), σ[j]? = some (some (V.ref a)) → env[j]? = some s → ((s = .ow d) ∨ s = .io d) → ¬ Z a → Top G.K Z H a d → rdC ms rs env (fun ds => K (d :: ds)) → ArgsC G Hs σ Z H env (true :: ms) (.bo j :: rs) (v :: _) K := fun d a s es ej hs nz tp w => by
        obtain ⟨ds, as, q1, q2, q3, q4⟩ := args_ok Rl t nn nd'.2 w
        have oj : own env j := ⟨d, by rcases hs with rfl | rfl; exact .inl ej; exact .inr ej⟩
        have na : a ∉ as := fun ha => by
          rcases q3 a ha with ⟨i, hi, oi, es2⟩ | ⟨_, _, _, _, no, _⟩
          · have := Rl.inj i j a (.inl oi) (.inl oj) es2 es
            subst this; exact nd'.1 hi
          · exact no ⟨j, oj, es⟩
        rw [es] at hj; cases hj
        exact ⟨d :: ds, a :: as, .io nz na tp q1, q2, fun b hb => by
          rcases List.mem_cons.mp hb with rfl | hb
          · exact .inl ⟨j, by simp [bos], oj, es⟩
          · rcases q3 b hb with ⟨i, hi, q⟩ | ⟨q, q'⟩
            · exact .inl ⟨i, by simp [bos, hi], q⟩
            · exact .inr ⟨fun z => q (by simpa [noFr] using z), q'⟩, fun Z' H' fins f e he i hi => by
          cases f with
          | @cons _ d2 _ ds2 ft fr =>
            have he' : ∀ i ∈ bos rs, (putS e j d2)[i]? = env[i]? := fun i hi => by
              rw [← he i (by simp [bos, hi])]
              have n : j ≠ i := fun q => nd'.1 (by rw [q]; exact hi)
              unfold putS
              split <;> first | exact List.getElem?_set_ne n | rfl
            have hi' : i = j ∨ i ∈ bos rs := by simpa [bos] using hi
            rcases hi' with rfl | hi'
            · refine ⟨a, d, d2, List.mem_cons_self, es, ft, ?_⟩
              have ee : (putB (true :: ms) (.bo i :: rs) (d2 :: ds2) e)[i]? = (putS e i d2)[i]? := by rw [putB, putB_ne _ _ _ _ _ nd'.1]
              have e0 := he i (by simp [bos])
              rw [ej] at e0
              have il : i < e.length := by
                by_cases l : i < e.length
                · exact l
                · rw [List.getElem?_eq_none (by omega)] at e0; cases e0
              rw [ee]
              unfold putS
              rcases hs with rfl | rfl
              · rw [e0]; exact .inl ⟨ej, List.getElem?_set_self il⟩
              · rw [e0]; exact .inr ⟨ej, List.getElem?_set_self il⟩
            · obtain ⟨a', c, d', ha, es', tt, q⟩ := q4 Z' H' ds2 fr (putS e j d2) he' i hi'
              exact ⟨a', c, d', List.mem_cons_of_mem _ ha, es', tt, q⟩⟩
      have w : (match env[j]? with
        | some (Sl.ow d) => rdC ms rs env fun ds => K (d :: ds)
        | some (.io d) => rdC ms rs env fun ds => K (d :: ds)
        | _ => False) := w
      split at w
      · next d hh =>
        obtain ⟨a, es, nz, _, tp⟩ := Rl.ow j d hh
        have e2 := hj; rw [es] at e2; cases e2
        exact key d a _ es hh (.inl rfl) nz tp w
      · next d hh =>
        obtain ⟨es, nz, _, tp⟩ := Rl.io j d hh
        have e2 := hj; rw [es] at e2; cases e2
        exact key d _ _ es hh (.inr rfl) nz tp w
      · exact w.elim
theorem ArgsOk.zt {K : PySem.W.Frag} : ∀ {ms : List Bool} {vs : List V} {ds : List D} {as : List Addr}, ArgsOk K Z H ms vs ds as → ds.length = vs.length
  | _, _, _, _, .nil => rfl
  | _, _, _, _, .im h r => by rw [List.length_cons, List.length_cons, r.zt]
  | _, _, _, _, .io _ _ _ r => by rw [List.length_cons, List.length_cons, r.zt]
/-- what a call comes to -/
theorem call_sem {fi : FI} {rs : List Rv} {vs : List V} {Q0 : Rv → Env → Prop} {Q : VK} (hK : X.K = G.K) (Rl : Rel G σ Z H env) (S : Stp σ Zs Hs envs Z H env) (hr : RepRs G σ Z H env rs vs) (hn : RepNs Hs rs vs) (nd : (bos rs).Nodup)
    (w : rdC fi.io rs env fun ds => fi.sp ds (fun r fins => Q0 r (putB fi.io rs fins env)) (fun x fins => R x (putB fi.io rs fins env)))
    (hq : ∀ r env' v Z' H', Rel G σ Z' H' env' → Stp σ Zs Hs envs Z' H' env' → RepR G σ Z' H' env' r v → RepN Hs r v → Q0 r env' → Q v H') : lift X.mg X.K fi vs H Q (WR X.mg G R σ) := by
  obtain ⟨ds, as, a1, a2, a3, a4⟩ := args_ok Rl hr hn nd w
  have mk : ∀ (fins : List D) (H' : Hp) (Z' : Addr → Prop), Aft Z H as Z' H' → FinOk G.K Z' H' as fins → Rel G σ Z' H' (putB fi.io rs fins env) ∧ Stp σ Zs Hs envs Z' H' (putB fi.io rs fins env) := fun fins H' Z' A F => by
    refine Rl.called A S (fun a ha => (a3 a ha).elim (fun ⟨i, _, oi, es⟩ => .inl ⟨i, oi, es⟩) fun q => .inr q.2) F.there (putB_len ..) fun i => ?_
    by_cases hi : i ∈ bos rs
    · obtain ⟨a, d, d', q⟩ := a4 Z' H' fins F env (fun _ _ => rfl) i hi
      exact .inr ⟨a, d, d', q⟩
    · refine .inl ⟨putB_ne _ _ _ _ _ hi, fun oi a ha es => ?_⟩
      rcases a3 a ha with ⟨j, hj, oj, es2⟩ | ⟨_, _, _, _, no, _⟩
      · have := Rl.inj i j a (.inl oi) (.inl oj) es es2
        subst this; exact hi hj
      · exact no ⟨i, oi, es⟩
  rw [hK]
  refine ⟨Z, ds, as, _, _, a1, Rl.zt, a2, fun r fins v H' Z' A F V1 q => ?_, fun x fins cls dd H' Z' A F V1 q => ?_⟩
  · obtain ⟨R2, S2⟩ := mk fins H' Z' A F
    cases r with
    | bo i => exact V1.elim
    | im d => exact hq (.im d) _ v Z' H' R2 S2 V1 trivial q
    | fr d =>
      obtain ⟨a, rfl, nz, hn, tp⟩ := V1
      refine hq (.fr d) _ _ Z' H' R2 S2 ⟨a, rfl, nz, fun ⟨i, oi, es⟩ => ?_, Rl.h0n hn, tp⟩ (fun b e => by cases e; exact S.nn hn) q
      obtain ⟨o, ho, _⟩ := R2.ownT ⟨i, oi, es⟩
      rcases Classical.em (i ∈ bos rs) with hi | hi
      · obtain ⟨b, d, d', hb, es2, _, q⟩ := a4 Z' H' fins F env (fun _ _ => rfl) i hi
        rw [es] at es2; cases es2
        rcases a3 _ hb with ⟨j, _, oj, es3⟩ | ⟨_, _, _, _, _, o, ho, _⟩
        · obtain ⟨u, hu, _⟩ := Rl.ownT ⟨j, oj, es3⟩
          rw [hn] at hu; cases hu
        · rw [hn] at ho; cases ho
      · obtain ⟨d, oi⟩ := oi
        rw [putB_ne _ _ _ _ _ hi] at oi
        obtain ⟨u, hu, _⟩ := Rl.ownT ⟨i, ⟨d, oi⟩, es⟩
        rw [hn] at hu; cases hu
  · obtain ⟨R2, S2⟩ := mk fins H' Z' A F
    exact ⟨Z', _, x, R2, V1, q⟩
theorem s_call {f : Str} {as : Ex} {e : Expr} {es : List Expr} {p pos : Pos} (hK : X.K = G.K) (hf : ∀ f fi, Γ.fn f = some fi → ∃ k, RoomG k X.A ∧ FnIs X.prog X.w X.K X.mg X.base k f fi) (px : ∀ σ, PassesAt (L2N.CX X.prog X.w) X σ (WR X.mg G R σ)) (hg : Gl X f) (hd : (f == ("__debug__" : Str)) = false)
    (ha : ∀ ms, PA X (e :: es) (tCl Γ R G ms as)) (he : starEach (e :: es) X.env = (false, eval e X.env) :: starEach es X.env) (hpl : (backTo pos (starEach es X.env)).any (·.1) = false) : PE X (.Call (.Name f p) (e :: es) [] pos) (tE Γ R G (.call f as)) := by
  by_cases h : ∃ fi, Γ.fn f = some fi
  · obtain ⟨fi, h⟩ := h
    obtain ⟨k, hr, ⟨adr, fd, ps, F, hm, hk, hb⟩⟩ := hf f fi h
    refine pe_imp (F.pe hr hg hm hk hb px (ha fi.io) hd he hpl) fun σ H Q ⟨Z, env, Q0, hR, hw, hq⟩ => ?_
    obtain ⟨fi', e, hw⟩ := (show ∃ fi, Γ.fn f = some fi ∧ _ from hw)
    rw [h] at e; cases e
    exact ⟨Z, env, _, hR, hw, fun rs e1 vs Z1 H1 R1 S1 r1 n1 w1 => call_sem hK R1 S1 r1 n1 w1.1 w1.2 hq⟩
  · refine pe_no fun σ H Q ⟨Z, env, Q0, hR, hw, hq⟩ => ?_
    obtain ⟨fi', e, hw⟩ := (show ∃ fi, Γ.fn f = some fi ∧ _ from hw)
    exact h ⟨fi', e⟩
theorem s_call0 {f : Str} {p pos : Pos} (hK : X.K = G.K) (hf : ∀ f fi, Γ.fn f = some fi → ∃ k, RoomG k X.A ∧ FnIs X.prog X.w X.K X.mg X.base k f fi) (px : ∀ σ, PassesAt (L2N.CX X.prog X.w) X σ (WR X.mg G R σ)) (hg : Gl X f) (hd : (f == ("__debug__" : Str)) = false) :
    PE X (.Call (.Name f p) [] [] pos) (tE Γ R G (.call f .nil)) := by
  by_cases h : ∃ fi, Γ.fn f = some fi
  · obtain ⟨fi, h⟩ := h
    obtain ⟨k, hr, ⟨adr, fd, ps, F, hm, hk, hb⟩⟩ := hf f fi h
    refine ⟨fun pins s σ H Q I ⟨Z, env, Q0, hR, hw, hq⟩ => ?_⟩
    obtain ⟨fi', e, hw⟩ := (show ∃ fi, Γ.fn f = some fi ∧ _ from hw)
    rw [h] at e; cases e
    refine wpAny_Call_Name_kw (ld_glob I hg hm ?_ hd)
    refine PySem.W.callWith_K0 I.kIn hk (F.run (ys := []) hr hb (px σ) I .nil ?_)
    have hw : (match fi.io with
        | [] => (fun (rs : List Rv) e1 => (bos rs).Nodup ∧ rdC fi.io rs e1 fun ds => fi.sp ds (fun r fins => Q0 r (putB fi.io rs fins e1)) (fun x fins => R x (putB fi.io rs fins e1))) [] env
        | _ => False) := hw
    split at hw
    · exact call_sem hK hR .refl .nil .nil hw.1 hw.2 hq
    · exact hw.elim
  · refine pe_no fun σ H Q ⟨Z, env, Q0, hR, hw, hq⟩ => ?_
    obtain ⟨fi', e, hw⟩ := (show ∃ fi, Γ.fn f = some fi ∧ _ from hw)
    exact h ⟨fi', e⟩
end
end TG
end
section
namespace TG
open PySem PySem.Spec PyProof.Rows L2

section
variable {Γ : Ga} {R : XP} {G : Gh} {X : Cx} {σ σ' : L2.St} {Z Z' Zs : Addr → Prop} {H H' Hs : Hp} {env env' env2 envs : Env} {N bl : List Str} {sc : Scope} {v : V} {a : Addr}
/-- a thing's new parts, wherever its heap goes -/
def NewTop (K : PySem.W.Frag) (Z : Addr → Prop) (H : Hp) (a : Addr) (o : HO) (d : D) : Prop := ∀ H', (∀ b u, b ≠ a → H b = some u → H' b = some u) → H' a = some o → (∀ b, Z b → b ≠ a) → Top K Z H' a d
theorem dset_ok (hu : X.A.units + 64 < cLine) : ∃ t : TSet, PSet X t ∧
    (∀ (Z : Addr → Prop) (H : Hp) (a : Addr) (d : D) (y v : V) (dy dv : D) (Kp : D → Prop) (Q : Hp → Prop), Top X.K Z H a d → RepT X.K Z H y dy → Rep X.K Z H v dv → d.isDtt = false → dSet d dy dv Kp → (∀ d' o, Kp d' → NewTop X.K Z H a o d' → Q (upd H a o)) → t (.ref a) y v H Q) ∧
    ∀ (Z : Addr → Prop) (H : Hp) (a b : Addr) (d : D) (v : V) (ws : List V) (ds : List D) (dv : D) (Kp : D → Prop) (Q : Hp → Prop), Top X.K Z H a d → H b = some (.tup ws) → Reps X.K Z H ws ds → Rep X.K Z H v dv → d.isDtt = true → dSet d (.tup ds) dv Kp → (∀ d' o, Kp d' → NewTop X.K Z H a o d' → Q (upd H a o)) → t (.ref a) (.ref b) v H Q := by
  refine ⟨fun o i v H Q => rSetL o i v H Q ∨ rSetD o i v H Q, fun pins s σ H o i v ov iv u Q I ro ri rv h => h.elim (fun h => set_list pins s σ H o i v ov iv u Q I ro ri rv h) fun h => set_dict (by omega) pins s σ H o i v ov iv u Q I ro ri rv h,
    fun Z H a d y v dy dv Kp Q ht hy hv hi hd q => ?_, fun Z H a b d v ws ds dv Kp Q ht hb hr hv hi hd q => ?_⟩
  · cases ht with
    | lst h r =>
      cases dy <;> try exact hd.elim
      cases hy.int
      obtain ⟨j, e, hk⟩ := hd
      refine .inl ⟨a, _, _, j, rfl, rfl, h, by rw [r.length]; exact e, q _ _ hk fun H' k e z => .lst e ?_⟩
      have zk : ∀ b u, Z b → H b = some u → H' b = some u := fun b u zb hb => k b u (z b zb) hb
      exact Reps.set (hv.mono (fun _ z => z) zk) j (r.mono (fun _ z => z) zk)
    | dct h r =>
      obtain ⟨k, ek, hl, hk⟩ := hd
      cases hy.key ek
      refine .inr ⟨a, _, rfl, DPut.k h (by rw [r.length]; exact hl), q _ _ hk fun H' kk e z => .dct e ?_⟩
      have zk : ∀ b u, Z b → H b = some u → H' b = some u := fun b u zb hb => kk b u (z b zb) hb
      exact RepKs.put (hv.mono (fun _ z => z) zk) (r.mono (fun _ z => z) zk)
    | dtt h r => cases hi
  · cases ht with
    | lst h r => cases hi
    | dct h r => cases hi
    | dtt h r =>
      obtain ⟨k, ek, hl, hk⟩ := hd
      obtain rfl := hr.keys ek
      refine .inr ⟨a, _, rfl, DPut.t h hb (by rw [r.length]; exact hl), q _ _ hk fun H' kk e z => .dtt e ?_⟩
      have zk : ∀ b u, Z b → H b = some u → H' b = some u := fun b u zb hb => kk b u (z b zb) hb
      exact RepTs.put (hv.mono (fun _ z => z) zk) (r.mono (fun _ z => z) zk)

mutual
def Tg.nms : Tg → List Nat
  | .nm i => [i]
  | .sub _ _ => []
  | .tp ts => ts.nms
  | .nil => []
  | .cons a b => a.nms ++ b.nms
end
structure TStp (vs : List Nat) (σ : L2.St) (Z : Addr → Prop) (H : Hp) (env : Env) (σ' : L2.St) (H' : Hp) (env' : Env) : Prop where
  stp : Stp σ Z H env Z H' env'
  off : ∀ i, i ∉ vs → σ'[i]? = σ[i]?
  own : ∀ i, own env' i → σ'[i]? = σ[i]?
  len : σ'.length = σ.length
theorem Stp.sig (h : ∀ i, own env i → σ'[i]? = σ[i]?) (s : Stp σ' Z H env Z' H' env') : Stp σ Z H env Z' H' env' := by
  have eq : ∀ b, Ow σ env b ↔ Ow σ' env b := fun b => ⟨fun ⟨i, o, e⟩ => ⟨i, o, by rw [h i o]; exact e⟩, fun ⟨i, o, e⟩ => ⟨i, o, by rw [← h i o]; exact e⟩⟩
  exact ⟨⟨s.grow.zz, fun b z => (s.grow.zn b z).imp id (Or.imp (eq b).mpr id), fun b o e n => s.grow.hk b o e fun q => n ((eq b).mpr q), s.grow.tr⟩, s.sub⟩
theorem TStp.trans {vs ws : List Nat} {σ2 : L2.St} {H2 : Hp} (s1 : TStp vs σ Z H env σ' H' env') (s2 : TStp ws σ' Z H' env' σ2 H2 env2) : TStp (vs ++ ws) σ Z H env σ2 H2 env2 :=
  ⟨s1.stp.trans (s2.stp.sig s1.own), fun i h => (s2.off i fun q => h (List.mem_append_right _ q)).trans (s1.off i fun q => h (List.mem_append_left _ q)), fun i o => (s2.own i o).trans (s1.own i (s2.stp.sub i o)), s2.len.trans s1.len⟩
theorem TStp.refl : TStp [] σ Z H env σ H env := ⟨.refl, fun _ _ => rfl, fun _ _ => rfl, rfl⟩
def tG (G : Gh) (tg : Tg) : TG := fun x σ H Q => ∃ Z env d Q0, Rel G σ Z H env ∧ Rep G.K Z H x d ∧ bindT tg d env Q0 ∧ ∀ env' σ' H', Rel G σ' Z H' env' → TStp tg.nms σ Z H env σ' H' env' → Q0 env' → Q σ' H'
def tGs (G : Gh) (tg : Tg) : TGs := fun xs σ H Q => ∃ Z env ds Q0, Rel G σ Z H env ∧ Reps G.K Z H xs ds ∧ bindTs tg ds env Q0 ∧ ∀ env' σ' H', Rel G σ' Z H' env' → TStp tg.nms σ Z H env σ' H' env' → Q0 env' → Q σ' H'
theorem pg_imp {e : Expr} {t t' : TG} (h : PG X e t) (i : ∀ x σ H Q, t' x σ H Q → t x σ H Q) : PG X e t' := ⟨fun pins s σ H v u Q I r hw => h.run pins s σ H v u Q I r (i v σ H Q hw)⟩
theorem pgs_imp {e : List Expr} {t t' : TGs} (h : PGs X e t) (i : ∀ x σ H Q, t' x σ H Q → t x σ H Q) : PGs X e t' := ⟨fun pins s σ H v u Q I r hw => h.run pins s σ H v u Q I r (i v σ H Q hw)⟩
theorem stS_im {j : Nat} {d : D} {Q0 : Env → Prop} (Rl : Rel G σ Z H env) (r : Rep G.K Z H v d) (w : stS j (.im d) env Q0) : Rel G (σ.set j (some v)) Z H (env.set j (.im d)) ∧ TStp [j] σ Z H env (σ.set j (some v)) H (env.set j (.im d)) ∧ Q0 (env.set j (.im d)) := by
  have sg : ∀ i, i ≠ j → (σ.set j (some v))[i]? = σ[i]? := fun i h => List.getElem?_set_ne (Ne.symm h)
  have ts : TStp [j] σ Z H env (σ.set j (some v)) H (env.set j (.im d)) := ⟨⟨Stp.refl.grow, fun i h => (own_set_im h).1⟩, fun i h => sg i (by simpa using h), fun i o => sg i (own_set_im o).2, List.length_set⟩
  have n : (∀ d, env[j]? ≠ some (Sl.io d)) ∧ Q0 (env.set j (.im d)) := by
    unfold stS at w
    split at w
    · exact w.elim
    · exact w.elim
    · exact w.elim
    · next h _ _ => exact ⟨fun d e => h d e, w⟩
  exact ⟨Rl.setIm n.1 r, ts, n.2⟩
theorem g_name {j : Nat} {x : Str} {pos : Pos} (hN : X.N.Nodup) (hi : X.N[j]? = some x) (hx : Loc X.env.scope x) (hf : X.fn x = true ∨ X.env.scope.names.lookup x = some .local) : PG X (.Name x pos) (tG G (.nm j)) := by
  refine pg_imp (pg_name hN hi hx hf) fun x σ H Q ⟨Z, env, d, Q0, hR, r, hw, hq⟩ => ?_
  obtain ⟨R1, t1, w1⟩ := stS_im hR r (by simpa only [bindT] using hw)
  exact hq _ _ _ R1 t1 w1
/-- a store into slot i's own thing -/
theorem wr_ok {i : Nat} {f : D → (D → Prop) → Prop} {K : Env → Prop} {Q : Hp → Prop} (Rl : Rel G σ Z H env) (w : wrS i env f K) :
    ∃ d a Kp, σ[i]? = some (some (V.ref a)) ∧ Top G.K Z H a d ∧ f d Kp ∧ ∀ d' o, Kp d' → NewTop G.K Z H a o d' → ∃ env', Rel G σ Z (upd H a o) env' ∧ Stp σ Z H env Z (upd H a o) env' ∧ K env' := by
  unfold wrS at w
  split at w
  · next d h =>
    obtain ⟨a, e, _, _, t⟩ := Rl.ow i d h
    have oa : Ow σ env a := ⟨i, ⟨d, .inl h⟩, e⟩
    refine ⟨d, a, _, e, t, w, fun d' o k n => ?_⟩
    obtain ⟨R1, S1⟩ := Rl.write (a := a) (o := o) h (.inl ⟨rfl, rfl⟩) e fun H' hk ho => n H' hk ho fun b zb q => Rl.nO zb (by rw [q]; exact oa)
    exact ⟨_, R1, S1, k⟩
  · next d h =>
    obtain ⟨e, _, _, t⟩ := Rl.io i d h
    have oa : Ow σ env (G.ad i) := ⟨i, ⟨d, .inr h⟩, e⟩
    refine ⟨d, _, _, e, t, w, fun d' o k n => ?_⟩
    obtain ⟨R1, S1⟩ := Rl.write (a := G.ad i) (o := o) h (.inr ⟨rfl, rfl⟩) e fun H' hk ho => n H' hk ho fun b zb q => Rl.nO zb (by rw [q]; exact oa)
    exact ⟨_, R1, S1, k⟩
  · exact w.elim
theorem g_sub {i : Nat} {k : Int} {x : Str} {pos p2 : Pos} {j p3} (hu : X.A.units + 64 < cLine) (hK : X.K = G.K) (hN : X.N[i]? = some x) (hv : Vis X.env.scope x) (hd : (x == ("__debug__" : Str)) = false) (hcd : (x == ("__classdict__" : Str)) = false) :
    PG X (.Subscript (.Name x p2) (.Constant (.int k) j p3) pos) (tG G (.sub i k)) := by
  obtain ⟨t, ht, s1, _⟩ := dset_ok (X := X) hu
  rw [hK] at s1
  refine pg_imp (pg_sub (pe_var hN hv hd hcd) pe_int ht) fun x σ H Q ⟨Z, env, d, Q0, hR, r, hw, hq⟩ => ?_
  have hw : wrS i env (fun x f => dSet x (.int k) d f) Q0 := by simpa only [bindT] using hw
  obtain ⟨c, a, Kp, es, tp, hf, fin⟩ := wr_ok (Q := fun _ => True) hR hw
  refine ⟨_, es, s1 Z H a c _ x (.int k) d Kp _ tp (.inl (.int k)) r ?_ hf fun d' o k n => ?_⟩
  · cases c <;> first | rfl | exact hf.elim
  · obtain ⟨env', R1, S1, w1⟩ := fin d' o k n
    exact hq _ _ _ R1 ⟨S1, fun _ _ => rfl, fun _ _ => rfl, rfl⟩ w1
/-- .. of a thing that may be new -/
def tGt (G : Gh) (ts : Tg) : TG := fun x σ H Q => ∃ Z env d Q0, Rel G σ Z H env ∧ RepT G.K Z H x d ∧ bindT (.tp ts) d env Q0 ∧ ∀ env' σ' H', Rel G σ' Z H' env' → TStp (Tg.tp ts).nms σ Z H env σ' H' env' → Q0 env' → Q σ' H'
theorem pg_two {es : List Expr} {k : Nat} {t : TGs} {n : Nat} {pos : Pos} (hc : X.calm = true) (h : PGs X es t) (hn : (assignEach es X.env).length = n) (hst : (assignEach es X.env).findIdx? (·.1) = none) :
    PG X (.Tuple es k pos) (fun v σ H Q => gTup X.K n t v σ H Q ∨ gLst X.K n t v σ H Q) :=
  ⟨fun pins s σ H v u Q I r hw => hw.elim (fun hw => (pg_tup hc h hn hst).run pins s σ H v u Q I r hw) fun hw => (pg_lst hc h hn hst).run pins s σ H v u Q I r hw⟩
theorem g_tupt {ts : Tg} {es : List Expr} {k : Nat} {n : Nat} {pos : Pos} (hc : X.calm = true) (hK : X.K = G.K) (hl : ts.len = n) (h : PGs X es (tGs G ts)) (hn : (assignEach es X.env).length = n) (hst : (assignEach es X.env).findIdx? (·.1) = none) : PG X (.Tuple es k pos) (tGt G ts) := by
  refine pg_imp (pg_two hc h hn hst) fun x σ H Q ⟨Z, env, d, Q0, hR, r, hw, hq⟩ => ?_
  cases d <;> simp only [bindT] at hw
  · obtain ⟨a, vs, rfl, h1, r1⟩ := r.tup
    exact .inl ⟨a, vs, rfl, by rw [hK]; exact h1.sq, by rw [r1.length]; exact hw.1.trans hl, Z, env, _, Q0, hR, r1, hw.2, hq⟩
  · obtain ⟨a, vs, rfl, h1, r1⟩ := r.lst
    exact .inr ⟨a, vs, rfl, SqL.of h1, by rw [r1.length]; exact hw.1.trans hl, Z, env, _, Q0, hR, r1, hw.2, hq⟩
theorem g_tup {ts : Tg} {es : List Expr} {k : Nat} {n : Nat} {pos : Pos} (hc : X.calm = true) (hK : X.K = G.K) (hl : ts.len = n) (h : PGs X es (tGs G ts)) (hn : (assignEach es X.env).length = n) (hst : (assignEach es X.env).findIdx? (·.1) = none) : PG X (.Tuple es k pos) (tG G (.tp ts)) :=
  pg_imp (g_tupt hc hK hl h hn hst) fun x σ H Q ⟨Z, env, d, Q0, hR, r, hw, hq⟩ => ⟨Z, env, d, Q0, hR, .of r, hw, hq⟩
theorem g_nil : PGs X [] (tGs G .nil) := by
  refine pgs_imp pgs_nil fun x σ H Q ⟨Z, env, ds, Q0, hR, r, hw, hq⟩ => ?_
  cases r with
  | nil => exact ⟨rfl, hq _ _ _ hR .refl (by simpa only [bindTs] using hw)⟩
  | cons _ _ => simp only [bindTs] at hw
theorem g_cons {a b : Tg} {e : Expr} {es : List Expr} (h1 : PG X e (tG G a)) (h2 : PGs X es (tGs G b)) (hs : (assignEach (e :: es) X.env).map (·.2) = assign e X.env :: (assignEach es X.env).map (·.2)) : PGs X (e :: es) (tGs G (.cons a b)) := by
  refine pgs_imp (pgs_cons h1 h2 hs) fun x σ H Q ⟨Z, env, ds, Q0, hR, r, hw, hq⟩ => ?_
  cases r with
  | nil => simp only [bindTs] at hw
  | cons r1 rr =>
    simp only [bindTs] at hw
    refine ⟨_, _, rfl, Z, env, _, _, hR, r1, hw, fun env1 σ1 H1 R1 t1 w1 => ⟨Z, env1, _, _, R1, t1.stp.reps hR rr, w1, fun env2 σ2 H2 R2 t2 w2 => hq _ _ _ R2 ?_ w2⟩⟩
    have := t1.trans t2
    simpa only [Tg.nms] using this
def isLoc (sc : Scope) (ow : Str → Bool) (x : Str) : Bool := match sc.names.lookup x with
  | some .local => true
  | some .cell => ow x
  | _ => false
def isVis (sc : Scope) (x : Str) : Bool := match sc.names.lookup x with
  | some .local => true
  | some .cell => true
  | some .free => true
  | _ => false
def okN (x : Str) : Bool := !(x == ("__debug__" : Str)) && !(x == ("__classdict__" : Str))
theorem isLoc_of {x : Str} {ow : Str → Bool} (h : isLoc sc ow x = true) : sc.names.lookup x = some .local ∨ (sc.names.lookup x = some .cell ∧ ow x = true) := by
  unfold isLoc at h
  split at h
  · exact .inl (by assumption)
  · exact .inr ⟨by assumption, h⟩
  · cases h
theorem isVis_of {x : Str} (h : isVis sc x = true) : Vis sc x := by
  unfold isVis at h
  split at h
  · exact .inl (by assumption)
  · exact .inr (.inl (by assumption))
  · exact .inr (.inr (by assumption))
  · cases h
theorem okN_of {x : Str} (h : okN x = true) : (x == ("__debug__" : Str)) = false ∧ (x == ("__classdict__" : Str)) = false := by
  unfold okN at h
  simpa using h
mutual
/-- the target as written -/
def mT (N : List Str) (sc : Scope) (ow : Str → Bool) : Tg → Expr → Bool
  | .nm i, .Name x _ => decide (N[i]? = some x) && isLoc sc ow x
  | .sub i k, .Subscript (.Name x _) (.Constant (.int k') _ _) _ => decide (N[i]? = some x) && isVis sc x && okN x && decide (k = k')
  | .tp ts, .Tuple es _ _ => mTs N sc ow ts es
  | _, _ => false
def mTs (N : List Str) (sc : Scope) (ow : Str → Bool) : Tg → List Expr → Bool
  | .nil, [] => true
  | .cons a b, e :: es => mT N sc ow a e && mTs N sc ow b es
  | _, _ => false
end
theorem mT_star {N : List Str} {sc : Scope} {ow : Str → Bool} {a : Tg} {e : Expr} {es : List Expr} {E : PySem.Env} (h : mT N sc ow a e = true) : assignEach (e :: es) E = (false, assign e E) :: assignEach es E := by
  cases e <;> first | rfl | (cases a <;> simp [mT] at h)
theorem mTs_star {E : PySem.Env} {N : List Str} {sc : Scope} {ow : Str → Bool} : ∀ {ts : Tg} {es : List Expr}, mTs N sc ow ts es = true → (assignEach es E).length = es.length ∧ (assignEach es E).findIdx? (·.1) = none ∧ ts.len = es.length
  | .nil, [], _ => ⟨rfl, rfl, rfl⟩
  | .cons a b, e :: es, h => by
    simp only [mTs, Bool.and_eq_true] at h
    obtain ⟨h1, h2, h3⟩ := mTs_star (E := E) h.2
    rw [mT_star h.1]
    exact ⟨by rw [List.length_cons, List.length_cons, h1], by rw [List.findIdx?_cons, h2]; rfl, by rw [Tg.len, List.length_cons, h3]⟩
  | .nil, _ :: _, h => by simp [mTs] at h
  | .cons _ _, [], h => by simp [mTs] at h
  | .nm _, _, h => by simp [mTs] at h
  | .sub _ _, _, h => by simp [mTs] at h
  | .tp _, _, h => by simp [mTs] at h
/-- what targets need of the context -/
structure TOk (N : List Str) (sc : Scope) (ow : Str → Bool) (G : Gh) (X : Cx) : Prop where
  hN : X.N = N
  nd : N.Nodup
  hsc : X.env.scope = sc
  calm : X.calm = true
  hK : X.K = G.K
  un : X.A.units + 64 < cLine
  cell : ∀ x, ow x = true → X.fn x = true
mutual
theorem tg_ok {ow : Str → Bool} (h : TOk N sc ow G X) : ∀ (t : Tg) (e : Expr), mT N sc ow t e = true → PG X e (tG G t)
  | .nm i, .Name x _, m => by
    simp only [mT, Bool.and_eq_true, decide_eq_true_eq] at m
    have l := isLoc_of m.2
    refine g_name (by rw [h.hN]; exact h.nd) (by rw [h.hN]; exact m.1) (by rw [h.hsc]; exact l.imp id And.left) ?_
    rcases l with l | l
    · exact .inr (by rw [h.hsc]; exact l)
    · exact .inl (h.cell _ l.2)
  | .sub i k, .Subscript (.Name x _) (.Constant (.int k') _ _) _, m => by
    simp only [mT, Bool.and_eq_true, decide_eq_true_eq] at m
    obtain ⟨⟨⟨m1, m2⟩, m3⟩, m4⟩ := m
    subst m4
    obtain ⟨d1, d2⟩ := okN_of m3
    exact g_sub h.un h.hK (by rw [h.hN]; exact m1) (by rw [h.hsc]; exact isVis_of m2) d1 d2
  | .tp ts, .Tuple es _ _, m => by
    have m : mTs N sc ow ts es = true := by simpa only [mT] using m
    obtain ⟨h1, h2, h3⟩ := mTs_star (E := X.env) m
    exact g_tup h.calm h.hK h3 (tgs_ok h ts es m) h1 h2
  | .nil, e, m => by cases e <;> simp [mT] at m
  | .cons _ _, e, m => by cases e <;> simp [mT] at m
theorem tgs_ok {ow : Str → Bool} (h : TOk N sc ow G X) : ∀ (t : Tg) (es : List Expr), mTs N sc ow t es = true → PGs X es (tGs G t)
  | .nil, [], _ => g_nil
  | .cons a b, e :: es, m => by
    simp only [mTs, Bool.and_eq_true] at m
    exact g_cons (tg_ok h a e m.1) (tgs_ok h b es m.2) (by rw [mT_star m.1]; rfl)
  | .nil, _ :: _, m => by simp [mTs] at m
  | .cons _ _, [], m => by simp [mTs] at m
  | .nm _, _, m => by simp [mTs] at m
  | .sub _ _, _, m => by simp [mTs] at m
  | .tp _, _, m => by simp [mTs] at m
end
theorem tgt_ok {ow : Str → Bool} (h : TOk N sc ow G X) {ts : Tg} {e : Expr} (m : mT N sc ow (.tp ts) e = true) : PG X e (tGt G ts) := by
  cases e
  case Tuple es k pos =>
    have m : mTs N sc ow ts es = true := by simpa only [mT] using m
    obtain ⟨h1, h2, h3⟩ := mTs_star (E := X.env) m
    exact g_tupt h.calm h.hK h3 (tgs_ok h ts es m) h1 h2
  all_goals (exfalso; simp [mT] at m)
end
end TG
end
section
namespace TG
open PySem PySem.Spec PyProof.Rows L2

section
variable {Γ : Ga} {R : XP} {G : Gh} {X : Cx} {σ σ' : L2.St} {Z Z' Zs : Addr → Prop} {H H' Hs : Hp} {env env' env2 envs : Env} {v : V} {d : D} {a : Addr} {is js : List Nat}
def Src (G : Gh) (σ : L2.St) (Z : Addr → Prop) (H : Hp) (env : Env) (is : List Nat) (v : V) (d : D) : Prop :=
  Rep G.K Z H v d ∨ ∃ i ∈ is, σ[i]? = some (some v) ∧ (env[i]? = some (Sl.ow d) ∨ env[i]? = some (Sl.io d))
structure Ltr (G : Gh) (is : List Nat) (σ : L2.St) (Z : Addr → Prop) (H : Hp) (env : Env) (σ' : L2.St) (Z' : Addr → Prop) (H' : Hp) (env' : Env) : Prop where
  rel : Rel G σ' Z' H' env'
  zz : ∀ b, Z b → Z' b
  hk : ∀ b o, Z b → H b = some o → H' b = some o
  st : ∀ i ∈ is, ∀ d, (env[i]? = some (Sl.ow d) ∨ env[i]? = some (Sl.io d)) → (env'[i]? = env[i]? ∧ σ'[i]? = σ[i]?) ∨ ∃ v, env[i]? = some (Sl.ow d) ∧ σ[i]? = some (some v) ∧ Rep G.K Z' H' v d
theorem Src.later (s : Src G σ Z H env is v d) (l : Ltr G is σ Z H env σ' Z' H' env') : RepT G.K Z' H' v d := by
  rcases s with r | ⟨i, hi, e, h⟩
  · exact .inl (r.mono l.zz l.hk)
  · rcases l.st i hi d h with ⟨e1, e2⟩ | ⟨w, e1, e2, r⟩
    · rw [← e1] at h
      rcases h with h | h
      · obtain ⟨a, q, _, _, t⟩ := l.rel.ow i d h
        rw [e2, e] at q; cases q
        exact .inr ⟨a, rfl, .inl t⟩
      · obtain ⟨q, _, _, t⟩ := l.rel.io i d h
        rw [e2, e] at q; cases q
        exact .inr ⟨_, rfl, .inl t⟩
    · rw [e] at e2; cases e2
      exact .inl r
theorem Src.sub (s : Src G σ Z H env is v d) (h : ∀ i ∈ is, i ∈ js) : Src G σ Z H env js v d := s.imp id fun ⟨i, hi, q⟩ => ⟨i, h i hi, q⟩
/-- a value that is new is kept for good at once -/
theorem src_pre {Z0 : Addr → Prop} {H0 : Hp} {env0 : Env} (Rl : Rel G σ Z H env) {r : Rv} {v : V} (S : Stp σ Z0 H0 env0 Z H env) (V1 : RepR G σ Z H env r v) (nw : RepN H0 r v) :
    ∃ Z' r', Rel G σ Z' H env ∧ Stp σ Z0 H0 env0 Z' H env ∧ RepR G σ Z' H env r' v ∧ ∀ {e2 : Env} {Z2 : Addr → Prop} {H2 : Hp} {K : List Nat → D → Prop}, Rel G σ Z2 H2 e2 → RepR G σ Z2 H2 e2 r' v → srcR r e2 K → ∃ is d, Src G σ Z2 H2 e2 is v d ∧ K is d := by
  cases r with
  | im d => exact ⟨Z, .im d, Rl, S, V1, fun R2 V2 w => ⟨_, d, .inl V2, w⟩⟩
  | fr d =>
    obtain ⟨a, rfl, nz, no, h0, t⟩ := V1
    exact ⟨Zi Z a, .im d, Rl.freeze no h0 t.mut, ⟨⟨fun b z => .inl (S.grow.zz b z), fun b z => z.elim (S.grow.zn b) fun q => .inr (.inr (by rw [q]; exact nw a rfl)), S.grow.hk, S.grow.tr⟩, S.sub⟩, t.rep (fun _ z => .inl z) (.inr rfl), fun R2 V2 w => ⟨_, d, .inl V2, w⟩⟩
  | bo i =>
    refine ⟨Z, .bo i, Rl, S, V1, fun {e2 Z2 H2 K} R2 V2 w => ?_⟩
    have V1 : σ[i]? = some (some v) := V2
    unfold srcR at w
    simp only at w
    split at w
    · next d h => exact ⟨_, d, .inr ⟨i, by simp, V1, .inl h⟩, w⟩
    · next d h => exact ⟨_, d, .inr ⟨i, by simp, V1, .inr h⟩, w⟩
    · next d h =>
      obtain ⟨u, e, t⟩ := R2.im i d h
      rw [V1] at e; cases e
      exact ⟨_, d, .inl t, w⟩
    · exact w.elim
def WalkOk (G : Gh) (is : List Nat) (its : List D) (J : It) (σ : L2.St) (Z : Addr → Prop) (H : Hp) (env : Env) : Prop := ∀ σ' Z' H' env', Ltr G is σ Z H env σ' Z' H' env' →
  (∀ i d, its[i]? = some d → J.go i H' ∧ ∀ x H'', J.yld i H' x H'' → ∃ Z'', Rel G σ' Z'' H'' env' ∧ Stp σ' Z' H' env' Z'' H'' env' ∧ Rep G.K Z'' H'' x d) ∧ J.stop its.length H'
def tI (Γ : Ga) (R : XP) (G : Gh) (ex : Ex) : TI := fun σ H Rz => ∃ Z env Q0, Rel G σ Z H env ∧ wpI Γ R ex env Q0 ∧ ∀ is its env' J Z' H', Rel G σ Z' H' env' → Stp σ Z H env Z' H' env' → WalkOk G is its J σ Z' H' env' → Q0 is its env' → Rz J H'
theorem pi_imp {tg e : Expr} {t t' : TI} (h : PI X tg e t) (i : ∀ σ H Q, t' σ H Q → t σ H Q) : PI X tg e t' := ⟨fun pins s σ H Q I hw => h.run pins s σ H Q I (i σ H Q hw)⟩
theorem RepT.seq {ds : List D} (h : RepT G.K Z H v d) (e : seqD d = some ds) : ∃ k a vs, v = .ref a ∧ SqX G.K k H a vs ∧ Reps G.K Z H vs ds ∧ (k = true ↔ d = .lst ds) := by
  cases d <;> simp [seqD] at e
  · subst e
    obtain ⟨a, vs, rfl, h1, r⟩ := h.tup
    exact ⟨false, a, vs, rfl, h1.sq, r, by simp⟩
  · subst e
    obtain ⟨a, vs, rfl, h1, r⟩ := h.lst
    exact ⟨true, a, vs, rfl, SqL.of h1, r, by simp⟩
theorem sqx_of {ds : List D} {k : Bool} (hk : k = true ↔ d = .lst ds) (e : seqD d = some ds) (h : RepT G.K Z H (.ref a) d) : ∃ vs, SqX G.K k H a vs ∧ Reps G.K Z H vs ds := by
  obtain ⟨k', b, vs, e1, h1, r, hk'⟩ := h.seq e
  cases e1
  have : k = k' := by
    cases k <;> cases k' <;> simp_all
  subst this
  exact ⟨vs, h1, r⟩

theorem s_iany {b : Ex} {tg e : Expr} (hK : X.K = G.K) (hne : ∀ env Q, wpI Γ R b env Q → wpE Γ R b env fun r e1 => srcR r e1 fun is x => ∃ xs, itD x = some xs ∧ Q is xs e1) (ha : PE X e (tE Γ R G b)) : PI X tg e (tI Γ R G b) := by
  refine pi_imp (pi_any ha) fun σ H Q ⟨Z, env, Q0, hR, hw, hq⟩ => ?_
  rw [hK]
  refine ⟨Z, env, _, hR, hne _ _ hw, fun r e1 v Z1 H1 R1 S1 V1 N1 w1 => ?_⟩
  obtain ⟨Z2, r', R2, S2, V2, pre⟩ := src_pre R1 S1 V1 N1
  obtain ⟨is, d, sr, xs, ed, w⟩ := pre R2 V2 w1
  have now : Ltr G is σ Z2 H1 e1 σ Z2 H1 e1 := ⟨R2, fun _ z => z, fun _ _ _ h => h, fun _ _ _ _ => .inl ⟨rfl, rfl⟩⟩
  have t0 := sr.later now
  have lst : ∀ {a}, (∀ {σ' Z' H' env'}, Ltr G is σ Z2 H1 e1 σ' Z' H' env' → ∃ vs, SqL G.K H' a vs ∧ Reps G.K Z' H' vs xs) → WalkOk G is xs (Itl G.K a) σ Z2 H1 e1 := fun {a} f σ' Z' H' env' l => by
    obtain ⟨vs, h, r⟩ := f l
    refine ⟨fun i d e => ?_, vs, h, by rw [r.length]; exact Nat.le_refl _⟩
    obtain ⟨x, e1, rx⟩ := r.get e
    refine ⟨⟨vs, x, h, e1⟩, fun y H'' ⟨q1, q2⟩ => ?_⟩
    have q := q2 vs h
    rw [e1] at q; cases q
    subst q1
    exact ⟨Z', l.rel, .refl, rx⟩
  cases d <;> simp [itD] at ed
  · subst ed
    rename_i z
    cases t0.str
    refine .inr (.inr ⟨z, rfl, hq is _ e1 _ Z2 H1 R2 S2 (fun σ' Z' H' env' l => ?_) w⟩)
    refine ⟨fun i d e => ?_, by show z.cps.size ≤ _; simp⟩
    have e : (z.cps.toList.map fun c => D.str ⟨#[c]⟩)[i]? = some d := e
    rw [List.getElem?_map] at e
    obtain ⟨c, ec, rfl⟩ := Option.map_eq_some_iff.mp e
    have ec : z.cps[i]? = some c := by simpa using ec
    refine ⟨(Array.getElem?_eq_some_iff.mp ec).1, fun x H'' ⟨q1, c', q2, q3⟩ => ?_⟩
    rw [ec] at q2; cases q2
    subst q1 q3
    exact ⟨Z', l.rel, .refl, .str _⟩
  · subst ed
    obtain ⟨a, vs, rfl, h1, r⟩ := t0.tup
    refine .inr (.inl ⟨a, vs, rfl, h1.sq, hq is _ e1 _ Z2 H1 R2 S2 (fun σ' Z' H' env' l => ?_) w⟩)
    obtain ⟨a', vs, e, h1, r⟩ := (sr.later l).tup
    cases e
    refine ⟨fun i d e => ?_, vs, h1.sq, by rw [r.length]; exact Nat.le_refl _⟩
    obtain ⟨x, e1, rx⟩ := r.get e
    refine ⟨⟨vs, x, h1.sq, e1⟩, fun y H'' ⟨q1, q2⟩ => ?_⟩
    have q := q2 vs h1.sq
    rw [e1] at q; cases q
    subst q1
    exact ⟨Z', l.rel, .refl, rx⟩
  · subst ed
    obtain ⟨a, vs, rfl, h1, r⟩ := t0.lst
    refine .inl ⟨a, vs, rfl, SqL.of h1, hq is _ e1 _ Z2 H1 R2 S2 (lst fun l => ?_) w⟩
    obtain ⟨a', vs, e, h1, r⟩ := (sr.later l).lst
    cases e
    exact ⟨vs, SqL.of h1, r⟩
  · subst ed
    obtain ⟨a, vs, rfl, h1, r⟩ := t0.scr
    refine .inl ⟨a, vs, rfl, h1, hq is _ e1 _ Z2 H1 R2 S2 (lst fun l => ?_) w⟩
    obtain ⟨a', vs, e, h1, r⟩ := (sr.later l).scr
    cases e
    exact ⟨vs, h1, r⟩
theorem zipD_len : ∀ (xs ys : List D), (zipD xs ys).length = min xs.length ys.length
  | [], ys => by simp [zipD]
  | x :: xs, [] => by simp [zipD]
  | x :: xs, y :: ys => by rw [zipD, List.length_cons, List.length_cons, List.length_cons, zipD_len xs ys]; omega
theorem zipD_get : ∀ {xs ys : List D} {i : Nat} {d : D}, (zipD xs ys)[i]? = some d → ∃ x y, xs[i]? = some x ∧ ys[i]? = some y ∧ d = .tup [x, y]
  | x :: xs, y :: ys, 0, d, e => by simp [zipD] at e; exact ⟨x, y, rfl, rfl, e.symm⟩
  | x :: xs, y :: ys, i + 1, d, e => by
    obtain ⟨u, w, h1, h2, h3⟩ := zipD_get (xs := xs) (ys := ys) (i := i) (d := d) (by simpa [zipD] using e)
    exact ⟨u, w, by simpa using h1, by simpa using h2, h3⟩
  | [], ys, i, d, e => by simp [zipD] at e
  | x :: xs, [], i, d, e => by simp [zipD] at e
theorem zipD3_len : ∀ (xs ys zs : List D), (zipD3 xs ys zs).length = min (min xs.length ys.length) zs.length
  | [], ys, zs => by simp [zipD3]
  | x :: xs, [], zs => by simp [zipD3]
  | x :: xs, y :: ys, [] => by simp [zipD3]
  | x :: xs, y :: ys, z :: zs => by rw [zipD3, List.length_cons, List.length_cons, List.length_cons, List.length_cons, zipD3_len xs ys zs]; omega
theorem zipD3_get : ∀ {xs ys zs : List D} {i : Nat} {d : D}, (zipD3 xs ys zs)[i]? = some d → ∃ x y z, xs[i]? = some x ∧ ys[i]? = some y ∧ zs[i]? = some z ∧ d = .tup [x, y, z]
  | x :: xs, y :: ys, z :: zs, 0, d, e => by simp [zipD3] at e; exact ⟨x, y, z, rfl, rfl, rfl, e.symm⟩
  | x :: xs, y :: ys, z :: zs, i + 1, d, e => by
    obtain ⟨u, w, t, h1, h2, h3, h4⟩ := zipD3_get (xs := xs) (ys := ys) (zs := zs) (i := i) (d := d) (by simpa [zipD3] using e)
    exact ⟨u, w, t, by simpa using h1, by simpa using h2, by simpa using h3, h4⟩
  | [], ys, zs, i, d, e => by simp [zipD3] at e
  | x :: xs, [], zs, i, d, e => by simp [zipD3] at e
  | x :: xs, y :: ys, [], i, d, e => by simp [zipD3] at e
theorem enumD_len : ∀ (n : Nat) (xs : List D), (enumD n xs).length = xs.length
  | n, [] => rfl
  | n, x :: xs => by rw [enumD, List.length_cons, List.length_cons, enumD_len]
theorem enumD_get : ∀ {n : Nat} {xs : List D} {i : Nat} {d : D}, (enumD n xs)[i]? = some d → ∃ x, xs[i]? = some x ∧ d = .tup [.int ((n + i : Nat) : Int), x]
  | n, x :: xs, 0, d, e => by simp [enumD] at e; exact ⟨x, rfl, by rw [← e]; rfl⟩
  | n, x :: xs, i + 1, d, e => by
    obtain ⟨u, h1, h2⟩ := enumD_get (n := n + 1) (xs := xs) (i := i) (d := d) (by simpa [enumD] using e)
    exact ⟨u, by simpa using h1, by rw [h2, show n + 1 + i = n + (i + 1) by omega]⟩
  | n, [], i, d, e => by simp [enumD] at e
theorem s_z2 {b b2 : Ex} {e e2 : Expr} {p pos tpos : Pos} {elts : List Expr} {kk : Nat} (hK : X.K = G.K) (hg : Gl X "zip") (hm : X.mg "zip" = none) (ha : PE X e (tE Γ R G b)) (hb : PE X e2 (tE Γ R G b2))
    (hs : starEach [e, e2] X.env = (false, eval e X.env) :: starEach [e2] X.env) (hs2 : starEach [e2] X.env = (false, eval e2 X.env) :: starEach [] X.env) (hpl : (backTo pos (starEach [e2] X.env)).any (·.1) = false) :
    PI X (.Tuple elts kk tpos) (.Call (.Name "zip" p) [e, e2] [] pos) (tI Γ R G (.zip2 b b2)) := by
  refine pi_imp (pi_z2 hg hm (pa_cons ha (pa_cons hb pa_nil hs2) hs) hs hpl) fun σ H Q ⟨Z, env, Q0, hR, hw, hq⟩ => ?_
  rw [hK]
  refine ⟨Z, env, _, hR, hw, fun r e1 v Z1 H1 R1 S1 V1 N1 w1 => ?_⟩
  obtain ⟨Y1, r', R1, S1, V1, pre1⟩ := src_pre R1 S1 V1 N1
  refine ⟨Y1, e1, _, R1, w1, fun r2 e2 v2 Z2 H2 R2 S2 V2 N2 w2 => ?_⟩
  obtain ⟨Y2, r2', R2, S2, V2, pre2⟩ := src_pre R2 S2 V2 N2
  obtain ⟨is, d, sr, w2⟩ := pre1 R2 (S2.repR R1 V1) w2
  obtain ⟨js, d2, sr2, xs, ys, ex, ey, w2⟩ := pre2 R2 V2 w2
  have sr := sr.sub (js := is ++ js) fun i h => List.mem_append_left _ h
  have sr2 := sr2.sub (js := is ++ js) fun i h => List.mem_append_right _ h
  have now : Ltr G (is ++ js) σ Y2 H2 e2 σ Y2 H2 e2 := ⟨R2, fun _ z => z, fun _ _ _ h => h, fun _ _ _ _ => .inl ⟨rfl, rfl⟩⟩
  obtain ⟨k1, a1, vs1, rfl, q1, rr1, hk1⟩ := (sr.later now).seq ex
  obtain ⟨k2, a2, vs2, rfl, q2, rr2, hk2⟩ := (sr2.later now).seq ey
  refine ⟨a1, a2, k1, k2, vs1, vs2, rfl, q1, q2, hq _ _ e2 _ Y2 H2 R2 (S1.trans S2) (fun σ' Z' H' env' l => ?_) w2⟩
  obtain ⟨us1, p1, t1⟩ := sqx_of hk1 ex (sr.later l)
  obtain ⟨us2, p2, t2⟩ := sqx_of hk2 ey (sr2.later l)
  have l1 := t1.length
  have l2 := t2.length
  refine ⟨fun i d e => ?_, us1, us2, p1, p2, by rw [zipD_len]; omega⟩
  obtain ⟨x, y, g1, g2, rfl⟩ := zipD_get e
  obtain ⟨u1, f1, c1⟩ := t1.get g1
  obtain ⟨u2, f2, c2⟩ := t2.get g2
  refine ⟨⟨us1, us2, p1, p2, (List.getElem?_eq_some_iff.mp f1).1, (List.getElem?_eq_some_iff.mp f2).1⟩, fun z H'' hy => ?_⟩
  obtain ⟨T, x', y', rfl, hT, rfl, hy⟩ := hy
  obtain ⟨o1, o2⟩ := hy us1 us2 p1 p2
  rw [f1] at o1; cases o1
  rw [f2] at o2; cases o2
  obtain ⟨Z3, R3, S3, V3, N3⟩ := (Out.tup hT (.cons c1 (.cons c2 .nil))).run l.rel
  exact ⟨Z3, R3, S3, V3⟩
theorem s_z3 {b b2 b3 : Ex} {e e2 e3 : Expr} {p pos tpos : Pos} {elts : List Expr} {kk : Nat} (hK : X.K = G.K) (hg : Gl X "zip") (hm : X.mg "zip" = none) (ha : PE X e (tE Γ R G b)) (hb : PE X e2 (tE Γ R G b2)) (hb3 : PE X e3 (tE Γ R G b3))
    (hs : starEach [e, e2, e3] X.env = (false, eval e X.env) :: starEach [e2, e3] X.env) (hs2 : starEach [e2, e3] X.env = (false, eval e2 X.env) :: starEach [e3] X.env) (hs3 : starEach [e3] X.env = (false, eval e3 X.env) :: starEach [] X.env) (hpl : (backTo pos (starEach [e2, e3] X.env)).any (·.1) = false) :
    PI X (.Tuple elts kk tpos) (.Call (.Name "zip" p) [e, e2, e3] [] pos) (tI Γ R G (.zip3 b b2 b3)) := by
  refine pi_imp (pi_z3 hg hm (pa_cons ha (pa_cons hb (pa_cons hb3 pa_nil hs3) hs2) hs) hs hpl) fun σ H Q ⟨Z, env, Q0, hR, hw, hq⟩ => ?_
  rw [hK]
  refine ⟨Z, env, _, hR, hw, fun r e1 v Z1 H1 R1 S1 V1 N1 w1 => ?_⟩
  obtain ⟨Y1, r', R1, S1, V1, pre1⟩ := src_pre R1 S1 V1 N1
  refine ⟨Y1, e1, _, R1, w1, fun r2 e2 v2 Z2 H2 R2 S2 V2 N2 w2 => ?_⟩
  obtain ⟨Y2, r2', R2, S2, V2, pre2⟩ := src_pre R2 S2 V2 N2
  refine ⟨Y2, e2, _, R2, w2, fun r3 e3 v3 Z3 H3 R3 S3 V3 N3 w3 => ?_⟩
  obtain ⟨Y3, r3', R3, S3, V3, pre3⟩ := src_pre R3 S3 V3 N3
  obtain ⟨is, d, sr, w3⟩ := pre1 R3 (S3.repR R2 (S2.repR R1 V1)) w3
  obtain ⟨js, d2, sr2, w3⟩ := pre2 R3 (S3.repR R2 V2) w3
  obtain ⟨ks, d3, sr3, xs, ys, zs, ex, ey, ez, w2⟩ := pre3 R3 V3 w3
  have sr := sr.sub (js := is ++ js ++ ks) fun i h => by simp [h]
  have sr2 := sr2.sub (js := is ++ js ++ ks) fun i h => by simp [h]
  have sr3 := sr3.sub (js := is ++ js ++ ks) fun i h => by simp [h]
  have now : Ltr G (is ++ js ++ ks) σ Y3 H3 e3 σ Y3 H3 e3 := ⟨R3, fun _ z => z, fun _ _ _ h => h, fun _ _ _ _ => .inl ⟨rfl, rfl⟩⟩
  obtain ⟨k1, a1, vs1, rfl, q1, rr1, hk1⟩ := (sr.later now).seq ex
  obtain ⟨k2, a2, vs2, rfl, q2, rr2, hk2⟩ := (sr2.later now).seq ey
  obtain ⟨k3, a3, vs3, rfl, q3, rr3, hk3⟩ := (sr3.later now).seq ez
  refine ⟨a1, a2, a3, k1, k2, k3, vs1, vs2, vs3, rfl, q1, q2, q3, hq _ _ e3 _ Y3 H3 R3 ((S1.trans S2).trans S3) (fun σ' Z' H' env' l => ?_) w2⟩
  obtain ⟨us1, p1, t1⟩ := sqx_of hk1 ex (sr.later l)
  obtain ⟨us2, p2, t2⟩ := sqx_of hk2 ey (sr2.later l)
  obtain ⟨us3, p3, t3⟩ := sqx_of hk3 ez (sr3.later l)
  have l1 := t1.length
  have l2 := t2.length
  have l3 := t3.length
  refine ⟨fun i d e => ?_, us1, us2, us3, p1, p2, p3, by rw [zipD3_len]; omega⟩
  obtain ⟨x, y, z, g1, g2, g3, rfl⟩ := zipD3_get e
  obtain ⟨u1, f1, c1⟩ := t1.get g1
  obtain ⟨u2, f2, c2⟩ := t2.get g2
  obtain ⟨u3, f3, c3⟩ := t3.get g3
  refine ⟨⟨us1, us2, us3, p1, p2, p3, (List.getElem?_eq_some_iff.mp f1).1, (List.getElem?_eq_some_iff.mp f2).1, (List.getElem?_eq_some_iff.mp f3).1⟩, fun z H'' hy => ?_⟩
  obtain ⟨T, x', y', z', rfl, hT, rfl, hy⟩ := hy
  obtain ⟨o1, o2, o3⟩ := hy us1 us2 us3 p1 p2 p3
  rw [f1] at o1; cases o1
  rw [f2] at o2; cases o2
  rw [f3] at o3; cases o3
  obtain ⟨Z3, R3, S3, V3, N3⟩ := (Out.tup hT (.cons c1 (.cons c2 (.cons c3 .nil)))).run l.rel
  exact ⟨Z3, R3, S3, V3⟩
theorem s_en {b : Ex} {e : Expr} {p pos tpos : Pos} {elts : List Expr} {kk : Nat} (hK : X.K = G.K) (hg : Gl X "enumerate") (hm : X.mg "enumerate" = none) (ha : PE X e (tE Γ R G b))
    (hs : starEach [e] X.env = [(false, eval e X.env)]) : PI X (.Tuple elts kk tpos) (.Call (.Name "enumerate" p) [e] [] pos) (tI Γ R G (.enum b)) := by
  refine pi_imp (pi_en hg hm (pa_cons ha pa_nil hs) hs) fun σ H Q ⟨Z, env, Q0, hR, hw, hq⟩ => ?_
  rw [hK]
  refine ⟨Z, env, _, hR, hw, fun r e1 v Z1 H1 R1 S1 V1 N1 w1 => ?_⟩
  obtain ⟨Y1, r', R1, S1, V1, pre1⟩ := src_pre R1 S1 V1 N1
  obtain ⟨is, d, sr, xs, ex, w2⟩ := pre1 R1 V1 w1
  have now : Ltr G is σ Y1 H1 e1 σ Y1 H1 e1 := ⟨R1, fun _ z => z, fun _ _ _ h => h, fun _ _ _ _ => .inl ⟨rfl, rfl⟩⟩
  obtain ⟨k1, a1, vs1, rfl, q1, rr1, hk1⟩ := (sr.later now).seq ex
  refine ⟨a1, k1, vs1, rfl, q1, hq _ _ e1 _ Y1 H1 R1 S1 (fun σ' Z' H' env' l => ?_) w2⟩
  obtain ⟨us1, p1, t1⟩ := sqx_of hk1 ex (sr.later l)
  have l1 := t1.length
  refine ⟨fun i d e => ?_, us1, p1, by rw [enumD_len]; omega⟩
  obtain ⟨x, g1, rfl⟩ := enumD_get e
  obtain ⟨u1, f1, c1⟩ := t1.get g1
  refine ⟨⟨us1, p1, (List.getElem?_eq_some_iff.mp f1).1⟩, fun z H'' hy => ?_⟩
  obtain ⟨T, x', rfl, hT, rfl, hy⟩ := hy
  have o1 := hy us1 p1
  rw [f1] at o1; cases o1
  rw [Nat.zero_add]
  obtain ⟨Z3, R3, S3, V3, N3⟩ := (Out.tup hT (.cons (.int _) (.cons c1 .nil))).run l.rel
  exact ⟨Z3, R3, S3, V3⟩
theorem rng_ok (m : Int) (n : Nat) : WalkOk G [] ((List.range n).map fun (k : Nat) => D.int (m + k)) (Itr m n) σ Z H env := fun σ' Z' H' env' l => by
  refine ⟨fun i d e => ?_, by show n ≤ _; simp⟩
  rw [List.getElem?_map] at e
  obtain ⟨k, ek, rfl⟩ := Option.map_eq_some_iff.mp e
  obtain ⟨h1, h2⟩ := List.getElem?_eq_some_iff.mp ek
  rw [List.getElem_range] at h2
  subst h2
  refine ⟨by show i < n; simpa using h1, fun x H'' ⟨q1, q2⟩ => ?_⟩
  subst q1 q2
  exact ⟨Z', l.rel, .refl, .int _⟩
theorem s_r1 {b : Ex} {tg e : Expr} {p pos : Pos} (hg : Gl X "range") (hm : X.mg "range" = none) (ha : PE X e (tE Γ R G b)) (hs : starEach [e] X.env = [(false, eval e X.env)]) : PI X tg (.Call (.Name "range" p) [e] [] pos) (tI Γ R G (.rng1 b)) := by
  refine pi_imp (pi_range1 hg hm (pa_cons ha pa_nil hs) hs) fun σ H Q ⟨Z, env, Q0, hR, hw, hq⟩ => ?_
  refine ⟨Z, env, _, hR, hw, fun r e1 v Z1 H1 R1 S1 V1 N1 w1 => ?_⟩
  obtain ⟨d, t, n, rfl, ⟨h1, h2⟩, w⟩ := rd_ok R1 V1 w1
  cases t.int
  refine ⟨n, rfl, h1, h2, hq _ _ e1 _ Z1 H1 R1 S1 ?_ w⟩
  have := rng_ok (G := G) (σ := σ) (Z := Z1) (H := H1) (env := e1) 0 n.toNat
  simpa using this
theorem s_r2 {b b2 : Ex} {tg e e2 : Expr} {p pos : Pos} (hg : Gl X "range") (hm : X.mg "range" = none) (ha : PE X e (tE Γ R G b)) (hb : PE X e2 (tE Γ R G b2)) (hs : starEach [e, e2] X.env = [(false, eval e X.env), (false, eval e2 X.env)]) (hs2 : starEach [e2] X.env = [(false, eval e2 X.env)]) :
    PI X tg (.Call (.Name "range" p) [e, e2] [] pos) (tI Γ R G (.rng2 b b2)) := by
  refine pi_imp (pi_range2 hg hm (pa_cons ha (pa_cons hb pa_nil hs2) (by rw [hs, hs2])) hs hs2) fun σ H Q ⟨Z, env, Q0, hR, hw, hq⟩ => ?_
  refine ⟨Z, env, _, hR, hw, fun r e1 v Z1 H1 R1 S1 V1 N1 w1 => ⟨Z1, e1, _, R1, w1, fun r2 e2 v2 Z2 H2 R2 S2 V2 N2 w2 => ?_⟩⟩
  obtain ⟨d, t, w2⟩ := rd_ok R2 (S2.repR R1 V1) w2
  obtain ⟨d2, t2, m, n, rfl, rfl, hb, w⟩ := rd_ok R2 V2 w2
  cases t.int
  cases t2.int
  exact ⟨m, n, rfl, hb, hq _ _ e2 _ Z2 H2 R2 (S1.trans S2) (rng_ok m _) w⟩
theorem s_r3 {b b2 b3 : Ex} {tg e e2 e3 : Expr} {p pos : Pos} (hg : Gl X "range") (hm : X.mg "range" = none) (ha : PE X e (tE Γ R G b)) (hb : PE X e2 (tE Γ R G b2)) (hc : PE X e3 (tE Γ R G b3))
    (hs : starEach [e, e2, e3] X.env = (false, eval e X.env) :: starEach [e2, e3] X.env) (hs2 : starEach [e2, e3] X.env = (false, eval e2 X.env) :: starEach [e3] X.env) (hs3 : starEach [e3] X.env = (false, eval e3 X.env) :: starEach [] X.env) (hpl : (backTo pos (starEach [e2, e3] X.env)).any (·.1) = false) :
    PI X tg (.Call (.Name "range" p) [e, e2, e3] [] pos) (tI Γ R G (.rng3 b b2 b3)) := by
  refine pi_imp (pi_range3 hg hm (pa_cons ha (pa_cons hb (pa_cons hc pa_nil hs3) hs2) hs) hs hpl) fun σ H Q ⟨Z, env, Q0, hR, hw, hq⟩ => ?_
  refine ⟨Z, env, _, hR, hw, fun r e1 v Z1 H1 R1 S1 V1 N1 w1 => ⟨Z1, e1, _, R1, w1, fun r2 e2 v2 Z2 H2 R2 S2 V2 N2 w2 => ⟨Z2, e2, _, R2, w2, fun r3 e3 v3 Z3 H3 R3 S3 V3 N3 w3 => ?_⟩⟩⟩
  obtain ⟨d, t, w3⟩ := rd_ok R3 (S3.repR R2 (S2.repR R1 V1)) w3
  obtain ⟨d2, t2, w3⟩ := rd_ok R3 (S3.repR R2 V2) w3
  obtain ⟨d3, t3, m, n, rfl, rfl, rfl, hb, w⟩ := rd_ok R3 V3 w3
  cases t.int
  cases t2.int
  cases t3.int
  refine ⟨m, n, -1, (m - n).toNat, rfl, RgC.neg hb.1 hb.2.1 hb.2.2.1 hb.2.2.2, hq _ _ e3 _ Z3 H3 R3 ((S1.trans S2).trans S3) (fun σ' Z' H' env' l => ?_) w⟩
  refine ⟨fun i d e => ?_, by show (m - n).toNat ≤ _; simp⟩
  rw [List.getElem?_map] at e
  obtain ⟨k, ek, rfl⟩ := Option.map_eq_some_iff.mp e
  obtain ⟨h1, h2⟩ := List.getElem?_eq_some_iff.mp ek
  rw [List.getElem_range] at h2
  subst h2
  refine ⟨by show i < (m - n).toNat; simpa using h1, fun x H'' ⟨q1, q2⟩ => ?_⟩
  subst q1 q2
  refine ⟨Z', l.rel, .refl, ?_⟩
  rw [show m + (i : Int) * -1 = m - i by omega]
  exact .int _
/-- a new dict of nobody is locked, and kept for good -/
theorem Rel.lockNew (R : Rel G σ Z H env) {ks : List (Key × V)} {a : Addr} (nz : ¬ Z a) (no : ¬ Ow σ env a) (h0 : G.H0 a = none) (hd : H a = some (.dK ks)) (od : Obj) : Rel G σ (Zi Z a) (upd H a (.frz od (.dK ks))) env := by
  have hk : ∀ b u, b ≠ a → H b = some u → upd H a (.frz od (.dK ks)) b = some u := fun b u n h => by rw [upd_ne n]; exact h
  have zk : ∀ b u, Z b → H b = some u → upd H a (.frz od (.dK ks)) b = some u := fun b u z h => hk b u (fun q => nz (by rw [← q]; exact z)) h
  refine ⟨R.len, fun i d h => ?_, fun i d h => ?_, fun i d h => ?_, fun i d h => ?_, R.inj, fun b z => .inl (R.z0 b z), fun b z => ?_, fun b z => ?_, fun b u hb n => ?_, fun b u hb => ?_, R.xc.mono (fun b z => .inl z) zk⟩
  · obtain ⟨v, e, r⟩ := R.im i d h
    exact ⟨v, e, r.mono (fun b z => .inl z) zk⟩
  · obtain ⟨b, e, nb, hb, t⟩ := R.ow i d h
    have na : b ≠ a := fun q => no ⟨i, ⟨d, .inl h⟩, by rw [← q]; exact e⟩
    exact ⟨b, e, fun z => z.elim nb na, hb, t.mono (fun b z => .inl z) zk (fun u h => hk b u na h)⟩
  · obtain ⟨e, nb, hb, t⟩ := R.io i d h
    have na : G.ad i ≠ a := fun q => no ⟨i, ⟨d, .inr h⟩, by rw [← q]; exact e⟩
    exact ⟨e, fun z => z.elim nb na, hb, t.mono (fun b z => .inl z) zk (fun u h => hk _ u na h)⟩
  · obtain ⟨b, e, nb, l⟩ := R.lk i d h
    have na : b ≠ a := fun q => by
      subst q
      cases l with
      | dct hh r => rw [hh] at hd; cases hd
    exact ⟨b, e, fun z => z.elim nb na, l.mono (fun b z => .inl z) zk (fun u h => hk b u na h)⟩
  · exact z.elim (R.z1 b) fun e => .inr (by rw [e]; exact h0)
  · exact z.elim (fun z => by obtain ⟨u, h⟩ := R.zt b z; exact ⟨u, zk b u z h⟩) fun e => by rw [e]; exact ⟨_, upd_same⟩
  · refine hk b u (fun q => ?_) (R.keep b u hb n)
    subst q
    rw [h0] at hb; cases hb
  · by_cases q : b = a
    · exact ⟨_, by rw [q]; exact upd_same⟩
    · obtain ⟨w, hw⟩ := R.tr b u hb
      exact ⟨w, hk b w q hw⟩
theorem pe_lkA {e : Expr} {t : TE} (h : PE X e t) : PE X e (fun σ H Q => t σ H fun x H1 => ∃ a kvs, x = V.ref a ∧ H1 a = some (.dK kvs) ∧ ∀ od, Q (V.ref a) (upd H1 a (.frz od (.dK kvs)))) := by
  refine ⟨fun pins s σ H Q I hw => ?_⟩
  refine thn (h.run pins s σ _ _ I hw) fun v s1 ⟨x, H1, I1, r, a, kvs, ex, hd, q⟩ => ?_
  obtain ⟨od, I2⟩ := I1.lock hd trivial
  subst ex
  exact ⟨_, _, I2, r, q od⟩
theorem RepKs.gt {K : PySem.W.Frag} : ∀ {kvs : List (Key × V)} {kds : List (Key × D)} {i : Nat} {d : D}, RepKs K Z H kvs kds → (kds.map (·.2))[i]? = some d → ∃ k v, kvs[i]? = some (k, v) ∧ Rep K Z H v d
  | _, _, _, _, .nil, e => by simp at e
  | _, _, 0, _, .cons h _, e => by simp at e; subst e; exact ⟨_, _, rfl, h⟩
  | _, _, i + 1, d, .cons _ r, e => by
    obtain ⟨k, v, h1, h2⟩ := RepKs.gt (i := i) (d := d) r (by simpa using e)
    exact ⟨k, v, by simpa using h1, h2⟩
theorem s_vals {b : Ex} {tg e : Expr} {apos cpos : Pos} (ha : PE X e (tE Γ R G b)) (hb : attributeBase e "values" X.env (eval e X.env) = eval e X.env) (hl : (apos.endLine == cpos.line) = true) :
    PI X tg (.Call (.Attribute e "values" apos) [] [] cpos) (tI Γ R G (.vals b)) := by
  refine pi_imp (pi_values (pe_lkA ha) hb hl) fun σ H Q ⟨Z, env, Q0, hR, hw, hq⟩ => ?_
  refine ⟨Z, env, _, hR, hw, fun r e1 v Z1 H1 R1 S1 V1 N1 w1 => ?_⟩
  obtain ⟨kvs, rfl, w⟩ := w1
  obtain ⟨a, rfl, nz, no, h0, t⟩ := V1
  cases t with
  | dct hd r =>
    rename_i ks
    refine ⟨a, ks, rfl, hd, fun od => ⟨a, od, ks, rfl, upd_same, ?_⟩⟩
    have R2 := R1.lockNew nz no h0 hd od
    have zk : ∀ b u, Z1 b → H1 b = some u → upd H1 a (.frz od (.dK ks)) b = some u := fun b u z h => by rw [upd_ne (fun q => nz (by rw [← q]; exact z))]; exact h
    have na : H a = none := N1 a rfl
    have S2 : Stp σ Z H env (Zi Z1 a) (upd H1 a (.frz od (.dK ks))) e1 := ⟨⟨fun b z => .inl (S1.grow.zz b z), fun b z => z.elim (S1.grow.zn b) fun q => .inr (.inr (by rw [q]; exact na)), fun b u h n => by
        rw [upd_ne (fun q => by rw [q, na] at h; cases h)]; exact S1.grow.hk b u h n, fun b u h => by
        rw [upd_ne (fun q => by rw [q, na] at h; cases h)]; exact S1.grow.tr b u h⟩, S1.sub⟩
    have r2 : RepKs G.K (Zi Z1 a) (upd H1 a (.frz od (.dK ks))) ks kvs := r.mono (fun _ z => .inl z) zk
    have ln := r2.length
    refine hq _ _ e1 _ _ _ R2 S2 (fun σ' Z' H' env' l => ?_) w
    have hd' := l.hk a _ (.inr rfl) upd_same
    have r3 := r2.mono l.zz l.hk
    refine ⟨fun i d e => ?_, hd', by rw [List.length_map, ln]; exact Nat.le_refl _⟩
    obtain ⟨k, v, e3, rv⟩ := r3.gt e
    refine ⟨⟨hd', (List.getElem?_eq_some_iff.mp e3).1⟩, fun x H'' ⟨q1, k', q2⟩ => ?_⟩
    rw [e3] at q2
    cases q2
    subst q1
    exact ⟨Z', l.rel, .refl, rv⟩
theorem s_srs {a : Ex} {x : Expr} {p p2 pos pos2 : Pos} (hc : X.calm = true) (hK : X.K = G.K) (hg : Gl X "sorted") (hm : X.mg "sorted" = none) (hg2 : Gl X "set") (hm2 : X.mg "set" = none) (ha : PE X x (tE Γ R G a))
    (hs : starEach [x] X.env = (false, eval x X.env) :: starEach [] X.env) (hl : starEach [Expr.Call (.Name "set" p2) [x] [] pos2] X.env = (false, eval (Expr.Call (.Name "set" p2) [x] [] pos2) X.env) :: starEach [] X.env) :
    PE X (.Call (.Name "sorted" p) [.Call (.Name "set" p2) [x] [] pos2] [] pos) (tE Γ R G (.srs a)) := by
  refine pe_imp (pe_srs hc hg hm hg2 hm2 ha hs hl) fun σ H Q ⟨Z, env, Q0, hR, hw, hq⟩ => ?_
  refine ⟨Z, env, _, hR, hw, fun r1 e1 v1 Z1 H1 R1 S1 V1 _ w1 => ?_⟩
  obtain ⟨d, t, ds, ed, xs, es, h64, w⟩ := rd_ok R1 V1 w1
  obtain ⟨k, l, vs, rfl, hq1, r, _⟩ := t.seq ed
  obtain ⟨rfl, _⟩ := strs_of r es
  refine ⟨l, xs, rfl, ?_, h64, fun ys q hp hs' hq' => ?_⟩
  · rw [hK]
    cases k
    · exact .inr hq1
    · exact .inl hq1
  obtain ⟨Z3, R3, S3, V3, N3⟩ := (Out.lst hq' (reps_strs ys)).run R1
  exact hq _ e1 _ Z3 _ R3 (S1.trans S3) V3 (S1.repN N3) (w ys hp hs')
theorem reps_rg {K : PySem.W.Frag} {Z : Addr → Prop} {H : Hp} (m n : Int) : Reps K Z H (rgV m n) ((List.range (n - m).toNat).map fun (k : Nat) => D.int (m + k)) := by
  unfold rgV
  generalize List.range (n - m).toNat = l
  induction l with
  | nil => exact .nil
  | cons x l ih => exact .cons (.int _) ih
theorem s_lrg {a b : Ex} {x y : Expr} {p p2 pos pos2 : Pos} (hc : X.calm = true) (hg : Gl X "list") (hm : X.mg "list" = none) (hg2 : Gl X "range") (hm2 : X.mg "range" = none) (ha : PE X x (tE Γ R G a)) (hb : PE X y (tE Γ R G b))
    (hs : starEach [x, y] X.env = (false, eval x X.env) :: starEach [y] X.env) (hs2 : starEach [y] X.env = (false, eval y X.env) :: starEach [] X.env) (hp : (backTo pos2 (starEach [y] X.env)).any (·.1) = false)
    (hl : starEach [Expr.Call (.Name "range" p2) [x, y] [] pos2] X.env = (false, eval (Expr.Call (.Name "range" p2) [x, y] [] pos2) X.env) :: starEach [] X.env) :
    PE X (.Call (.Name "list" p) [.Call (.Name "range" p2) [x, y] [] pos2] [] pos) (tE Γ R G (.lrg a b)) := by
  refine pe_imp (pe_listRg hc hg hm (prg_2 hg2 hm2 ha hb hs hs2 hp) hl) fun σ H Q ⟨Z, env, Q0, hR, hw, hq⟩ => ?_
  refine ⟨Z, env, _, hR, hw, fun r1 e1 v1 Z1 H1 R1 S1 V1 _ w1 => ⟨Z1, e1, _, R1, w1, fun r2 e2 v2 Z2 H2 R2 S2 V2 _ w2 => ?_⟩⟩
  obtain ⟨d, t, w2⟩ := rd_ok R2 (S2.repR R1 V1) w2
  obtain ⟨d2, t2, m, n, rfl, rfl, hb, w⟩ := rd_ok R2 V2 w2
  cases t.int
  cases t2.int
  refine ⟨m, n, rfl, rfl, hb, fun q hq' => ?_⟩
  obtain ⟨Z3, R3, S3, V3, N3⟩ := (Out.lst hq' (reps_rg m n)).run R2
  exact hq _ e2 _ Z3 _ R3 ((S1.trans S2).trans S3) V3 ((S1.trans S2).repN N3) w
end
end TG
end
section
namespace TG
open PySem PySem.Spec PyProof.Rows L2

section
variable {Γ : Ga} {R : XP} {G : Gh} {X : Cx} {σ σ' : L2.St} {Z Z' Zs : Addr → Prop} {H H' Hs : Hp} {env env' env2 envs : Env} {v : V} {d : D} {a : Addr} {is js vs : List Nat}
theorem Rel.part (Rl : Rel G σ Z H env) (hl : env'.length = σ'.length) (h : ∀ (i : Nat) (s : Sl), env'[i]? = some s → s = .un ∨ (env[i]? = some s ∧ σ'[i]? = σ[i]?)) : Rel G σ' Z H env' := by
  have hk : ∀ i, ownk env' i → ownk env i ∧ σ'[i]? = σ[i]? := fun i q => by
    rcases q with ⟨d, q | q⟩ | ⟨d, q⟩
    · rcases h i _ q with q' | ⟨q', e⟩
      · cases q'
      · exact ⟨.inl ⟨d, .inl q'⟩, e⟩
    · rcases h i _ q with q' | ⟨q', e⟩
      · cases q'
      · exact ⟨.inl ⟨d, .inr q'⟩, e⟩
    · rcases h i _ q with q' | ⟨q', e⟩
      · cases q'
      · exact ⟨.inr ⟨d, q'⟩, e⟩
  refine ⟨hl, fun i d q => ?_, fun i d q => ?_, fun i d q => ?_, fun i d q => ?_, fun i j a hi hj e1 e2 => ?_, Rl.z0, Rl.z1, Rl.zt, Rl.keep, Rl.tr, Rl.xc.part fun j n f q => (h j _ q).elim (fun z => nomatch z) id⟩
  · rcases h i _ q with q' | ⟨q', e⟩
    · cases q'
    · rw [e]; exact Rl.im i d q'
  · rcases h i _ q with q' | ⟨q', e⟩
    · cases q'
    · rw [e]; exact Rl.ow i d q'
  · rcases h i _ q with q' | ⟨q', e⟩
    · cases q'
    · rw [e]; exact Rl.io i d q'
  · rcases h i _ q with q' | ⟨q', e⟩
    · cases q'
    · rw [e]; exact Rl.lk i d q'
  · rw [(hk i hi).2] at e1
    rw [(hk j hj).2] at e2
    exact Rl.inj i j a (hk i hi).1 (hk j hj).1 e1 e2
theorem wipeE_len (env : Env) : ∀ vs : List Nat, (wipeE env vs).length = env.length
  | [] => rfl
  | v :: vs => by rw [wipeE, List.length_set, wipeE_len env vs]
theorem wipeE_in (env : Env) {i : Nat} : ∀ {vs : List Nat}, i ∈ vs → ∀ s, (wipeE env vs)[i]? = some s → s = .un
  | v :: vs, h, s, e => by
    rw [wipeE] at e
    by_cases q : v = i
    · subst q
      by_cases l : v < (wipeE env vs).length
      · rw [List.getElem?_set_self l] at e; cases e; rfl
      · rw [List.getElem?_eq_none (by rw [List.length_set]; omega)] at e; cases e
    · rw [List.getElem?_set_ne q] at e
      exact wipeE_in env ((List.mem_cons.mp h).elim (fun z => absurd z.symm q) id) s e
theorem wipeE_out (env : Env) {i : Nat} : ∀ {vs : List Nat}, i ∉ vs → (wipeE env vs)[i]? = env[i]?
  | [], _ => rfl
  | v :: vs, h => by
    rw [wipeE, List.getElem?_set_ne (fun q => h (by simp [q])), wipeE_out env fun q => h (by simp [q])]
theorem wipe_in {i : Nat} : ∀ {vs : List Nat}, i ∈ vs → (wipe σ vs)[i]? = if i < σ.length then some none else none
  | v :: vs, h => by
    unfold wipe
    by_cases q : v = i
    · subst q
      by_cases l : v < σ.length
      · rw [List.getElem?_set_self (by rw [wipe_length]; exact l), if_pos l]
      · rw [List.getElem?_eq_none (by rw [List.length_set, wipe_length]; omega), if_neg l]
    · rw [List.getElem?_set_ne q]
      exact wipe_in ((List.mem_cons.mp h).elim (fun z => absurd z.symm q) id)
theorem wipe_ext {σ2 : L2.St} (hl : σ2.length = σ.length) (h : ∀ i, i ∉ vs → σ2[i]? = σ[i]?) : wipe σ2 vs = wipe σ vs := by
  refine List.ext_getElem? fun i => ?_
  by_cases q : i ∈ vs
  · rw [wipe_in q, wipe_in q, hl]
  · rw [wipe_out q, wipe_out q, h i q]
theorem Rel.wipe (Rl : Rel G σ Z H env) (vs : List Nat) : Rel G (wipe σ vs) Z H (wipeE env vs) := by
  refine Rl.part (by rw [wipeE_len, wipe_length]; exact Rl.len) fun i s e => ?_
  by_cases q : i ∈ vs
  · exact .inl (wipeE_in env q s e)
  · exact .inr ⟨by rw [← wipeE_out env q]; exact e, wipe_out q⟩
theorem Rel.unwipe (Rl : Rel G (L2.wipe σ vs) Z H (wipeE env vs)) : Rel G σ Z H (wipeE env vs) := by
  refine Rl.part (by have := Rl.len; rw [wipe_length] at this; exact this) fun i s e => ?_
  by_cases q : i ∈ vs
  · exact .inl (wipeE_in env q s e)
  · exact .inr ⟨e, (wipe_out q).symm⟩
theorem own_wipe {i : Nat} (h : own (wipeE env vs) i) : own env i ∧ i ∉ vs := by
  obtain ⟨d, h⟩ := h
  by_cases q : i ∈ vs
  · rcases h with h | h
    · cases wipeE_in env q _ h
    · cases wipeE_in env q _ h
  · rw [wipeE_out env q] at h
    exact ⟨⟨d, h⟩, q⟩
theorem Stp.wipe (s : Stp σ Z H env Z' H' env') (vs : List Nat) : Stp σ Z H env Z' H' (wipeE env' vs) := ⟨s.grow, fun i h => s.sub i (own_wipe h).1⟩
/-- a thing of nobody is rewritten -/
theorem Rel.poke {o u : HO} (Rl : Rel G σ Z H env) (ha : H a = some u) (mu : Mut (some u)) (nz : ¬ Z a) (no : ¬ Ow σ env a) (h0 : G.H0 a = none) : Rel G σ Z (upd H a o) env := by
  have k : ∀ b w, b ≠ a → H b = some w → upd H a o b = some w := fun b w n h => by rw [upd_ne n]; exact h
  have zk : ∀ b w, Z b → H b = some w → upd H a o b = some w := fun b w z h => k b w (fun q => nz (by rw [← q]; exact z)) h
  refine ⟨Rl.len, fun i d h => ?_, fun i d h => ?_, fun i d h => ?_, fun i d h => ?_, Rl.inj, Rl.z0, Rl.z1, fun b z => ?_, fun b w h n => ?_, fun b w h => ?_, Rl.xc.mono (fun b z => z) zk⟩
  · obtain ⟨v, e, r⟩ := Rl.im i d h
    exact ⟨v, e, r.mono (fun b z => z) zk⟩
  · obtain ⟨b, e, nzb, hb, t⟩ := Rl.ow i d h
    exact ⟨b, e, nzb, hb, t.mono (fun b z => z) zk fun w => k b w fun q => no ⟨i, ⟨d, .inl h⟩, by rw [← q]; exact e⟩⟩
  · obtain ⟨e, nzb, hb, t⟩ := Rl.io i d h
    exact ⟨e, nzb, hb, t.mono (fun b z => z) zk fun w => k _ w fun q => no ⟨i, ⟨d, .inr h⟩, by rw [← q]; exact e⟩⟩
  · obtain ⟨b, e, nzb, t⟩ := Rl.lk i d h
    refine ⟨b, e, nzb, t.mono (fun b z => z) zk fun w => k b w fun q => ?_⟩
    subst q
    cases t with
    | dct hh r => rw [ha] at hh; cases hh; exact mu
  · obtain ⟨w, h⟩ := Rl.zt b z; exact ⟨w, zk b w z h⟩
  · exact k b w (fun q => by rw [q, h0] at h; cases h) (Rl.keep b w h n)
  · obtain ⟨x, e⟩ := Rl.tr b w h
    by_cases q : b = a
    · exact ⟨o, by rw [q]; exact upd_same⟩
    · exact ⟨x, k b x q e⟩
theorem Stp.poke {o : HO} (s : Stp σ Z H env Z' H' env') (ha : H a = none) : Stp σ Z H env Z' (upd H' a o) env' :=
  ⟨⟨s.grow.zz, s.grow.zn, fun b u h n => by rw [upd_ne (ne_of_none h ha)]; exact s.grow.hk b u h n, fun b u h => by rw [upd_ne (ne_of_none h ha)]; exact s.grow.tr b u h⟩, s.sub⟩
def WalkOk2 (G : Gh) (is : List Nat) (its : List TG.D) (J : It) (σ : L2.St) (Z : Addr → Prop) (H : Hp) (env : Env) : Prop := ∀ σ' Z' H' env', Ltr G is σ Z H env σ' Z' H' env' → (∀ b o, H b = some o → ¬ Ow σ env b → H' b = some o) →
  (∀ i d, its[i]? = some d → J.go i H' ∧ ∀ x H'', J.yld i H' x H'' → ∃ Z'', Rel G σ' Z'' H'' env' ∧ Stp σ' Z' H' env' Z'' H'' env' ∧ Rep G.K Z'' H'' x d) ∧ J.stop its.length H'
theorem comp_core {tg : Tg} {c e : Ex} {Q : VK} {okp : Env → Prop} {K0 : List TG.D → Env → Prop} {its : List TG.D} {e1 : Env} {J : It} {Z1 : Addr → Prop} {H1 : Hp} (hnm : ∀ i ∈ tg.nms, i ∈ vs) (R1 : Rel G σ Z1 H1 e1) (wk : WalkOk2 G is its J σ Z1 H1 e1)
    (hst : ∀ ev, okp ev → stays is e1 (wipeE ev vs)) (hlen : its.length ≤ sizeLine)
    (w1 : compW (fun (d : TG.D) (e2 : Env) (k : Option TG.D → Env → Prop) => bindT tg d (wipeE e2 vs) fun e3 => (sem Γ c).T noX e3 fun b e4 => if b = true then (sem Γ e).E noX e4 fun r e5 => fz r e5 fun y e6 => k (some y) e6 else k none e4) okp its [] e1 K0)
    (hq : ∀ acc ev D Z' H', Rel G σ Z' H' (wipeE ev vs) → Stp σ Z1 H1 e1 Z' H' (wipeE ev vs) → RepR G σ Z' H' (wipeE ev vs) (.fr (.lst acc)) (.ref D) → H1 D = none → okp ev → K0 acc ev → Q (.ref D) H') :
    tLc (fun _ H R => R J H) (tG G tg) (tT Γ noX G c) (tE Γ noX G e) vs σ H1 Q := by
  show ∀ D, H1 D = none → _
  intro D hD
  generalize hturn : (fun (d : TG.D) (e2 : Env) (k : Option TG.D → Env → Prop) => bindT tg d (wipeE e2 vs) fun e3 => (sem Γ c).T noX e3 fun b e4 => if b = true then (sem Γ e).E noX e4 fun r e5 => fz r e5 fun y e6 => k (some y) e6 else k none e4) = turn at w1
  have hD0 : G.H0 D = none := R1.h0n hD
  let W : Nat → Nat → Hp → Prop := fun n m H' => m = its.length - n ∧ n ≤ its.length ∧ ∃ Z' ev acc ws, Rel G (wipe σ vs) Z' H' (wipeE ev vs) ∧ Stp σ Z1 H1 e1 Z' H' (wipeE ev vs) ∧ H' D = some (.lst ws) ∧ Reps G.K Z' H' ws acc ∧ ¬ Z' D ∧ ¬ Ow (wipe σ vs) (wipeE ev vs) D ∧ acc.length ≤ n ∧
    compW turn (fun e2 => okp e2) (its.drop n) acc ev K0
  refine ⟨W, ⟨its.length, ?_⟩, ?_⟩
  · refine ⟨by simp, Nat.zero_le _, Z1, e1, [], [], (R1.fresh hD).wipe vs, (Stp.fresh hD).wipe vs, upd_same, .nil, R1.zn hD, fun ⟨i, oi, es⟩ => ?_, Nat.zero_le _, by simpa using w1⟩
    obtain ⟨o1, n1⟩ := own_wipe oi
    rw [wipe_out n1] at es
    exact R1.on hD ⟨i, o1, es⟩
  rintro n m H' ⟨rfl, hn, Z', ev, acc, ws, R2, S2, hl, rr, nz, no, ha, w2⟩
  have ltr : stays is e1 (wipeE ev vs) → Ltr G is σ Z1 H1 e1 (wipe σ vs) Z' H' (wipeE ev vs) := fun st => by
    refine ⟨R2, S2.grow.zz, fun b o z h => S2.grow.hk b o h (R1.nO z), fun i hi d hd => .inl ⟨st i hi, ?_⟩⟩
    have z := st i hi
    by_cases q : i ∈ vs
    · rcases hd with hd | hd
      · rw [hd] at z; cases wipeE_in ev q _ z
      · rw [hd] at z; cases wipeE_in ev q _ z
    · exact wipe_out q
  by_cases hlt : n < its.length
  · right
    rw [List.drop_eq_getElem_cons hlt] at w2
    obtain ⟨st, w2⟩ := (show _ ∧ _ from w2)
    have hgo := (wk _ _ _ _ (ltr (hst _ st)) fun b o h no => S2.grow.hk b o h no).1 n its[n] (List.getElem?_eq_getElem hlt)
    refine ⟨hgo.1, W (n + 1) (its.length - (n + 1)), fun H' q => ⟨_, by omega, q⟩, fun x H'' hy => ?_⟩
    obtain ⟨Z3, R3, S3, r3⟩ := hgo.2 x H'' hy
    subst hturn
    refine ⟨Z3, _, its[n], _, R3, r3, w2, fun env4 σ4 H4 R4 t4 w4 => ⟨wipe_ext (by rw [t4.len, wipe_length]) fun i hi => ?_, ?_⟩⟩
    · rw [t4.off i fun q => hi (hnm i q), wipe_out hi]
    have hwσ : wipe σ4 vs = wipe σ vs := wipe_ext (by rw [t4.len, wipe_length]) fun i hi => by rw [t4.off i fun q => hi (hnm i q), wipe_out hi]
    -- the turn's end
    have fin : ∀ {Z5 : Addr → Prop} {H5 : Hp} {e5 : Env}, Rel G σ4 Z5 H5 e5 → Stp σ4 Z3 H4 env4 Z5 H5 e5 → H5 D = some (.lst ws) ∧ Reps G.K Z5 H5 ws acc ∧ ¬ Z5 D ∧ ¬ Ow σ4 e5 D ∧ Stp σ Z1 H1 e1 Z5 H5 e5 := fun {Z5 H5 e5} R5 S5 => by
      have S' : Stp (wipe σ vs) Z' H' (wipeE ev vs) Z5 H5 e5 := S3.trans (t4.stp.trans (S5.sig t4.own))
      have no5 : ¬ Ow σ4 e5 D := fun ⟨i, oi, es⟩ => by
        have o4 := S5.sub i oi
        rw [t4.own i o4] at es
        exact no ⟨i, S'.sub i oi, es⟩
      refine ⟨S'.grow.hk D _ hl no, S'.reps R2 rr, fun z => ?_, no5, S2.trans (S'.sig fun i oi => (wipe_out (own_wipe oi).2))⟩
      rcases S'.grow.zn D z with z | z | z
      · exact nz z
      · exact no z
      · rw [hl] at z; cases z
    refine ⟨Z3, env4, _, R4, w4, fun k e5 Z5 H5 R5 S5 w5 => ?_⟩
    cases k with
    | false =>
      rw [if_neg Bool.false_ne_true] at w5 ⊢
      obtain ⟨f1, f2, f3, f4, f5⟩ := fin R5 S5
      refine ⟨rfl, hlt, Z5, e5, acc, ws, by rw [← hwσ]; exact R5.wipe vs, f5.wipe vs, f1, f2, f3, fun ⟨i, oi, es⟩ => ?_, by omega, w5⟩
      obtain ⟨o1, n1⟩ := own_wipe oi
      rw [← hwσ, wipe_out n1] at es
      exact f4 ⟨i, o1, es⟩
    | true =>
      rw [if_pos rfl] at w5 ⊢
      refine ⟨Z5, e5, _, R5, w5, fun r e6 y Z6 H6 R6 S6 V6 N6 w6 => ?_⟩
      obtain ⟨dy, e7, Z7, R7, S7, r7, w7⟩ := fz_ok R6 S6 V6 N6 w6
      obtain ⟨f1, f2, f3, f4, f5⟩ := fin R7 (S5.trans S7)
      have hlw := rr.length
      refine ⟨ws, f1, by omega, rfl, hlt, Z7, e7, acc ++ [dy], ws ++ [y], ?_, (f5.poke hD).wipe vs, upd_same, ?_, f3, fun ⟨i, oi, es⟩ => ?_, by simp; omega, w7⟩
      · rw [← hwσ]
        exact (R7.poke f1 trivial f3 f4 hD0).wipe vs
      · have zk : ∀ b w, Z7 b → H6 b = some w → upd H6 D (.lst (ws ++ [y])) b = some w := fun b w z h => by rw [upd_ne (fun q => f3 (by rw [← q]; exact z))]; exact h
        exact (f2.mono (fun _ z => z) zk).append (.cons (r7.mono (fun _ z => z) zk) .nil)
      · obtain ⟨o1, n1⟩ := own_wipe oi
        rw [← hwσ, wipe_out n1] at es
        exact f4 ⟨i, o1, es⟩
  · left
    have e : n = its.length := by omega
    subst e
    rw [List.drop_length] at w2
    obtain ⟨st, w2⟩ := (show _ ∧ _ from w2)
    have no' : ¬ Ow σ (wipeE ev vs) D := fun ⟨i, oi, es⟩ => by
      obtain ⟨o1, n1⟩ := own_wipe oi
      exact no ⟨i, oi, by rw [wipe_out n1]; exact es⟩
    exact ⟨(wk _ _ _ _ (ltr (hst _ st)) fun b o h no => S2.grow.hk b o h no).2, hq acc ev D Z' H' R2.unwipe S2 ⟨D, rfl, nz, no', hD0, .lst hl rr⟩ hD st w2⟩
theorem comp_sem {tg : Tg} {it c e : Ex} {Q : VK} (hnm : ∀ i ∈ tg.nms, i ∈ vs) (hx : tE Γ R G (.comp vs tg it c e) σ H Q) : tLc (tI Γ R G it) (tG G tg) (tT Γ noX G c) (tE Γ noX G e) vs σ H Q := by
  obtain ⟨Z, env, Q0, hR, hw, hq⟩ := hx
  refine ⟨Z, env, _, hR, hw, fun is its e1 J Z1 H1 R1 S1 wk w1 => ?_⟩
  obtain ⟨hlen, w1⟩ := w1
  exact comp_core (okp := fun e2 => stays is e1 (wipeE e2 vs)) hnm R1 (fun σ' Z' H' env' l _ => wk σ' Z' H' env' l) (fun _ h => h) hlen w1 fun acc ev D Z' H' R2 S2 V2 hD _ k => hq (.fr (.lst acc)) _ (.ref D) Z' H' R2 (S1.trans S2) V2 (fun a e => by cases e; exact S1.nn hD) k
theorem s_comp {tg : Tg} {it c e : Ex} {elt tgE iter : Expr} {ifs : List Expr} {scope : Scope} {own : List (Str × Nat)} {pos : Pos} (hc : X.calm = true) (hN : X.N.Nodup) (hi : PI X tgE iter (tI Γ R G it)) (ok : BlkOk X.N X.env.scope scope own) (hv : own.map (·.2) = vs)
    (hg : ∀ (s : Shared) (H : Hp) (C : Addr) (cl : List (Str × Addr)) (fp : List Addr), PG (X.blk s H scope (compEnvC scope cl C X.env) fp) tgE (tG G tg)) (ht : ∀ (s : Shared) (H : Hp) (C : Addr) (cl : List (Str × Addr)) (fp : List Addr), PTs (X.blk s H scope (compEnvC scope cl C X.env) fp) ifs (tT Γ noX G c))
    (he : ∀ (s : Shared) (H : Hp) (C : Addr) (cl : List (Str × Addr)) (fp : List Addr), PE (X.blk s H scope (compEnvC scope cl C X.env) fp) elt (tE Γ noX G e)) (hnm : ∀ i ∈ tg.nms, i ∈ vs) (hs : ∀ x, foldedSetIterable iter X.env x = pure x) :
    PE X (.ListComp elt [⟨tgE, iter, ifs, 0⟩] scope pos) (tE Γ R G (.comp vs tg it c e)) := by
  have base := pe_lc (pos := pos) hc hN hi ok hg ht he hs
  rw [hv] at base
  exact pe_imp base fun σ H Q hx => comp_sem hnm hx
end
end TG
end
section
namespace TG
open PySem PySem.Spec PyProof.Rows L2
section
variable {Γ : Ga} {R : XP} {G : Gh} {X : Cx} {σ σ' : L2.St} {Z Z' Zs : Addr → Prop} {H H' Hs : Hp} {env env' env2 envs : Env} {v : V} {d : D} {a : Addr} {is js vs : List Nat}
/-- what a slot of ours, locked or not, says of its thing -/
def SlOk (G : Gh) (Z : Addr → Prop) (H : Hp) (a : Addr) : Sl → Prop
  | .ow d => G.H0 a = none ∧ Top G.K Z H a d
  | .lk d => Lkd G.K Z H a d
  | _ => False
/-- a slot's own thing is locked, or free again -/
theorem Rel.swap (Rl : Rel G σ Z H env) {i : Nat} {s' : Sl} {o : HO} (hi : ownk env i) (e : σ[i]? = some (some (V.ref a))) (nz : ¬ Z a) (h0 : G.H0 a = none ∨ G.S a)
    (ok : SlOk G Z (upd H a o) a s' ∨ ∃ d, s' = .io d ∧ a = G.ad i ∧ G.S a ∧ Top G.K Z (upd H a o) a d) : Rel G σ Z (upd H a o) (env.set i s') := by
  have il : i < env.length := by
    by_cases l : i < env.length
    · exact l
    · have : env[i]? = none := List.getElem?_eq_none (by omega)
      rcases hi with ⟨d, q | q⟩ | ⟨d, q⟩ <;> (rw [this] at q; cases q)
  have hk : ∀ b u, b ≠ a → H b = some u → upd H a o b = some u := fun b u n h => by rw [upd_ne n]; exact h
  have zk : ∀ b u, Z b → H b = some u → upd H a o b = some u := fun b u z h => hk b u (fun q => nz (by rw [← q]; exact z)) h
  have self : ∀ {s : Sl}, (env.set i s')[i]? = some s → s = s' := fun {s} h => by rw [List.getElem?_set_self il] at h; exact (Option.some.inj h).symm
  have other : ∀ {j : Nat} {s : Sl}, i ≠ j → (env.set i s')[j]? = some s → env[j]? = some s := fun {j s} n h => by rwa [List.getElem?_set_ne n] at h
  have subk : ∀ j, ownk (env.set i s') j → ownk env j := fun j hj => by
    by_cases q : i = j
    · subst q; exact hi
    · rcases hj with ⟨d, hj | hj⟩ | ⟨d, hj⟩
      · exact .inl ⟨d, .inl (other q hj)⟩
      · exact .inl ⟨d, .inr (other q hj)⟩
      · exact .inr ⟨d, other q hj⟩
  have apart : ∀ {j : Nat} {b : Addr}, i ≠ j → ownk env j → σ[j]? = some (some (V.ref b)) → b ≠ a := fun {j b} n hj e2 z => by
    subst z
    exact n (Rl.inj i j b hi hj e e2)
  refine ⟨by rw [List.length_set]; exact Rl.len, fun j c hj => ?_, fun j c hj => ?_, fun j c hj => ?_, fun j c hj => ?_, fun j k b hj hk => Rl.inj j k b (subk j hj) (subk k hk), Rl.z0, Rl.z1, fun b z => ?_, fun b u hb n => ?_, fun b u hb => ?_, (Rl.xc.mono (fun b z => z) zk).set fun _ _ q => by
    subst q
    rcases ok with ok | ⟨_, z, _⟩
    · exact ok.elim
    · cases z⟩
  · by_cases q : i = j
    · subst q
      have := self hj
      subst this
      rcases ok with ok | ⟨_, z, _⟩
      · exact ok.elim
      · cases z
    · obtain ⟨w, e2, r⟩ := Rl.im j c (other q hj)
      exact ⟨w, e2, r.mono (fun b z => z) zk⟩
  · by_cases q : i = j
    · subst q
      have := self hj
      subst this
      rcases ok with ok | ⟨_, z, _⟩
      · exact ⟨a, e, nz, ok.1, ok.2⟩
      · cases z
    · have hj := other q hj
      obtain ⟨b, e2, nb, hb, t⟩ := Rl.ow j c hj
      exact ⟨b, e2, nb, hb, t.mono (fun b z => z) zk fun u h => hk b u (apart q (.inl ⟨c, .inl hj⟩) e2) h⟩
  · by_cases q : i = j
    · subst q
      have := self hj
      subst this
      rcases ok with ok | ⟨d, z, ea, hS, t⟩
      · exact ok.elim
      · cases z
        subst ea
        exact ⟨e, nz, hS, t⟩
    · have hj := other q hj
      obtain ⟨e2, nb, hb, t⟩ := Rl.io j c hj
      exact ⟨e2, nb, hb, t.mono (fun b z => z) zk fun u h => hk _ u (apart q (.inl ⟨c, .inr hj⟩) e2) h⟩
  · by_cases q : i = j
    · subst q
      have := self hj
      subst this
      rcases ok with ok | ⟨_, z, _⟩
      · exact ⟨a, e, nz, ok⟩
      · cases z
    · have hj := other q hj
      obtain ⟨b, e2, nb, t⟩ := Rl.lk j c hj
      exact ⟨b, e2, nb, t.mono (fun b z => z) zk fun u h => hk b u (apart q (.inr ⟨c, hj⟩) e2) h⟩
  · obtain ⟨u, h⟩ := Rl.zt b z; exact ⟨u, zk b u z h⟩
  · refine hk b u (fun q => ?_) (Rl.keep b u hb n)
    subst q
    rcases h0 with h0 | h0
    · rw [h0] at hb; cases hb
    · exact n h0
  · by_cases q : b = a
    · exact ⟨o, by rw [q]; exact upd_same⟩
    · obtain ⟨w, hw⟩ := Rl.tr b u hb
      exact ⟨w, hk b w q hw⟩
theorem kV_rep {K : PySem.W.Frag} : ∀ k : Key, Rep K Z H (kV k) (kD k)
  | .inl i => .int i
  | .inr x => .str x
theorem RepKs.get {K : PySem.W.Frag} : ∀ {kvs : List (Key × V)} {kds : List (Key × TG.D)} {i : Nat} {kd : Key × TG.D}, RepKs K Z H kvs kds → kds[i]? = some kd → ∃ v, kvs[i]? = some (kd.1, v) ∧ Rep K Z H v kd.2
  | _, _, _, _, .nil, e => by simp at e
  | _, _, 0, _, .cons h _, e => by simp at e; subst e; exact ⟨_, rfl, h⟩
  | _, _, i + 1, kd, .cons _ r, e => by
    obtain ⟨v, h1, h2⟩ := RepKs.get (i := i) (kd := kd) r (by simpa using e)
    exact ⟨v, by simpa using h1, h2⟩
def Itw (k : Bool) (d : Addr) (o : Obj) (kvs : List (Key × V)) : It := if k = true then Iti d o kvs else Itk d o kvs
theorem dwalk_ok {k : Bool} {od : Obj} {ks : List (Key × V)} {kds : List (Key × TG.D)} (Rl : Rel G σ Z H env) (ha : H a = some (.frz od (.dK ks))) (no : ¬ Ow σ env a) (r : RepKs G.K Z H ks kds) : WalkOk2 G [] (dwalk k kds) (Itw k a od ks) σ Z H env := fun σ' Z' H' env' l hk' => by
  have ha' := hk' a _ ha no
  have r' := r.mono l.zz l.hk
  have ln := r.length
  have lw : (dwalk k kds).length = kds.length := List.length_map _
  have at' : ∀ {i : Nat} {d : TG.D}, (dwalk k kds)[i]? = some d → ∃ (kd : Key × TG.D) (v : V), d = (if k = true then .tup [kD kd.1, kd.2] else kD kd.1) ∧ ks[i]? = some (kd.1, v) ∧ Rep G.K Z' H' v kd.2 := fun {i d} e => by
    unfold dwalk at e
    rw [List.getElem?_map] at e
    obtain ⟨kd, e1, e2⟩ := Option.map_eq_some_iff.mp e
    obtain ⟨v, e3, rv⟩ := r'.get e1
    exact ⟨kd, v, e2.symm, e3, rv⟩
  cases k with
  | false =>
    refine ⟨fun i d e => ?_, ha', by rw [lw, ln]; exact Nat.le_refl _⟩
    obtain ⟨kd, v, rfl, e3, rv⟩ := at' e
    refine ⟨⟨ha', (List.getElem?_eq_some_iff.mp e3).1⟩, fun x H'' ⟨q1, k, w, q2, q3⟩ => ?_⟩
    rw [e3] at q2
    cases q2
    subst q1 q3
    exact ⟨Z', l.rel, .refl, kV_rep _⟩
  | true =>
    refine ⟨fun i d e => ?_, ha', by rw [lw, ln]; exact Nat.le_refl _⟩
    obtain ⟨kd, v, rfl, e3, rv⟩ := at' e
    refine ⟨⟨ha', (List.getElem?_eq_some_iff.mp e3).1⟩, fun x H'' ⟨T, k, w, q2, q3, hT, q4⟩ => ?_⟩
    rw [e3] at q2
    cases q2
    subst q3 q4
    obtain ⟨Z3, R3, S3, V3, N3⟩ := (Out.tup hT (.cons (kV_rep kd.1) (.cons rv .nil))).run l.rel
    exact ⟨Z3, R3, S3, V3⟩
theorem tE_mono {ex : Ex} {Q Q' : VK} (h : tE Γ R G ex σ H Q) (k : ∀ v H', Q v H' → Q' v H') : tE Γ R G ex σ H Q' := by
  obtain ⟨Z, env, Q0, hR, hw, hq⟩ := h
  exact ⟨Z, env, Q0, hR, hw, fun r e v Z' H' h1 h2 h3 h4 h5 => k _ _ (hq r e v Z' H' h1 h2 h3 h4 h5)⟩
def iWalk (Γ : Ga) (R : XP) (G : Gh) (k : Bool) (i : Nat) : TI := fun σ H Rz => tE Γ R G (.var i) σ H fun x H1 => ∃ d o kvs, x = V.ref d ∧ H1 d = some (.frz o (.dK kvs)) ∧ Rz (Itw k d o kvs) H1
theorem pi_walkK {tg e : Expr} {i : Nat} (he : PE X e (tE Γ R G (.var i))) : PI X tg e (iWalk Γ R G false i) := pi_imp (pi_keys he) fun σ H Q h => tE_mono h fun v H' ⟨d, o, kvs, e1, e2, e3⟩ => ⟨d, o, e1, .inl ⟨kvs, e2, e3⟩⟩
theorem pi_walkI {elts : List Expr} {kk : Nat} {tpos apos cpos : Pos} {e : Expr} {i : Nat} (he : PE X e (tE Γ R G (.var i))) (hb : attributeBase e "items" X.env (eval e X.env) = eval e X.env) (hl : (apos.endLine == cpos.line) = true) :
    PI X (.Tuple elts kk tpos) (.Call (.Attribute e "items" apos) [] [] cpos) (iWalk Γ R G true i) := pi_imp (pi_items he hb hl) fun σ H Q h => tE_mono h fun v H' q => q
theorem s_compd {k : Bool} {tg : Tg} {i : Nat} {c e : Ex} {elt tgE iter : Expr} {ifs : List Expr} {scope : Scope} {ow0 : List (Str × Nat)} {pos : Pos} (hc : X.calm = true) (hN : X.N.Nodup) (hi : PI X tgE iter (iWalk Γ R G k i)) (ok : BlkOk X.N X.env.scope scope ow0) (hv : ow0.map (·.2) = vs)
    (hg : ∀ (s : Shared) (H : Hp) (C : Addr) (cl : List (Str × Addr)) (fp : List Addr), PG (X.blk s H scope (compEnvC scope cl C X.env) fp) tgE (tG G tg)) (ht : ∀ (s : Shared) (H : Hp) (C : Addr) (cl : List (Str × Addr)) (fp : List Addr), PTs (X.blk s H scope (compEnvC scope cl C X.env) fp) ifs (tT Γ noX G c))
    (he : ∀ (s : Shared) (H : Hp) (C : Addr) (cl : List (Str × Addr)) (fp : List Addr), PE (X.blk s H scope (compEnvC scope cl C X.env) fp) elt (tE Γ noX G e)) (hnm : ∀ i ∈ tg.nms, i ∈ vs) (hs : ∀ x, foldedSetIterable iter X.env x = pure x) :
    PE X (.ListComp elt [⟨tgE, iter, ifs, 0⟩] scope pos) (tE Γ R G (.compd k vs tg i c e)) := by
  have base := pe_lock (pe_lc (pos := pos) hc hN hi ok hg ht he hs)
  rw [hv] at base
  refine pe_imp base fun σ H Q hx => ?_
  obtain ⟨Z, env, Q0, Rl, hw, hq⟩ := hx
  obtain ⟨s, kvs, hes, hs', hni, hlen, w1⟩ := hw
  have il : i < env.length := (List.getElem?_eq_some_iff.mp hes).1
  have oi : own env i := by
    rcases hs' with rfl | rfl
    · exact ⟨_, .inl hes⟩
    · exact ⟨_, .inr hes⟩
  have facts : ∃ a ks, σ[i]? = some (some (V.ref a)) ∧ ¬ Z a ∧ H a = some (.dK ks) ∧ RepKs G.K Z H ks kvs ∧ (G.H0 a = none ∨ G.S a) ∧ ∀ Z' H', H' a = some (.dK ks) → RepKs G.K Z' H' ks kvs → (SlOk G Z' H' a s ∨ ∃ d, s = .io d ∧ a = G.ad i ∧ G.S a ∧ Top G.K Z' H' a d) := by
    rcases hs' with rfl | rfl
    · obtain ⟨a, e1, nz, h0, t⟩ := Rl.ow i _ hes
      cases t with
      | dct h r => exact ⟨a, _, e1, nz, h, r, .inl h0, fun Z' H' h' r' => .inl ⟨h0, .dct h' r'⟩⟩
    · obtain ⟨e1, nz, hS, t⟩ := Rl.io i _ hes
      cases t with
      | dct h r => exact ⟨_, _, e1, nz, h, r, .inr hS, fun Z' H' h' r' => .inr ⟨_, rfl, rfl, hS, .dct h' r'⟩⟩
  obtain ⟨a, ks, e1, nz, hH, r, h0, back⟩ := facts
  have oa : Ow σ env a := ⟨i, oi, e1⟩
  refine ⟨a, _, hH, trivial, fun od => ?_⟩
  have zk : ∀ b u, Z b → H b = some u → upd H a (.frz od (.dK ks)) b = some u := fun b u z h => by rw [upd_ne (fun q => nz (by rw [← q]; exact z))]; exact h
  have R1 : Rel G σ Z (upd H a (.frz od (.dK ks))) (env.set i (.lk (.dct kvs))) := Rl.swap (.inl oi) e1 nz h0 (.inl (Lkd.dct upd_same (r.mono (fun _ z => z) zk)))
  have lki : (env.set i (Sl.lk (.dct kvs)))[i]? = some (Sl.lk (.dct kvs)) := List.getElem?_set_self il
  refine ⟨Z, env.set i (.lk (.dct kvs)), fun r e1 => r = .bo i ∧ e1 = env.set i (.lk (.dct kvs)), R1, ?_, fun r' e' v Z1 H1 R1' S1 V1 N1 h => ?_⟩
  · show (match (env.set i (Sl.lk (.dct kvs)))[i]? with
      | some (.im d) => _
      | some .un => _
      | some _ => _
      | none => _)
    rw [lki]
    exact ⟨rfl, rfl⟩
  obtain ⟨rfl, rfl⟩ := h
  have V1 : σ[i]? = some (some v) := V1
  rw [e1] at V1
  cases V1
  have lkd : Lkd G.K Z (upd H a (.frz od (.dK ks))) a (.dct kvs) := .dct upd_same (r.mono (fun _ z => z) zk)
  have no0 := R1.lkO lkd
  have ha1 : H1 a = some (.frz od (.dK ks)) := S1.grow.hk a _ upd_same no0
  have r1 : RepKs G.K Z1 H1 ks kvs := (r.mono (fun _ z => z) zk).mono S1.grow.zz fun b o z h => S1.grow.hk b o h (R1.nO z)
  have no1 := R1'.lkO (Lkd.dct ha1 r1)
  refine ⟨a, od, ks, rfl, ha1, comp_core (Q := fun v H' => H' a = some (.frz od (.dK ks)) ∧ Q v (upd H' a (.dK ks))) (is := []) (okp := fun e2 => (wipeE e2 vs)[i]? = some (.lk (.dct kvs))) hnm R1' (dwalk_ok R1' ha1 no1 r1) (fun _ _ _ h => nomatch h) (by unfold dwalk; rw [List.length_map]; exact hlen) w1 fun acc ev D Z' H' R2 S2 V2 hD st k => ?_⟩
  have ha2 : H' a = some (.frz od (.dK ks)) := S2.grow.hk a _ ha1 no1
  have r2 : RepKs G.K Z' H' ks kvs := r1.mono S2.grow.zz fun b o z h => S2.grow.hk b o h (R1'.nO z)
  obtain ⟨b, eb, nzb, _⟩ := R2.lk i _ st
  rw [e1] at eb
  cases eb
  refine ⟨ha2, ?_⟩
  have zk2 : ∀ b u, Z' b → H' b = some u → upd H' a (.dK ks) b = some u := fun b u z h => by rw [upd_ne (fun q => nzb (by rw [← q]; exact z))]; exact h
  have R3 : Rel G σ Z' (upd H' a (.dK ks)) ((wipeE ev vs).set i s) := R2.swap (.inr ⟨_, st⟩) e1 nzb h0 (back _ _ upd_same (r2.mono (fun _ z => z) zk2))
  have ownl : ∀ j, own (env.set i (Sl.lk (.dct kvs))) j → own env j := fun j ⟨d, hj⟩ => by
    by_cases q : i = j
    · subst q; exact oi
    · rw [List.getElem?_set_ne q] at hj; exact ⟨d, hj⟩
  have Owl : ∀ b, Ow σ (env.set i (Sl.lk (.dct kvs))) b → Ow σ env b := fun b ⟨j, hj, ej⟩ => ⟨j, ownl j hj, ej⟩
  have S12 := S1.trans S2
  have S3 : Stp σ Z H env Z' (upd H' a (.dK ks)) ((wipeE ev vs).set i s) := by
    refine ⟨⟨S12.grow.zz, fun b z => ?_, fun b o h n => ?_, fun b o h => ?_⟩, fun j hj => ?_⟩
    · rcases S12.grow.zn b z with z | z | z
      · exact .inl z
      · exact .inr (.inl (Owl b z))
      · by_cases q : b = a
        · subst q; rw [upd_same] at z; cases z
        · rw [upd_ne q] at z; exact .inr (.inr z)
    · have q : b ≠ a := fun q => n (by rw [q]; exact oa)
      rw [upd_ne q]
      exact S12.grow.hk b o (by rw [upd_ne q]; exact h) fun z => n (Owl b z)
    · by_cases q : b = a
      · exact ⟨_, by rw [q]; exact upd_same⟩
      · obtain ⟨u, hu⟩ := S12.grow.tr b o (by rw [upd_ne q]; exact h)
        exact ⟨u, by rw [upd_ne q]; exact hu⟩
    · by_cases q : i = j
      · subst q; exact oi
      · obtain ⟨d, hj⟩ := hj
        rw [List.getElem?_set_ne q] at hj
        exact ownl j (S12.sub j ⟨d, hj⟩)
  obtain ⟨D', eD, nzD, noD, h0D, tD⟩ := V2
  cases eD
  have Da : D ≠ a := fun q => by subst q; rw [ha1] at hD; cases hD
  have D0 : (upd H a (.frz od (.dK ks))) D = none := S1.nn hD
  rw [upd_ne Da] at D0
  refine hq (.fr (.lst acc)) _ (.ref D) Z' _ R3 S3 ⟨D, rfl, nzD, fun ⟨j, ⟨d, hj⟩, ej⟩ => ?_, h0D, tD.mono (fun _ z => z) zk2 fun o h => by rw [upd_ne Da]; exact h⟩ (fun b eb => by cases eb; exact D0) k
  by_cases q : i = j
  · subst q
    rw [e1] at ej
    cases ej
    exact Da rfl
  · rw [List.getElem?_set_ne q] at hj
    exact noD ⟨j, ⟨d, hj⟩, ej⟩
end
end TG
end
section
namespace TG
open PySem PySem.Spec PyProof.Rows L2

structure Ms where
  E : Scope → (Str → Bool) → Expr → Bool
  L : Scope → (Str → Bool) → List Expr → Bool
  O : Scope → (Str → Bool) → Option Expr → Bool
  I : Scope → (Str → Bool) → Expr → Expr → Bool
def mkM (E : Scope → (Str → Bool) → Expr → Bool) : Ms where
  E := E
  L := fun _ _ _ => false
  O := fun sc ow o => match o with
    | some e => E sc ow e
    | none => false
  I := fun sc ow _ e => E sc ow e
def mkI (I : Scope → (Str → Bool) → Expr → Expr → Bool) : Ms where
  E := fun _ _ _ => false
  L := fun _ _ _ => false
  O := fun _ _ _ => false
  I := I
def isGl (sc : Scope) (x : Str) : Bool := decide (sc.names.lookup x = some .globalImplicit)
def plainO : Expr → Bool
  | .Name _ _ => true
  | .Constant _ _ _ => true
  | .Subscript _ _ _ => true
  | .BinOp _ _ _ _ => true
  | .Call _ (_ :: _) _ _ => true
  | _ => false
def plainI : Expr → Bool
  | .Slice _ _ _ _ => false
  | _ => true
def notSet : Expr → Bool
  | .Set _ _ _ => false
  | _ => true
def isNilX : Ex → Bool
  | .nil => true
  | _ => false
def isDctX : Ex → Bool
  | .dctn _ _ => true
  | _ => false
def ownN (N : List Str) (vs : List Nat) : List (Str × Nat) := vs.map fun i => ((N[i]?).getD "", i)
def isTupE : Expr → Bool
  | .Tuple _ _ _ => true
  | _ => false
def dwM (N : List Str) (i : Nat) (sc : Scope) (tgE : Expr) : Bool → Expr → Bool
  | false, .Name x _ => decide (N[i]? = some x) && isVis sc x && okN x
  | true, .Call (.Attribute (.Name x _) nm apos) [] [] cpos => decide (nm = "items") && (apos.endLine == cpos.line) && isTupE tgE && (decide (N[i]? = some x) && isVis sc x && okN x)
  | _, _ => false
section
/-- list(range(x, y)) -/
def lrgM (bl : List Str) (sc : Scope) (fa fb : Expr → Bool) : Expr → Bool
  | .Call (.Name f _) [.Call (.Name g _) [x, y] [] _] [] _ => decide (f = "list") && decide (f ∈ bl) && isGl sc f && decide (g = "range") && decide (g ∈ bl) && isGl sc g && fa x && fb y
  | _ => false
theorem lrgM_of {bl : List Str} {sc : Scope} {fa fb : Expr → Bool} {e : Expr} (m : lrgM bl sc fa fb e = true) : ∃ p p2 x y q q2, e = .Call (.Name "list" p) [.Call (.Name "range" p2) [x, y] [] q2] [] q ∧ (("list" : Str) ∈ bl ∧ isGl sc "list" = true) ∧ (("range" : Str) ∈ bl ∧ isGl sc "range" = true) ∧ fa x = true ∧ fb y = true := by
  unfold lrgM at m
  split at m
  · simp only [Bool.and_eq_true, decide_eq_true_eq] at m
    obtain ⟨⟨⟨⟨⟨⟨⟨m1, m2⟩, m3⟩, n1⟩, n2⟩, n3⟩, m5⟩, m6⟩ := m
    subst m1 n1
    exact ⟨_, _, _, _, _, _, rfl, ⟨m2, m3⟩, ⟨n2, n3⟩, m5, m6⟩
  · cases m
/-- sorted(set(x)) -/
def srsM (bl : List Str) (sc : Scope) (fa : Expr → Bool) : Expr → Bool
  | .Call (.Name f _) [.Call (.Name g _) [x] [] _] [] _ => decide (f = "sorted") && decide (f ∈ bl) && isGl sc f && decide (g = "set") && decide (g ∈ bl) && isGl sc g && fa x
  | _ => false
theorem srsM_of {bl : List Str} {sc : Scope} {fa : Expr → Bool} {e : Expr} (m : srsM bl sc fa e = true) : ∃ p p2 x q q2, e = .Call (.Name "sorted" p) [.Call (.Name "set" p2) [x] [] q2] [] q ∧ (("sorted" : Str) ∈ bl ∧ isGl sc "sorted" = true) ∧ (("set" : Str) ∈ bl ∧ isGl sc "set" = true) ∧ fa x = true := by
  unfold srsM at m
  split at m
  · simp only [Bool.and_eq_true, decide_eq_true_eq] at m
    obtain ⟨⟨⟨⟨⟨⟨m1, m2⟩, m3⟩, n1⟩, n2⟩, n3⟩, m5⟩ := m
    subst m1 n1
    exact ⟨_, _, _, _, _, rfl, ⟨m2, m3⟩, ⟨n2, n3⟩, m5⟩
  · cases m
variable (N : List Str) (bl : List Str)
def mm : Ex → Ms
  | .var i => mkM fun sc ow e => match e with
    | .Name x _ => decide (N[i]? = some x) && isVis sc x && okN x
    | _ => false
  | .cint i => mkM fun sc ow e => match e with
    | .Constant (.int j) _ _ => decide (i = j)
    | _ => false
  | .cstr i => mkM fun sc ow e => match e with
    | .Constant (.str j) _ _ => decide (i = j)
    | _ => false
  | .cbl i => mkM fun sc ow e => match e with
    | .Constant (.bool j) _ _ => decide (i = j)
    | _ => false
  | .cnon => mkM fun sc ow e => match e with
    | .Constant .none _ _ => true
    | _ => false
  | .glob y => mkM fun sc ow e => match e with
    | .Name x _ => decide (y = x) && isGl sc x && okN x
    | _ => false
  | .bin op a b => mkM fun sc ow e => match e with
    | .BinOp x op' y _ => decide (op = op') && (mm a).E sc ow x && (mm b).E sc ow y
    | _ => false
  | .neg a => mkM fun sc ow e => match e with
    | .UnaryOp .USub x _ => (mm a).E sc ow x
    | _ => false
  | .cmp op a b => mkM fun sc ow e => match e with
    | .Compare x [op'] [y] _ => decide (op = op') && !behindInMarks op y && (mm a).E sc ow x && (mm b).E sc ow y
    | _ => false
  | .chain op1 op2 a b c => mkM fun sc ow e => match e with
    | .Compare x [p1, p2] [y, z] _ => decide (op1 = p1) && decide (op2 = p2) && !lastMarks [p1, p2] [y, z] && (mm a).E sc ow x && (mm b).E sc ow y && (mm c).E sc ow z
    | _ => false
  | .andn a b => mkM fun sc ow e => match e with
    | .BoolOp .And [x, y] _ => (mm a).E sc ow x && (mm b).E sc ow y
    | .BoolOp .And (x :: y :: z :: zs) pos => (mm a).E sc ow x && (mm b).E sc ow (.BoolOp .And (y :: z :: zs) pos)
    | _ => false
  | .orn a b => mkM fun sc ow e => match e with
    | .BoolOp .Or [x, y] _ => (mm a).E sc ow x && (mm b).E sc ow y
    | .BoolOp .Or (x :: y :: z :: zs) pos => (mm a).E sc ow x && (mm b).E sc ow (.BoolOp .Or (y :: z :: zs) pos)
    | _ => false
  | .notn a => mkM fun sc ow e => match e with
    | .UnaryOp .Not x _ => (mm a).E sc ow x
    | _ => false
  | .ife c a b => mkM fun sc ow e => match e with
    | .IfExp x y z _ => (mm c).E sc ow x && (mm a).E sc ow y && (mm b).E sc ow z
    | _ => false
  | .tupn as => mkM fun sc ow e => match e with
    | .Tuple es _ _ => (mm as).L sc ow es
    | _ => false
  | .srs a => mkM fun sc ow e => srsM bl sc ((mm a).E sc ow) e
  | .lrg a b => mkM fun sc ow e => lrgM bl sc ((mm a).E sc ow) ((mm b).E sc ow) e
  | .ptn as => mkM fun sc ow e => match e with
    | .Tuple es _ _ => (mm as).L sc ow es
    | _ => false
  | .lstn as => mkM fun sc ow e => match e with
    | .List es _ => (mm as).L sc ow es
    | _ => false
  | .dnew _ => mkM fun sc ow e => match e with
    | .Dict [] [] _ => true
    | _ => false
  | .dctn a b => mkM fun sc ow e => match e with
    | .Dict [some k] [v] _ => (mm a).E sc ow k && (mm b).E sc ow v
    | _ => false
  | .dctw a b a' b' => mkM fun sc ow e => match e with
    | .Dict [some k, some k'] [v, v'] _ => (mm a).E sc ow k && (mm b).E sc ow v && (mm a').E sc ow k' && (mm b').E sc ow v'
    | _ => false
  | .fgt a => mkM fun sc ow e => match e with
    | .Name _ _ => (mm a).E sc ow e
    | .Subscript _ _ _ => (mm a).E sc ow e
    | .Call _ _ _ _ => (mm a).E sc ow e
    | _ => false
  | .kept _ a => mkM fun sc ow e => match e with
    | .ListComp _ _ _ _ => (mm a).E sc ow e
    | _ => false
  | .nil => ⟨fun _ _ _ => false, fun _ _ es => match es with
    | [] => true
    | _ => false, fun _ _ o => match o with
    | none => true
    | _ => false, fun _ _ _ _ => false⟩
  | .cons a as => ⟨fun _ _ _ => false, fun sc ow es => match es with
    | e :: es => (mm a).E sc ow e && (mm as).L sc ow es
    | _ => false, fun _ _ _ => false, fun _ _ _ _ => false⟩
  | .call f as => mkM fun sc ow e => match e with
    | .Call (.Name g _) es [] _ => decide (f = g) && isGl sc g && okN g && (mm as).L sc ow es && (!es.isEmpty || isNilX as)
    | _ => false
  | .blt b as => mkM fun sc ow e => match e with
    | .Call (.Name g _) (e :: es) [] _ => decide (b.nm = g) && isGl sc g && decide (g ∈ bl) && (mm as).L sc ow (e :: es)
    | _ => false
  | .meth m o as => mkM fun sc ow e => match e with
    | .Call (.Attribute x nm apos) (e :: es) [] cpos => decide (m.nm = nm) && plainO x && (apos.endLine == cpos.line) && decide ((e :: es).length < 29) && (m == .get || m == .join || m == .index || m == .count || m == .split || m == .startswith || m == .endswith) && (mm o).E sc ow x && (mm as).L sc ow (e :: es)
    | _ => false
  | .mut m i as => mkM fun sc ow e => match e with
    | .Call (.Attribute (.Name x _) nm apos) (e :: es) [] cpos => decide (m.nm = nm) && decide (N[i]? = some x) && isVis sc x && okN x && (apos.endLine == cpos.line) && decide ((e :: es).length < 29) && (m == .append || m == .remove || m == .extend || m == .insert) && (mm as).L sc ow (e :: es)
    | _ => false
  | .idx a i => mkM fun sc ow e => match e with
    | .Subscript x y _ => plainI y && (mm a).E sc ow x && (mm i).E sc ow y
    | _ => false
  | .sls a lo hi st => mkM fun sc ow e => match e with
    | .Subscript x (.Slice l h (some c) _) _ => (mm a).E sc ow x && (mm lo).O sc ow l && (mm hi).O sc ow h && (mm st).O sc ow (some c)
    | _ => false
  | .slc a lo hi => mkM fun sc ow e => match e with
    | .Subscript x (.Slice l h none _) _ => (mm a).E sc ow x && (mm lo).O sc ow l && (mm hi).O sc ow h
    | _ => false
  | .isi a t => mkM fun sc ow e => match e with
    | .Call (.Name g _) [x, .Name ty _] [] _ => decide (g = "isinstance") && decide (g ∈ bl) && isGl sc g && decide (t.nm = ty) && decide (ty ∈ bl) && isGl sc ty && (mm a).E sc ow x
    | _ => false
  | .comp vs tg it c e => mkM fun sc ow ex => match ex with
    | .ListComp elt [⟨tgE, iter, ifs, 0⟩] scope _ => (mm it).I sc ow tgE iter && notSet iter && blkC N sc scope (ownN N vs) && mT N (relS scope sc) (fun x => scope.names.lookup x == some .cell) tg tgE && tg.nms.all (vs.contains ·) &&
      (match ifs with
        | [] => isNilX c
        | [ce] => (mm c).E (relS scope sc) (fun x => scope.names.lookup x == some .cell) ce
        | _ => false) && (mm e).E (relS scope sc) (fun x => scope.names.lookup x == some .cell) elt
    | _ => false
  | .isx _ _ => mkM fun _ _ _ => false
  | .fld _ _ => mkM fun _ _ _ => false
  | .callx _ _ => mkM fun _ _ _ => false
  | .zip2 a b => mkI fun sc ow tg e => match e with
    | .Call (.Name g _) [x, y] [] _ => decide (g = "zip") && decide (g ∈ bl) && isGl sc g && isTupE tg && (mm a).E sc ow x && (mm b).E sc ow y
    | _ => false
  | .zip3 a b c => mkI fun sc ow tg e => match e with
    | .Call (.Name g _) [x, y, z] [] _ => decide (g = "zip") && decide (g ∈ bl) && isGl sc g && isTupE tg && (mm a).E sc ow x && (mm b).E sc ow y && (mm c).E sc ow z
    | _ => false
  | .enum a => mkI fun sc ow tg e => match e with
    | .Call (.Name g _) [x] [] _ => decide (g = "enumerate") && decide (g ∈ bl) && isGl sc g && isTupE tg && (mm a).E sc ow x
    | _ => false
  | .rng1 a => mkI fun sc ow tg e => match e with
    | .Call (.Name g _) [x] [] _ => decide (g = "range") && decide (g ∈ bl) && isGl sc g && (mm a).E sc ow x
    | _ => false
  | .rng2 a b => mkI fun sc ow tg e => match e with
    | .Call (.Name g _) [x, y] [] _ => decide (g = "range") && decide (g ∈ bl) && isGl sc g && (mm a).E sc ow x && (mm b).E sc ow y
    | _ => false
  | .rng3 a b c => mkI fun sc ow tg e => match e with
    | .Call (.Name g _) [x, y, z] [] pos => decide (g = "range") && decide (g ∈ bl) && isGl sc g && (mm a).E sc ow x && (mm b).E sc ow y && (mm c).E sc ow z
    | _ => false
  | .vals a => mkI fun sc ow tg e => match e with
    | .Call (.Attribute x nm apos) [] [] cpos => decide (nm = "values") && (apos.endLine == cpos.line) && plainO x && (mm a).E sc ow x
    | _ => false
  | .compd k vs tg i c e => mkM fun sc ow ex => match ex with
    | .ListComp elt [⟨tgE, iter, ifs, 0⟩] scope _ => dwM N i sc tgE k iter && notSet iter && blkC N sc scope (ownN N vs) && mT N (relS scope sc) (fun x => scope.names.lookup x == some .cell) tg tgE && tg.nms.all (vs.contains ·) &&
      (match ifs with
        | [] => isNilX c
        | [ce] => (mm c).E (relS scope sc) (fun x => scope.names.lookup x == some .cell) ce
        | _ => false) && (mm e).E (relS scope sc) (fun x => scope.names.lookup x == some .cell) elt
    | _ => false
end

def noStar : Expr → Bool
  | .Starred _ _ => false
  | _ => true
theorem star_cons {e : Expr} {es : List Expr} {E : PySem.Env} (h : noStar e = true) : starEach (e :: es) E = (false, eval e E) :: starEach es E := by
  cases e <;> first | rfl | cases h
theorem star_all {pos : Pos} {E : PySem.Env} : ∀ {es : List Expr}, es.all noStar = true → (backTo pos (starEach es E)).any (·.1) = false ∧ (backTo pos (starEach es E)).all (fun x => !x.1) = true
  | [], _ => ⟨rfl, rfl⟩
  | e :: es, h => by
    rw [List.all_cons, Bool.and_eq_true] at h
    rw [star_cons h.1]
    obtain ⟨h1, h2⟩ := star_all (pos := pos) (E := E) h.2
    exact ⟨by show (false || (backTo pos (starEach es E)).any (·.1)) = false; rw [h1]; rfl, by show (true && (backTo pos (starEach es E)).all (fun x => !x.1)) = true; rw [h2]; rfl⟩
theorem plainO_of {o : Expr} {nm : Str} {E : PySem.Env} {w : Sem Value} (h : plainO o = true) : attributeBase o nm E w = w := by
  cases o with
  | Call f args kws pos =>
    cases args with
    | nil => cases h
    | cons a as => cases f <;> rfl
  | _ => first | rfl | cases h
theorem plainI_of {y : Expr} (h : plainI y = true) : PlainIx y := by
  intro o i
  cases y <;> first | rfl | cases h
theorem notSet_of {e : Expr} {E : PySem.Env} (h : notSet e = true) : ∀ x, foldedSetIterable e E x = pure x := by
  intro x
  cases e <;> first | rfl | cases h
def plainT : Expr → Bool
  | .UnaryOp .Not _ _ => false
  | .BoolOp _ _ _ => false
  | .IfExp _ _ _ _ => false
  | .Compare _ _ _ _ => false
  | _ => true
theorem plainT_of {e : Expr} {E : PySem.Env} (h : plainT e = true) : ∀ whole, isTrue e E whole = (do let v ← whole; standAt e.pos; holding [v] (truthy v)) := by
  intro w
  cases e with
  | UnaryOp op x p => cases op <;> first | rfl | cases h
  | _ => first | rfl | cases h
section
variable {N bl : List Str}
theorem mm_star {ex : Ex} {sc : Scope} {ow : Str → Bool} {e : Expr} (h : (mm N bl ex).E sc ow e = true) : noStar e = true := by
  cases e <;> first | rfl | (cases ex <;> simp [mm, mkM, mkI, lrgM, srsM] at h)
theorem mm_stars {sc : Scope} {ow : Str → Bool} : ∀ {as : Ex} {es : List Expr}, (mm N bl as).L sc ow es = true → es.all noStar = true := by
  intro as
  induction as with
  | nil => intro es h; cases es <;> first | rfl | simp [mm] at h
  | cons a as _ ih =>
    intro es h
    cases es with
    | nil => rfl
    | cons e es =>
      simp only [mm, Bool.and_eq_true] at h
      rw [List.all_cons, mm_star h.1, ih h.2]; rfl
  | _ => intro es h; simp [mm, mkM, mkI] at h
end
end TG
end
section
namespace TG
open PySem PySem.Spec PyProof.Rows L2

section
variable {Γ : Ga} {R : XP} {G : Gh} {X : Cx} {N bl : List Str} {sc : Scope} {ow : Str → Bool}
theorem XOk.tok (h : XOk Γ R G N sc ow bl X) : TOk N sc ow G X := ⟨h.hN, h.nd, h.hsc, h.calm, h.hK, h.un, h.cell⟩
theorem XOk.gl (h : XOk Γ R G N sc ow bl X) {x : Str} (q : isGl sc x = true) : Gl X x := by
  show X.env.scope.names.lookup x = _
  rw [h.hsc]
  exact of_decide_eq_true q
theorem XOk.blk (h : XOk Γ R G N sc ow bl X) {s : Shared} {H : Hp} {C : Addr} {cl : List (Str × Addr)} {fp : List Addr} {scope : Scope} : XOk Γ noX G N (relS scope sc) (fun x => scope.names.lookup x == some .cell) bl (X.blk s H scope (compEnvC scope cl C X.env) fp) where
  hN := h.hN
  nd := h.nd
  hsc := by show relS scope X.env.scope = _; rw [h.hsc]
  calm := h.calm
  hK := h.hK
  un := h.un
  gd := h.gd
  bl := h.bl
  cs := h.cs
  fn := h.fn
  px := fun σ pins H s e s' I c => by
    obtain ⟨_, _, _, _, _, _, _, _, _, _, _, _, z⟩ := c
    obtain ⟨_, _, _, _, _, z⟩ := z
    exact z.elim
  cell := fun x h => h

structure MOk (Γ : Ga) (G : Gh) (N bl : List Str) (ex : Ex) : Prop where
  E : ∀ {R : XP} {sc : Scope} {ow : Str → Bool} {X : Cx} {e : Expr}, XOk Γ R G N sc ow bl X → (mm N bl ex).E sc ow e = true → PE X e (tE Γ R G ex)
  T : ∀ {R : XP} {sc : Scope} {ow : Str → Bool} {X : Cx} {e : Expr}, XOk Γ R G N sc ow bl X → (mm N bl ex).E sc ow e = true → PT X e (tT Γ R G ex)
  A : ∀ {R : XP} {sc : Scope} {ow : Str → Bool} {X : Cx} {es : List Expr}, XOk Γ R G N sc ow bl X → (mm N bl ex).L sc ow es = true → PA X es (tA Γ R G ex)
  B : ∀ {R : XP} {sc : Scope} {ow : Str → Bool} {X : Cx} {es : List Expr}, XOk Γ R G N sc ow bl X → (mm N bl ex).L sc ow es = true → PA X es (tB Γ R G ex)
  C : ∀ {R : XP} {sc : Scope} {ow : Str → Bool} {X : Cx} {es : List Expr} (ms : List Bool), XOk Γ R G N sc ow bl X → (mm N bl ex).L sc ow es = true → PA X es (tCl Γ R G ms ex)
  O : ∀ {R : XP} {sc : Scope} {ow : Str → Bool} {X : Cx} {o : Option Expr}, XOk Γ R G N sc ow bl X → (mm N bl ex).O sc ow o = true → PO X o (tO Γ R G ex)
  I : ∀ {R : XP} {sc : Scope} {ow : Str → Bool} {X : Cx} {tg e : Expr}, XOk Γ R G N sc ow bl X → (mm N bl ex).I sc ow tg e = true → PI X tg e (tI Γ R G ex)

/-- of an expression that has a value; its test perhaps another way -/
theorem MOk.ofE {ex : Ex} {E0 : XP → Env → (Rv → Env → Prop) → Prop} {T0 : XP → Env → (Bool → Env → Prop) → Prop} {M0 : Scope → (Str → Bool) → Expr → Bool} (h1 : sem Γ ex = { ofE E0 with T := T0 }) (h2 : mm N bl ex = mkM M0)
    (hE : ∀ {R : XP} {sc : Scope} {ow : Str → Bool} {X : Cx} {e : Expr}, XOk Γ R G N sc ow bl X → M0 sc ow e = true → PE X e (tE Γ R G ex))
    (hT : ∀ {R : XP} {sc : Scope} {ow : Str → Bool} {X : Cx} {e : Expr}, XOk Γ R G N sc ow bl X → M0 sc ow e = true → PT X e (tT Γ R G ex)) : MOk Γ G N bl ex where
  E := fun h m => hE h (by rw [h2] at m; exact m)
  T := fun h m => hT h (by rw [h2] at m; exact m)
  A := fun h m => by rw [h2] at m; cases m
  B := fun h m => by rw [h2] at m; cases m
  C := fun ms h m => by rw [h2] at m; cases m
  O := fun {R sc ow X o} h m => by
    rw [h2] at m
    cases o with
    | none => cases m
    | some e => exact s_psome (fun env Q hw => by rw [wpO, h1] at hw; rw [wpE, h1]; exact hw) (hE h m)
  I := fun {R sc ow X tg e} h m => by
    rw [h2] at m
    exact s_iany h.hK (fun env Q hw => by rw [wpI, h1] at hw; rw [wpE, h1]; exact hw) (hE h m)
theorem MOk.ofP {ex : Ex} {E0 : XP → Env → (Rv → Env → Prop) → Prop} {M0 : Scope → (Str → Bool) → Expr → Bool} (h1 : sem Γ ex = TG.ofE E0) (h2 : mm N bl ex = mkM M0)
    (hE : ∀ {R : XP} {sc : Scope} {ow : Str → Bool} {X : Cx} {e : Expr}, XOk Γ R G N sc ow bl X → M0 sc ow e = true → plainT e = true ∧ PE X e (tE Γ R G ex)) : MOk Γ G N bl ex :=
  MOk.ofE h1 h2 (fun h m => (hE h m).2) fun h m => s_truth h.hK (fun env Q hw => by rw [wpT, h1] at hw; rw [wpE, h1]; exact hw) (plainT_of (hE h m).1) (hE h m).2
theorem MOk.ofI {ex : Ex} {I0 : Scope → (Str → Bool) → Expr → Expr → Bool} (h2 : mm N bl ex = mkI I0)
    (hI : ∀ {R : XP} {sc : Scope} {ow : Str → Bool} {X : Cx} {tg e : Expr}, XOk Γ R G N sc ow bl X → I0 sc ow tg e = true → PI X tg e (tI Γ R G ex)) : MOk Γ G N bl ex where
  E := fun h m => by rw [h2] at m; cases m
  T := fun h m => by rw [h2] at m; cases m
  A := fun h m => by rw [h2] at m; cases m
  B := fun h m => by rw [h2] at m; cases m
  C := fun ms h m => by rw [h2] at m; cases m
  O := fun h m => by rw [h2] at m; cases m
  I := fun h m => hI h (by rw [h2] at m; exact m)
theorem pair_star {x y : Expr} {as : Ex} {E : PySem.Env} (h : ([x, y].all noStar) = true) : starEach [x, y] E = (false, eval x E) :: starEach [y] E ∧ starEach [y] E = (false, eval y E) :: starEach [] E := by
  rw [List.all_cons, Bool.and_eq_true, List.all_cons, Bool.and_eq_true] at h
  exact ⟨star_cons h.1, star_cons h.2.1⟩
theorem few_of {cpos : Pos} {e : Expr} {es : List Expr} {E : PySem.Env} (h : (e :: es).all noStar = true) (hl : (e :: es).length < 29) : ((backTo cpos (starEach (e :: es) E)).all (fun x => !x.1) && (backToKw cpos (keywordEach [] E)).all (fun x => x.1.isSome)
      && decide ((e :: es).length + ([] : List Keyword).length + (if ([] : List Keyword).isEmpty then 0 else 1) < 30)) = true := by
  rw [(star_all (pos := cpos) h).2]
  show (true && true && decide _) = true
  rw [Bool.true_and, Bool.true_and]
  exact decide_eq_true (by show (e :: es).length + 0 + 0 < 30; omega)
theorem ownN_snd (N : List Str) (vs : List Nat) : (ownN N vs).map (·.2) = vs := by
  unfold ownN
  rw [List.map_map]
  exact List.map_id' vs

theorem dw_ok {k : Bool} {i : Nat} {tgE iter : Expr} (h : XOk Γ R G N sc ow bl X) (m : dwM N i sc tgE k iter = true) : PI X tgE iter (iWalk Γ R G k i) := by
  cases k with
  | false =>
    cases iter <;> try cases m
    rename_i x p
    have m : (decide (N[i]? = some x) && isVis sc x && okN x) = true := m
    simp only [Bool.and_eq_true, decide_eq_true_eq] at m
    obtain ⟨⟨m1, m2⟩, m3⟩ := m
    exact pi_walkK (s_var (by rw [h.hN]; exact m1) (by rw [h.hsc]; exact isVis_of m2) (okN_of m3).1 (okN_of m3).2)
  | true =>
    unfold dwM at m
    split at m
    · rename_i q; cases q
    · rename_i x p nm apos cpos q
      simp only [Bool.and_eq_true, decide_eq_true_eq] at m
      obtain ⟨⟨⟨m0, m1⟩, mt⟩, ⟨m2, m3⟩, m4⟩ := m
      subst m0
      cases tgE <;> try cases mt
      exact pi_walkI (s_var (by rw [h.hN]; exact m2) (by rw [h.hsc]; exact isVis_of m3) (okN_of m4).1 (okN_of m4).2) rfl m1
    · cases m
theorem mok (Γ : Ga) (G : Gh) (N bl : List Str) (ex : Ex) : MOk Γ G N bl ex := by
  induction ex with
  | var i =>
    exact MOk.ofP rfl rfl fun {R sc ow X e} h m => by
      cases e <;> try cases m
      simp only [Bool.and_eq_true, decide_eq_true_eq] at m
      obtain ⟨⟨m1, m2⟩, m3⟩ := m
      exact ⟨rfl, s_var (by rw [h.hN]; exact m1) (by rw [h.hsc]; exact isVis_of m2) (okN_of m3).1 (okN_of m3).2⟩
  | cint i =>
    exact MOk.ofP rfl rfl fun {R sc ow X e} h m => by
      cases e <;> try cases m
      rename_i c _ _
      cases c <;> try cases m
      simp only [decide_eq_true_eq] at m
      subst m
      exact ⟨rfl, s_int⟩
  | cstr i =>
    exact MOk.ofP rfl rfl fun {R sc ow X e} h m => by
      cases e <;> try cases m
      rename_i c _ _
      cases c <;> try cases m
      simp only [decide_eq_true_eq] at m
      subst m
      exact ⟨rfl, s_str⟩
  | cbl i =>
    exact MOk.ofP rfl rfl fun {R sc ow X e} h m => by
      cases e <;> try cases m
      rename_i c _ _
      cases c <;> try cases m
      simp only [decide_eq_true_eq] at m
      subst m
      exact ⟨rfl, s_bl⟩
  | cnon =>
    exact MOk.ofP rfl rfl fun {R sc ow X e} h m => by
      cases e <;> try cases m
      rename_i c _ _
      cases c <;> try cases m
      exact ⟨rfl, s_non⟩
  | glob y =>
    exact MOk.ofP rfl rfl fun {R sc ow X e} h m => by
      cases e <;> try cases m
      simp only [Bool.and_eq_true, decide_eq_true_eq] at m
      obtain ⟨⟨m1, m2⟩, m3⟩ := m
      subst m1
      exact ⟨rfl, s_glob h.cs (h.gl m2) (okN_of m3).1⟩
  | bin op a b iha ihb =>
    exact MOk.ofP rfl rfl fun {R sc ow X e} h m => by
      cases e <;> try cases m
      simp only [Bool.and_eq_true, decide_eq_true_eq] at m
      obtain ⟨⟨m1, m2⟩, m3⟩ := m
      subst m1
      exact ⟨rfl, s_bin h.hK (iha.E h m2) (ihb.E h m3)⟩
  | neg a iha =>
    exact MOk.ofP rfl rfl fun {R sc ow X e} h m => by
      cases e <;> try cases m
      rename_i op _ _
      cases op <;> try cases m
      exact ⟨rfl, s_neg (iha.E h m)⟩
  | cmp op a b iha ihb =>
    have key : ∀ {R : XP} {sc : Scope} {ow : Str → Bool} {X : Cx} {e : Expr}, XOk Γ R G N sc ow bl X → (mm N bl (.cmp op a b)).E sc ow e = true → PE X e (tE Γ R G (.cmp op a b)) ∧ PT X e (tT Γ R G (.cmp op a b)) := fun {R sc ow X e} h m => by
      cases e <;> try cases m
      rename_i l ops cs pos
      rcases ops with _ | ⟨op', _ | ⟨_, _⟩⟩ <;> try cases m
      rcases cs with _ | ⟨y, _ | ⟨_, _⟩⟩ <;> try cases m
      simp only [mm, mkM, Bool.and_eq_true, decide_eq_true_eq, Bool.not_eq_true'] at m
      obtain ⟨⟨⟨m1, m2⟩, m3⟩, m4⟩ := m
      subst m1
      exact ⟨s_cmp h.un h.hK m2 (iha.E h m3) (ihb.E h m4), s_cmpT h.un h.hK m2 (iha.E h m3) (ihb.E h m4)⟩
    exact MOk.ofE rfl rfl (fun h m => (key h m).1) fun h m => (key h m).2
  | chain op1 op2 a b c iha ihb ihc =>
    have key : ∀ {R : XP} {sc : Scope} {ow : Str → Bool} {X : Cx} {e : Expr}, XOk Γ R G N sc ow bl X → (mm N bl (.chain op1 op2 a b c)).E sc ow e = true → PE X e (tE Γ R G (.chain op1 op2 a b c)) ∧ PT X e (tT Γ R G (.chain op1 op2 a b c)) := fun {R sc ow X e} h m => by
      cases e <;> try cases m
      rename_i l ops cs pos
      rcases ops with _ | ⟨p1, _ | ⟨p2, _ | ⟨_, _⟩⟩⟩ <;> try cases m
      rcases cs with _ | ⟨y, _ | ⟨z, _ | ⟨_, _⟩⟩⟩ <;> try cases m
      simp only [mm, mkM, Bool.and_eq_true, decide_eq_true_eq, Bool.not_eq_true'] at m
      obtain ⟨⟨⟨⟨⟨m1, m2⟩, m3⟩, m4⟩, m5⟩, m6⟩ := m
      subst m1 m2
      exact ⟨s_chain h.un h.hK m3 (iha.E h m4) (ihb.E h m5) (ihc.E h m6), s_chainT h.un h.hK m3 (iha.E h m4) (ihb.E h m5) (ihc.E h m6)⟩
    exact MOk.ofE rfl rfl (fun h m => (key h m).1) fun h m => (key h m).2
  | andn a b iha ihb =>
    have key : ∀ {R : XP} {sc : Scope} {ow : Str → Bool} {X : Cx} {e : Expr}, XOk Γ R G N sc ow bl X → (mm N bl (.andn a b)).E sc ow e = true → PE X e (tE Γ R G (.andn a b)) ∧ PT X e (tT Γ R G (.andn a b)) := fun {R sc ow X e} h m => by
      cases e <;> try cases m
      rename_i op vs pos
      cases op <;> try cases m
      rcases vs with _ | ⟨x, _ | ⟨y, _ | ⟨z, zs⟩⟩⟩ <;> try cases m
      · simp only [mm, mkM, Bool.and_eq_true] at m
        exact ⟨s_and h.hK (iha.E h m.1) (pe_one (ihb.E h m.2)), (s_andT (iha.T h m.1) (pw_and1 (ihb.T h m.2))).pt⟩
      · simp only [mm, mkM, Bool.and_eq_true] at m
        refine ⟨s_and h.hK (iha.E h m.1) (ihb.E h m.2), (s_andT (iha.T h m.1) ⟨fun wh pins s σ H Q I hw => ?_⟩).pt⟩
        exact (ihb.T h m.2).run pins s σ H Q I hw
    exact MOk.ofE rfl rfl (fun h m => (key h m).1) fun h m => (key h m).2
  | orn a b iha ihb =>
    have key : ∀ {R : XP} {sc : Scope} {ow : Str → Bool} {X : Cx} {e : Expr}, XOk Γ R G N sc ow bl X → (mm N bl (.orn a b)).E sc ow e = true → PE X e (tE Γ R G (.orn a b)) ∧ PT X e (tT Γ R G (.orn a b)) := fun {R sc ow X e} h m => by
      cases e <;> try cases m
      rename_i op vs pos
      cases op <;> try cases m
      rcases vs with _ | ⟨x, _ | ⟨y, _ | ⟨z, zs⟩⟩⟩ <;> try cases m
      · simp only [mm, mkM, Bool.and_eq_true] at m
        exact ⟨s_or h.hK (iha.E h m.1) (pe_one (ihb.E h m.2)), (s_orT (iha.T h m.1) (pw_or1 (ihb.T h m.2))).pt⟩
      · simp only [mm, mkM, Bool.and_eq_true] at m
        refine ⟨s_or h.hK (iha.E h m.1) (ihb.E h m.2), (s_orT (iha.T h m.1) ⟨fun wh pins s σ H Q I hw => ?_⟩).pt⟩
        exact (ihb.T h m.2).run pins s σ H Q I hw
    exact MOk.ofE rfl rfl (fun h m => (key h m).1) fun h m => (key h m).2
  | notn a iha =>
    have key : ∀ {R : XP} {sc : Scope} {ow : Str → Bool} {X : Cx} {e : Expr}, XOk Γ R G N sc ow bl X → (mm N bl (.notn a)).E sc ow e = true → PE X e (tE Γ R G (.notn a)) ∧ PT X e (tT Γ R G (.notn a)) := fun {R sc ow X e} h m => by
      cases e <;> try cases m
      rename_i op _ _
      cases op <;> try cases m
      exact ⟨s_not h.hK (iha.E h m), s_notT (iha.T h m)⟩
    exact MOk.ofE rfl rfl (fun h m => (key h m).1) fun h m => (key h m).2
  | ife c a b ihc iha ihb =>
    have key : ∀ {R : XP} {sc : Scope} {ow : Str → Bool} {X : Cx} {e : Expr}, XOk Γ R G N sc ow bl X → (mm N bl (.ife c a b)).E sc ow e = true → PE X e (tE Γ R G (.ife c a b)) ∧ PT X e (tT Γ R G (.ife c a b)) := fun {R sc ow X e} h m => by
      cases e <;> try cases m
      simp only [mm, mkM, Bool.and_eq_true] at m
      exact ⟨s_ife (ihc.T h m.1.1) (iha.E h m.1.2) (ihb.E h m.2), s_ifeT (ihc.T h m.1.1) (iha.T h m.1.2) (ihb.T h m.2)⟩
    exact MOk.ofE rfl rfl (fun h m => (key h m).1) fun h m => (key h m).2
  | tupn as ih =>
    exact MOk.ofP rfl rfl fun {R sc ow X e} h m => by
      cases e <;> try cases m
      exact ⟨rfl, s_tup (ih.A h m)⟩
  | lstn as ih =>
    exact MOk.ofP rfl rfl fun {R sc ow X e} h m => by
      cases e <;> try cases m
      exact ⟨rfl, s_lst (ih.A h m)⟩
  | dnew t =>
    exact MOk.ofP rfl rfl fun {R sc ow X e} h m => by
      cases e <;> try cases m
      rename_i ks vs _
      cases ks <;> cases vs <;> try cases m
      exact ⟨rfl, s_dnew⟩
  | dctn a b iha ihb =>
    exact MOk.ofP rfl rfl fun {R sc ow X e} h m => by
      cases e <;> try cases m
      rename_i ks vs _
      rcases ks with _ | ⟨_ | k, _ | ⟨_, _⟩⟩ <;> try cases m
      rcases vs with _ | ⟨v, _ | ⟨_, _⟩⟩ <;> try cases m
      simp only [Bool.and_eq_true] at m
      exact ⟨rfl, s_dct1 (iha.E h m.1) (ihb.E h m.2)⟩
  | dctw a b a' b' iha ihb iha' ihb' =>
    exact MOk.ofP rfl rfl fun {R sc ow X e} h m => by
      cases e <;> try cases m
      rename_i ks vs _
      rcases ks with _ | ⟨_ | k, _ | ⟨_ | k', _ | ⟨_, _⟩⟩⟩ <;> try cases m
      rcases vs with _ | ⟨v, _ | ⟨v', _ | ⟨_, _⟩⟩⟩ <;> try cases m
      simp only [Bool.and_eq_true] at m
      exact ⟨rfl, s_dct2 (iha.E h m.1.1.1) (ihb.E h m.1.1.2) (iha'.E h m.1.2) (ihb'.E h m.2)⟩
  | srs a ih =>
    exact MOk.ofP rfl rfl fun {R sc ow X e} h m => by
      obtain ⟨p, p2, x, q, q2, rfl, ⟨m2, m3⟩, ⟨n2, n3⟩, m5⟩ := srsM_of m
      exact ⟨rfl, s_srs h.calm h.hK (h.gl m3) (h.bl _ m2) (h.gl n3) (h.bl _ n2) (ih.E h m5) (star_cons (mm_star m5)) rfl⟩
  | lrg a b iha ihb =>
    exact MOk.ofP rfl rfl fun {R sc ow X e} h m => by
      obtain ⟨p, p2, x, y, q, q2, rfl, ⟨m2, m3⟩, ⟨n2, n3⟩, m5, m6⟩ := lrgM_of m
      exact ⟨rfl, s_lrg h.calm (h.gl m3) (h.bl _ m2) (h.gl n3) (h.bl _ n2) (iha.E h m5) (ihb.E h m6) (by rw [star_cons (mm_star m5), star_cons (mm_star m6)] <;> rfl) (star_cons (mm_star m6)) (by rw [star_cons (mm_star m6)] <;> rfl) rfl⟩
  | ptn as ih =>
    exact MOk.ofP rfl rfl fun {R sc ow X e} h m => by
      cases e <;> try cases m
      exact ⟨rfl, s_ptn (ih.A h m)⟩
  | fgt a ih =>
    exact MOk.ofP rfl rfl fun {R sc ow X e} h m => by
      cases e <;> first
        | exact ⟨rfl, s_fgt (ih.E h m)⟩
        | cases m
  | kept i a ih =>
    exact MOk.ofP rfl rfl fun {R sc ow X e} h m => by
      cases e <;> first
        | exact ⟨rfl, s_kept (ih.E h m)⟩
        | cases m
  | nil =>
    exact {
      E := fun h m => by cases m
      T := fun h m => by cases m
      A := fun {R sc ow X es} h m => by
        cases es <;> try cases m
        exact s_anil
      B := fun {R sc ow X es} h m => by
        cases es <;> try cases m
        exact s_bnil
      C := fun {R sc ow X es} ms h m => by
        cases es <;> try cases m
        cases ms with
        | nil => exact s_cnil
        | cons b ms => exact ⟨fun pos pins s σ H Q I ⟨Z, env, Q0, hR, hw, hq⟩ => False.elim hw⟩
      O := fun {R sc ow X o} h m => by
        cases o <;> try cases m
        exact s_pnone
      I := fun h m => by cases m }
  | cons a as iha ih =>
    exact {
      E := fun h m => by cases m
      T := fun h m => by cases m
      A := fun {R sc ow X es} h m => by
        cases es <;> try cases m
        have m' := m
        simp only [mm, Bool.and_eq_true] at m'
        exact s_acons (star_cons (mm_star m'.1)) (iha.E h m'.1) (ih.A h m'.2)
      B := fun {R sc ow X es} h m => by
        cases es <;> try cases m
        have m' := m
        simp only [mm, Bool.and_eq_true] at m'
        exact s_bcons (star_cons (mm_star m'.1)) (iha.E h m'.1) (ih.B h m'.2)
      C := fun {R sc ow X es} ms h m => by
        cases es <;> try cases m
        have m' := m
        simp only [mm, Bool.and_eq_true] at m'
        cases ms with
        | nil => exact ⟨fun pos pins s σ H Q I ⟨Z, env, Q0, hR, hw, hq⟩ => False.elim hw⟩
        | cons b ms => exact s_ccons (star_cons (mm_star m'.1)) (iha.E h m'.1) (ih.C ms h m'.2)
      O := fun h m => by cases m
      I := fun h m => by cases m }
  | call f as ih =>
    exact MOk.ofP rfl rfl fun {R sc ow X e} h m => by
      cases e <;> try cases m
      rename_i fe es kws pos
      cases fe <;> try cases m
      cases kws <;> try cases m
      simp only [Bool.and_eq_true, decide_eq_true_eq] at m
      obtain ⟨⟨⟨⟨m1, m2⟩, m3⟩, m4⟩, m5⟩ := m
      subst m1
      cases es with
      | nil =>
        have : as = .nil := by
          cases as <;> first | rfl | simp [isNilX] at m5
        subst this
        exact ⟨rfl, s_call0 h.hK h.fn h.px (h.gl m2) (okN_of m3).1⟩
      | cons e es =>
        have st := mm_stars m4
        rw [List.all_cons, Bool.and_eq_true] at st
        exact ⟨rfl, s_call h.hK h.fn h.px (h.gl m2) (okN_of m3).1 (fun ms => ih.C ms h m4) (star_cons st.1) (star_all st.2).1⟩
  | blt b as ih =>
    exact MOk.ofP rfl rfl fun {R sc ow X e} h m => by
      cases e <;> try cases m
      rename_i fe es kws pos
      cases fe <;> try cases m
      cases es <;> cases kws <;> try cases m
      simp only [Bool.and_eq_true, decide_eq_true_eq] at m
      obtain ⟨⟨⟨m1, m2⟩, m3⟩, m4⟩ := m
      subst m1
      have st := mm_stars m4
      rw [List.all_cons, Bool.and_eq_true] at st
      exact ⟨rfl, s_blt h.gd h.un h.calm h.hK (h.gl m2) (h.bl _ m3) (ih.B h m4) (star_cons st.1) (star_all st.2).1⟩
  | meth mt o as iho ih =>
    exact MOk.ofP rfl rfl fun {R sc ow X e} h m => by
      cases e <;> try cases m
      rename_i fe es kws pos
      cases fe <;> try cases m
      cases es <;> cases kws <;> try cases m
      simp only [Bool.and_eq_true, decide_eq_true_eq] at m
      obtain ⟨⟨⟨⟨⟨⟨m1, m2⟩, m3⟩, m4⟩, m5⟩, m6⟩, m7⟩ := m
      subst m1
      have st := mm_stars m7
      have st2 := st
      rw [List.all_cons, Bool.and_eq_true] at st2
      have hm : MtOk X mt := by
        cases mt <;> first | exact mtok_get h.un | exact mtok_join | exact mtok_index h.un | exact mtok_count h.un | exact mtok_split | exact mtok_startswith | exact mtok_endswith | (exfalso; revert m5; decide)
      exact ⟨rfl, s_meth h.hK hm (iho.E h m6) (ih.B h m7) (plainO_of m2) (few_of st m4) m3 (star_cons st2.1) (star_all st2.2).1⟩
  | «mut» mt i as ih =>
    exact MOk.ofP rfl rfl fun {R sc ow X e} h m => by
      cases e <;> try cases m
      rename_i fe es kws pos
      cases fe <;> try cases m
      rename_i o _ _
      cases o <;> try cases m
      cases es <;> cases kws <;> try cases m
      simp only [Bool.and_eq_true, decide_eq_true_eq] at m
      obtain ⟨⟨⟨⟨⟨⟨⟨m1, m2⟩, m3⟩, m4⟩, m5⟩, m6⟩, m7⟩, m8⟩ := m
      subst m1
      have st := mm_stars m8
      have st2 := st
      rw [List.all_cons, Bool.and_eq_true] at st2
      have hm : MmOk X mt := by
        cases mt <;> first | exact mmok_append | exact mmok_remove | exact mmok_extend | exact mmok_insert | (exfalso; revert m7; decide)
      exact ⟨rfl, s_mut h.hK hm (by rw [h.hN]; exact m2) (by rw [h.hsc]; exact isVis_of m3) (okN_of m4).1 (okN_of m4).2 (ih.A h m8) (plainO_of rfl) (few_of st m6) m5 (star_cons st2.1) (star_all st2.2).1⟩
  | idx a i iha ihi =>
    exact MOk.ofP rfl rfl fun {R sc ow X e} h m => by
      cases e <;> try cases m
      simp only [Bool.and_eq_true] at m
      exact ⟨rfl, s_idx h.un h.hK (plainI_of m.1.1) (iha.E h m.1.2) (ihi.E h m.2)⟩
  | sls a lo hi st iha ihl ihh ihs =>
    exact MOk.ofP rfl rfl fun {R sc ow X e} h m => by
      cases e <;> try cases m
      rename_i x y pos
      cases y <;> try cases m
      rename_i l hh c p2
      cases c <;> try cases m
      simp only [Bool.and_eq_true] at m
      exact ⟨rfl, s_sls h.hK (iha.E h m.1.1.1) (ihl.O h m.1.1.2) (ihh.O h m.1.2) (ihs.O h m.2)⟩
  | slc a lo hi iha ihl ihh =>
    exact MOk.ofP rfl rfl fun {R sc ow X e} h m => by
      cases e <;> try cases m
      rename_i x y pos
      cases y <;> try cases m
      rename_i l hh st p2
      cases st <;> try cases m
      simp only [Bool.and_eq_true] at m
      exact ⟨rfl, s_slc h.hK (iha.E h m.1.1) (ihl.O h m.1.2) (ihh.O h m.2)⟩
  | isi a t iha =>
    exact MOk.ofP rfl rfl fun {R sc ow X e} h m => by
      cases e <;> try cases m
      rename_i fe es kws pos
      cases fe <;> try cases m
      rcases es with _ | ⟨x, _ | ⟨y, _ | ⟨_, _⟩⟩⟩ <;> try first | cases m | (exfalso; revert m; split <;> simp_all; done)
      cases y <;> try cases m
      cases kws <;> try cases m
      simp only [Bool.and_eq_true, decide_eq_true_eq] at m
      obtain ⟨⟨⟨⟨⟨⟨m1, m2⟩, m3⟩, m4⟩, m5⟩, m6⟩, m7⟩ := m
      subst m1 m4
      exact ⟨rfl, s_isi h.hK (h.gl m3) (h.bl _ m2) (h.gl m6) (h.bl _ m5) (iha.E h m7) (star_cons (mm_star m7)) (star_all rfl).1⟩
  | comp vs tg it c e ihi ihc ihe =>
    exact MOk.ofP rfl rfl fun {R sc ow X ex} h m => by
      cases ex <;> try cases m
      rename_i elt gens scope pos
      rcases gens with _ | ⟨⟨tgE, iter, ifs, asy⟩, _ | ⟨_, _⟩⟩ <;> try first | cases m | (exfalso; revert m; split <;> simp_all; done)
      by_cases ha : asy = 0
      · subst ha
        simp only [Bool.and_eq_true] at m
        obtain ⟨⟨⟨⟨⟨⟨m1, m2⟩, m3⟩, m4⟩, m5⟩, m6⟩, m7⟩ := m
        refine ⟨rfl, s_comp h.calm (by rw [h.hN]; exact h.nd) (ihi.I h m1) (blkOk_by (own := ownN N vs) (by rw [h.hN, h.hsc]; exact m3)) (ownN_snd N vs) (fun s H C cl fp => tg_ok h.blk.tok tg tgE m4) (fun s H C cl fp => ?_) (fun s H C cl fp => ihe.E h.blk m7) (fun i hi => ?_) (notSet_of m2)⟩
        · rcases ifs with _ | ⟨ce, _ | ⟨_, _⟩⟩
          · cases c <;> try cases m6
            exact ⟨fun pins s σ H Q I ⟨Z, env, Q0, hR, hw, hq⟩ => pts_nil.run pins s σ H Q I (hq true _ _ _ hR .refl hw)⟩
          · exact pts_one (ihc.T h.blk m6)
          · cases m6
        · rw [List.all_eq_true] at m5
          simpa using m5 i hi
      · exfalso
        revert m
        split
        · rename_i heq
          simp only [Expr.ListComp.injEq, List.cons.injEq, Comprehension.mk.injEq] at heq
          exact fun _ => ha heq.2.1.1.2.2.2
        · intro m; cases m
  | isx i cs => exact MOk.ofP rfl rfl fun {R sc ow X e} h m => by cases m
  | fld i x => exact MOk.ofP rfl rfl fun {R sc ow X e} h m => by cases m
  | callx x i => exact MOk.ofP rfl rfl fun {R sc ow X e} h m => by cases m
  | zip2 a b iha ihb =>
    exact MOk.ofI rfl fun {R sc ow X tg e} h m => by
      cases e <;> try cases m
      rename_i fe es kws pos
      cases fe <;> try cases m
      rcases es with _ | ⟨x, _ | ⟨y, _ | ⟨_, _⟩⟩⟩ <;> try cases m
      cases kws <;> try cases m
      simp only [Bool.and_eq_true, decide_eq_true_eq] at m
      obtain ⟨⟨⟨⟨⟨m1, m2⟩, m3⟩, m4⟩, m5⟩, m6⟩ := m
      subst m1
      cases tg <;> try cases m4
      exact s_z2 h.hK (h.gl m3) (h.bl _ m2) (iha.E h m5) (ihb.E h m6) (star_cons (mm_star m5)) (star_cons (mm_star m6)) (star_all (by simp [mm_star m6])).1
  | zip3 a b c iha ihb ihc =>
    exact MOk.ofI rfl fun {R sc ow X tg e} h m => by
      cases e <;> try cases m
      rename_i fe es kws pos
      cases fe <;> try cases m
      rcases es with _ | ⟨x, _ | ⟨y, _ | ⟨z, _ | ⟨_, _⟩⟩⟩⟩ <;> try cases m
      cases kws <;> try cases m
      simp only [Bool.and_eq_true, decide_eq_true_eq] at m
      obtain ⟨⟨⟨⟨⟨⟨m1, m2⟩, m3⟩, m4⟩, m5⟩, m6⟩, m7⟩ := m
      subst m1
      cases tg <;> try cases m4
      exact s_z3 h.hK (h.gl m3) (h.bl _ m2) (iha.E h m5) (ihb.E h m6) (ihc.E h m7) (star_cons (mm_star m5)) (star_cons (mm_star m6)) (star_cons (mm_star m7)) (star_all (by simp [mm_star m6, mm_star m7])).1
  | enum a iha =>
    exact MOk.ofI rfl fun {R sc ow X tg e} h m => by
      cases e <;> try cases m
      rename_i fe es kws pos
      cases fe <;> try cases m
      rcases es with _ | ⟨x, _ | ⟨_, _⟩⟩ <;> try cases m
      cases kws <;> try cases m
      simp only [Bool.and_eq_true, decide_eq_true_eq] at m
      obtain ⟨⟨⟨⟨m1, m2⟩, m3⟩, m4⟩, m5⟩ := m
      subst m1
      cases tg <;> try cases m4
      exact s_en h.hK (h.gl m3) (h.bl _ m2) (iha.E h m5) (star_cons (mm_star m5))
  | rng1 a iha =>
    exact MOk.ofI rfl fun {R sc ow X tg e} h m => by
      cases e <;> try cases m
      rename_i fe es kws pos
      cases fe <;> try cases m
      rcases es with _ | ⟨x, _ | ⟨_, _⟩⟩ <;> try cases m
      cases kws <;> try cases m
      simp only [Bool.and_eq_true, decide_eq_true_eq] at m
      obtain ⟨⟨⟨m1, m2⟩, m3⟩, m5⟩ := m
      subst m1
      exact s_r1 (h.gl m3) (h.bl _ m2) (iha.E h m5) (star_cons (mm_star m5))
  | rng2 a b iha ihb =>
    exact MOk.ofI rfl fun {R sc ow X tg e} h m => by
      cases e <;> try cases m
      rename_i fe es kws pos
      cases fe <;> try cases m
      rcases es with _ | ⟨x, _ | ⟨y, _ | ⟨_, _⟩⟩⟩ <;> try cases m
      cases kws <;> try cases m
      simp only [Bool.and_eq_true, decide_eq_true_eq] at m
      obtain ⟨⟨⟨⟨m1, m2⟩, m3⟩, m5⟩, m6⟩ := m
      subst m1
      exact s_r2 (h.gl m3) (h.bl _ m2) (iha.E h m5) (ihb.E h m6) (by rw [star_cons (mm_star m5), star_cons (mm_star m6)]; rfl) (star_cons (mm_star m6))
  | rng3 a b c iha ihb ihc =>
    exact MOk.ofI rfl fun {R sc ow X tg e} h m => by
      cases e <;> try cases m
      rename_i fe es kws pos
      cases fe <;> try cases m
      rcases es with _ | ⟨x, _ | ⟨y, _ | ⟨z, _ | ⟨_, _⟩⟩⟩⟩ <;> try cases m
      cases kws <;> try cases m
      simp only [Bool.and_eq_true, decide_eq_true_eq] at m
      obtain ⟨⟨⟨⟨⟨m1, m2⟩, m3⟩, m5⟩, m6⟩, m7⟩ := m
      subst m1
      exact s_r3 (h.gl m3) (h.bl _ m2) (iha.E h m5) (ihb.E h m6) (ihc.E h m7) (star_cons (mm_star m5)) (star_cons (mm_star m6)) (star_cons (mm_star m7)) (star_all (by simp [mm_star m6, mm_star m7])).1
  | vals a iha =>
    exact MOk.ofI rfl fun {R sc ow X tg e} h m => by
      cases e <;> try cases m
      rename_i fe es kws pos
      cases fe <;> try cases m
      rcases es with _ | ⟨x, _⟩ <;> try cases m
      cases kws <;> try cases m
      simp only [Bool.and_eq_true, decide_eq_true_eq] at m
      obtain ⟨⟨⟨m1, m2⟩, m3⟩, m5⟩ := m
      subst m1
      exact s_vals (iha.E h m5) (plainO_of m3) m2
  | compd k vs tg i c e ihc ihe =>
    exact MOk.ofP rfl rfl fun {R sc ow X ex} h m => by
      cases ex <;> try cases m
      rename_i elt gens scope pos
      rcases gens with _ | ⟨⟨tgE, iter, ifs, asy⟩, _ | ⟨_, _⟩⟩ <;> try first | cases m | (exfalso; revert m; split <;> simp_all; done)
      by_cases ha : asy = 0
      · subst ha
        simp only [Bool.and_eq_true] at m
        obtain ⟨⟨⟨⟨⟨⟨m1, m2⟩, m3⟩, m4⟩, m5⟩, m6⟩, m7⟩ := m
        refine ⟨rfl, s_compd h.calm (by rw [h.hN]; exact h.nd) (dw_ok h m1) (blkOk_by (own := ownN N vs) (by rw [h.hN, h.hsc]; exact m3)) (ownN_snd N vs) (fun s H C cl fp => tg_ok h.blk.tok tg tgE m4) (fun s H C cl fp => ?_) (fun s H C cl fp => ihe.E h.blk m7) (fun i hi => ?_) (notSet_of m2)⟩
        · rcases ifs with _ | ⟨ce, _ | ⟨_, _⟩⟩
          · cases c <;> try cases m6
            exact ⟨fun pins s σ H Q I ⟨Z, env, Q0, hR, hw, hq⟩ => pts_nil.run pins s σ H Q I (hq true _ _ _ hR .refl hw)⟩
          · exact pts_one (ihc.T h.blk m6)
          · cases m6
        · rw [List.all_eq_true] at m5
          simpa using m5 i hi
      · exfalso
        revert m
        split
        · rename_i heq
          simp only [Expr.ListComp.injEq, List.cons.injEq, Comprehension.mk.injEq] at heq
          exact fun _ => ha heq.2.1.1.2.2.2
        · intro m; cases m
/-- a comprehension's parts -/
structure CompParts (Γ : Ga) (R : XP) (G : Gh) (N : List Str) (X : Cx) (vs : List Nat) (tg : Tg) (it c e : Ex) (elt : Expr) (scope : Scope) (tgE iter : Expr) (ifs : List Expr) : Prop where
  hi : PI X tgE iter (tI Γ R G it)
  ok : BlkOk X.N X.env.scope scope (ownN N vs)
  hg : ∀ (s : Shared) (H : Hp) (C : Addr) (cl : List (Str × Addr)) (fp : List Addr), PG (X.blk s H scope (compEnvC scope cl C X.env) fp) tgE (tG G tg)
  ht : ∀ (s : Shared) (H : Hp) (C : Addr) (cl : List (Str × Addr)) (fp : List Addr), PTs (X.blk s H scope (compEnvC scope cl C X.env) fp) ifs (tT Γ noX G c)
  he : ∀ (s : Shared) (H : Hp) (C : Addr) (cl : List (Str × Addr)) (fp : List Addr), PE (X.blk s H scope (compEnvC scope cl C X.env) fp) elt (tE Γ noX G e)
  nm : ∀ i ∈ tg.nms, i ∈ vs
  hs : ∀ x, foldedSetIterable iter X.env x = pure x
theorem comp_parts {vs : List Nat} {tg : Tg} {it c e : Ex} {elt : Expr} {gens : List Comprehension} {scope : Scope} {pos : Pos} (h : XOk Γ R G N sc ow bl X) (m : (mm N bl (.comp vs tg it c e)).E sc ow (.ListComp elt gens scope pos) = true) :
    ∃ tgE iter ifs, gens = [⟨tgE, iter, ifs, 0⟩] ∧ CompParts Γ R G N X vs tg it c e elt scope tgE iter ifs := by
  rcases gens with _ | ⟨⟨tgE, iter, ifs, asy⟩, _ | ⟨_, _⟩⟩ <;> try first | cases m | (exfalso; simp [mm, mkM] at m; done)
  by_cases ha : asy = 0
  · subst ha
    simp only [mm, mkM, Bool.and_eq_true] at m
    obtain ⟨⟨⟨⟨⟨⟨m1, m2⟩, m3⟩, m4⟩, m5⟩, m6⟩, m7⟩ := m
    refine ⟨tgE, iter, ifs, rfl, (mok Γ G N bl it).I h m1, blkOk_by (own := ownN N vs) (by rw [h.hN, h.hsc]; exact m3), (fun s H C cl fp => tg_ok h.blk.tok tg tgE m4), (fun s H C cl fp => ?_), (fun s H C cl fp => (mok Γ G N bl e).E h.blk m7), (fun i hi => ?_), (notSet_of m2)⟩
    · rcases ifs with _ | ⟨ce, _ | ⟨_, _⟩⟩
      · cases c <;> try cases m6
        exact ⟨fun pins s σ H Q I ⟨Z, env, Q0, hR, hw, hq⟩ => pts_nil.run pins s σ H Q I (hq true _ _ _ hR .refl hw)⟩
      · exact pts_one ((mok Γ G N bl c).T h.blk m6)
      · cases m6
    · rw [List.all_eq_true] at m5
      simpa using m5 i hi
  · exfalso
    revert m
    simp only [mm, mkM]
    split
    · rename_i heq
      simp only [Expr.ListComp.injEq, List.cons.injEq, Comprehension.mk.injEq] at heq
      exact fun _ => ha heq.2.1.1.2.2.2
    · intro m; cases m
end
end TG
end
section
namespace TG
open PySem PySem.Spec PyProof.Rows L2

structure Mon (Z : Addr → Prop) (H : Hp) (Z' : Addr → Prop) (H' : Hp) : Prop where
  zz : ∀ b, Z b → Z' b
  hk : ∀ b o, Z b → H b = some o → H' b = some o
structure PostOk (G : Gh) (Z : Addr → Prop) (H : Hp) (P : Post) (D : Ends) : Prop where
  nx : ∀ σ' Z' H' env', Rel G σ' Z' H' env' → Mon Z H Z' H' → P.nx env' → D.nx σ' H'
  rt : ∀ r v σ' Z' H' env', Rel G σ' Z' H' env' → Mon Z H Z' H' → RepR G σ' Z' H' env' r v → (∀ i, r ≠ .bo i) → P.rt r env' → D.rt v H'
  bk : ∀ σ' Z' H' env', Rel G σ' Z' H' env' → Mon Z H Z' H' → P.bk env' → D.bk σ' H'
  ct : ∀ σ' Z' H' env', Rel G σ' Z' H' env' → Mon Z H Z' H' → P.ct env' → D.ct σ' H'
def tS (Γ : Ga) (R : XP) (G : Gh) (sm : Sm) : TS := fun D σ H => ∃ Z env P, Rel G σ Z H env ∧ wpS Γ R sm env P ∧ PostOk G Z H P D
section
variable {Γ : Ga} {R : XP} {G : Gh} {X : Cx} {σ σ' : L2.St} {Z Z' Z2 : Addr → Prop} {H H' H2 : Hp} {env env' env2 : Env} {v : V} {d : D} {a : Addr} {P : Post} {D : Ends}
theorem Mon.refl : Mon Z H Z H := ⟨fun _ z => z, fun _ _ _ h => h⟩
theorem Mon.trans (m : Mon Z H Z' H') (n : Mon Z' H' Z2 H2) : Mon Z H Z2 H2 := ⟨fun b z => n.zz b (m.zz b z), fun b o z h => n.hk b o (m.zz b z) (m.hk b o z h)⟩
theorem Stp.mon (s : Stp σ Z H env Z' H' env') (Rl : Rel G σ Z H env) : Mon Z H Z' H' := ⟨s.grow.zz, fun b o z h => s.grow.hk b o h (Rl.nO z)⟩
theorem PostOk.mono (p : PostOk G Z H P D) (m : Mon Z H Z' H') : PostOk G Z' H' P D :=
  ⟨fun s z h e r n q => p.nx s z h e r (m.trans n) q, fun x v s z h e r n q y w => p.rt x v s z h e r (m.trans n) q y w, fun s z h e r n q => p.bk s z h e r (m.trans n) q, fun s z h e r n q => p.ct s z h e r (m.trans n) q⟩
theorem ps_imp {st : Stmt} {t t' : TS} (h : PS X st t) (i : ∀ D σ H, t' D σ H → t D σ H) : PS X st t' := ⟨fun pins s σ H D I hw => h.run pins s σ H D I (i D σ H hw)⟩
theorem pss_imp {st : List Stmt} {t t' : TS} (h : PSs X st t) (i : ∀ D σ H, t' D σ H → t D σ H) : PSs X st t' := ⟨fun pins s σ H D I hw => h.run pins s σ H D I (i D σ H hw)⟩
theorem ps_no {st : Stmt} {t : TS} (h : ∀ D σ H, ¬ t D σ H) : PS X st t := ⟨fun _ _ σ H D _ hw => (h D σ H hw).elim⟩
theorem set_self {j : Nat} (h : σ[j]? = some (some v)) : σ.set j (some v) = σ := by
  refine List.ext_getElem? fun i => ?_
  by_cases q : j = i
  · subst q
    rw [List.getElem?_set_self (List.getElem?_eq_some_iff.mp h).1, h]
  · rw [List.getElem?_set_ne q]
theorem st_ok {j : Nat} {r : Rv} {K : Env → Prop} (Rl : Rel G σ Z H env) (V1 : RepR G σ Z H env r v) (w : stS j r env K) : ∃ env' Z', Rel G (σ.set j (some v)) Z' H env' ∧ Mon Z H Z' H ∧ K env' := by
  unfold stS at w
  have nio : ∀ {W : Prop}, (match env[j]? with | some (Sl.io _) => False | some (.lk _) => False | none => False | _ => W) → (∀ d, env[j]? ≠ some (Sl.io d)) ∧ W := fun {W} w => by
    split at w
    · exact w.elim
    · exact w.elim
    · exact w.elim
    · next h _ _ => exact ⟨fun d e => h d e, w⟩
  obtain ⟨n, w0⟩ := nio w
  clear w
  have w := w0
  clear w0
  cases r with
  | im d => exact ⟨_, Z, Rl.setIm n V1, .refl, w⟩
  | fr d =>
    obtain ⟨a, rfl, nz, no, h0, t⟩ := V1
    exact ⟨_, Z, Rl.setOw n nz no h0 t, .refl, w⟩
  | bo i =>
    have V1 : σ[i]? = some (some v) := V1
    simp only at w
    split at w
    · next d h =>
      by_cases q : i = j
      · rw [if_pos q] at w
        subst q
        rw [set_self V1]
        exact ⟨env, Z, Rl, .refl, w⟩
      · rw [if_neg q] at w
        obtain ⟨a, e, R1, S1, r1⟩ := Rl.freezeSlot h
        rw [V1] at e; cases e
        exact ⟨_, _, R1.setIm (fun d => by rw [List.getElem?_set_ne q]; exact n d) r1, S1.mon Rl, w⟩
    · next d h =>
      obtain ⟨u, e, t⟩ := Rl.im i d h
      rw [V1] at e; cases e
      exact ⟨_, Z, Rl.setIm n t, .refl, w⟩
    · exact w.elim
theorem t_asg {j : Nat} {e : Ex} (hx : tS Γ R G (.asg (.nm j) e) D σ H) : tE Γ R G e σ H fun x H1 => gName j x σ H1 D.nx := by
  obtain ⟨Z, env, P, hR, hw, hp⟩ := hx
  refine ⟨Z, env, _, hR, hw, fun r e1 v Z1 H1 R1 S1 V1 _ w1 => ?_⟩
  obtain ⟨e2, Z2, R2, m, w2⟩ := st_ok R1 V1 w1
  exact hp.nx _ _ _ _ R2 ((S1.mon hR).trans m) w2
theorem s_asgtp {ts : Tg} {e : Ex} {tg ve : Expr} {pos : Pos} (he : PE X ve (tE Γ R G e)) (hg : PG X tg (tGt G ts)) (hs : swapsWithSole [tg] ve pos.line X.env = pure false) (hw : swappedStores [tg] ve X.env = pure none)
    (h1 : (assignEach [tg] X.env).map (·.2) = [assign tg X.env]) : PS X (.Assign [tg] ve pos) (tS Γ R G (.asg (.tp ts) e)) := by
  refine ps_imp (ps_asg he hg hs hw h1) fun D σ H ⟨Z, env, P, hR, hw, hp⟩ => ?_
  have hw : wpE Γ R e env fun r e1 => rd r e1 fun d => bindT (.tp ts) d e1 P.nx := hw
  refine ⟨Z, env, _, hR, hw, fun r e1 v Z1 H1 R1 S1 V1 _ w1 => ?_⟩
  obtain ⟨d, t, w2⟩ := rd_ok R1 V1 w1
  exact ⟨Z1, e1, d, _, R1, t, w2, fun e2 σ2 H2 R2 t2 w3 => hp.nx _ _ _ _ R2 ((S1.mon hR).trans (t2.stp.mon R1)) w3⟩
theorem reps2 {vs : List V} {x y : TG.D} {K : PySem.W.Frag} (r : Reps K Z H vs [x, y]) : ∃ a b, vs = [a, b] ∧ Rep K Z H a x ∧ Rep K Z H b y := by
  cases r with
  | cons h r => cases r with
    | cons h' r => cases r; exact ⟨_, _, rfl, h, h'⟩
theorem reps3 {vs : List V} {x y z : TG.D} {K : PySem.W.Frag} (r : Reps K Z H vs [x, y, z]) : ∃ a b c, vs = [a, b, c] ∧ Rep K Z H a x ∧ Rep K Z H b y ∧ Rep K Z H c z := by
  cases r with
  | cons h r => cases r with
    | cons h' r => cases r with
      | cons h'' r => cases r; exact ⟨_, _, _, rfl, h, h', h''⟩
theorem s_par2 {i j : Nat} {a b : Ex} {x y : Str} {ea eb : Expr} {px py pt pos : Pos} {kt k2 pt2} (hc : X.calm = true) (hN : X.N.Nodup) (hi : X.N[i]? = some x) (hj : X.N[j]? = some y) (hij : i ≠ j)
    (hx : X.env.scope.names.lookup x = some .local) (hy : X.env.scope.names.lookup y = some .local) (ha : PA X [ea, eb] (tA Γ R G (.cons a (.cons b .nil))))
    (hw : swappedStores [.Tuple [.Name x px, .Name y py] kt pt] (.Tuple [ea, eb] k2 pt2) X.env = pure (some [x, y])) : PS X (.Assign [.Tuple [.Name x px, .Name y py] kt pt] (.Tuple [ea, eb] k2 pt2) pos) (tS Γ R G (.par2 i j a b)) := by
  refine ps_imp (ps_par hc hN hi hj hij hx hy ha hw) fun D σ H ⟨Z, env, P, hR, hw, hp⟩ => ?_
  refine ⟨Z, env, _, hR, hw, fun ds e1 vs Z1 H1 R1 S1 r1 w1 => ?_⟩
  rcases ds with _ | ⟨dx, _ | ⟨dy, _ | ⟨_, _⟩⟩⟩ <;> try exact False.elim w1
  have w1 : stS i (.im dx) e1 fun e2 => stS j (.im dy) e2 P.nx := w1
  obtain ⟨u, w, rfl, ru, rw'⟩ := reps2 r1
  obtain ⟨R2, t2, w2⟩ := stS_im R1 ru w1
  obtain ⟨R3, t3, w3⟩ := stS_im R2 (t2.stp.rep R1 rw') w2
  exact ⟨u, w, rfl, hp.nx _ _ _ _ R3 (((S1.mon hR).trans (t2.stp.mon R1)).trans (t3.stp.mon R2)) w3⟩
theorem s_par3 {i j k : Nat} {a b c : Ex} {x y z : Str} {ea eb ec : Expr} {px py pz pt pos : Pos} {kt k2 pt2} (hc : X.calm = true) (hN : X.N.Nodup) (hi : X.N[i]? = some x) (hj : X.N[j]? = some y) (hk : X.N[k]? = some z) (hij : i ≠ j) (hik : i ≠ k) (hjk : j ≠ k)
    (hx : X.env.scope.names.lookup x = some .local) (hy : X.env.scope.names.lookup y = some .local) (hz : X.env.scope.names.lookup z = some .local) (ha : PA X [ea, eb, ec] (tA Γ R G (.cons a (.cons b (.cons c .nil)))))
    (hw : swappedStores [.Tuple [.Name x px, .Name y py, .Name z pz] kt pt] (.Tuple [ea, eb, ec] k2 pt2) X.env = pure (some [x, y, z])) : PS X (.Assign [.Tuple [.Name x px, .Name y py, .Name z pz] kt pt] (.Tuple [ea, eb, ec] k2 pt2) pos) (tS Γ R G (.par3 i j k a b c)) := by
  refine ps_imp (ps_par3 hc hN hi hj hk hij hik hjk hx hy hz ha hw) fun D σ H ⟨Z, env, P, hR, hw, hp⟩ => ?_
  refine ⟨Z, env, _, hR, hw, fun ds e1 vs Z1 H1 R1 S1 r1 w1 => ?_⟩
  rcases ds with _ | ⟨dx, _ | ⟨dy, _ | ⟨dz, _ | ⟨_, _⟩⟩⟩⟩ <;> try exact False.elim w1
  have w1 : stS i (.im dx) e1 fun e2 => stS j (.im dy) e2 fun e3 => stS k (.im dz) e3 P.nx := w1
  obtain ⟨u, w, t, rfl, ru, rw', rt⟩ := reps3 r1
  obtain ⟨R2, t2, w2⟩ := stS_im R1 ru w1
  obtain ⟨R3, t3, w3⟩ := stS_im R2 (t2.stp.rep R1 rw') w2
  obtain ⟨R4, t4, w4⟩ := stS_im R3 (t3.stp.rep R2 (t2.stp.rep R1 rt)) w3
  exact ⟨u, w, t, rfl, hp.nx _ _ _ _ R4 ((((S1.mon hR).trans (t2.stp.mon R1)).trans (t3.stp.mon R2)).trans (t4.stp.mon R3)) w4⟩
theorem st_fr {j : Nat} {d : TG.D} {env : Env} {K : Env → Prop} (w : stS j (.fr d) env K) : (∀ e, env[j]? ≠ some (Sl.io e)) ∧ j < env.length ∧ K (env.set j (.ow d)) := by
  unfold stS at w
  split at w
  · exact w.elim
  · exact w.elim
  · exact w.elim
  · next h1 h2 h3 =>
    refine ⟨fun e q => h1 e q, ?_, w⟩
    by_cases l : j < env.length
    · exact l
    · exact absurd (List.getElem?_eq_none (Nat.le_of_not_lt l)) h3
theorem ow_set {i : Nat} {p q : Addr} {d : TG.D} (Rl : Rel G σ Z H env) (l : i < env.length) (ne : p ≠ q) (no : ¬ Ow σ env p) : ¬ Ow (σ.set i (some (V.ref q))) (env.set i (.ow d)) p := by
  rintro ⟨j, o, e⟩
  by_cases h : j = i
  · subst h
    rw [List.getElem?_set_self (by rw [← Rl.len]; exact l)] at e
    cases e; exact ne rfl
  · rw [List.getElem?_set_ne (Ne.symm h)] at e
    exact no ⟨j, (own_set o).elim id fun z => absurd z h, e⟩
theorem s_pak2 {i j : Nat} {a b : Ex} {x y : Str} {ea eb : Expr} {px py pt pos : Pos} {kt k2 pt2} (hc : X.calm = true) (hN : X.N.Nodup) (hi : X.N[i]? = some x) (hj : X.N[j]? = some y) (hij : i ≠ j)
    (hx : X.env.scope.names.lookup x = some .local) (hy : X.env.scope.names.lookup y = some .local) (ha : PE X ea (tE Γ R G a)) (hb : PE X eb (tE Γ R G b)) (sa : starEach [ea, eb] X.env = (false, eval ea X.env) :: starEach [eb] X.env) (sb : starEach [eb] X.env = (false, eval eb X.env) :: starEach [] X.env)
    (hw : swappedStores [.Tuple [.Name x px, .Name y py] kt pt] (.Tuple [ea, eb] k2 pt2) X.env = pure (some [x, y])) : PS X (.Assign [.Tuple [.Name x px, .Name y py] kt pt] (.Tuple [ea, eb] k2 pt2) pos) (tS Γ R G (.pak2 i j a b)) := by
  refine ps_imp (ps_par hc hN hi hj hij hx hy (pa_cons ha (pa_cons hb pa_nil sb) sa) hw) fun D σ H ⟨Z, env, P, hR, hw, hp⟩ => ?_
  refine ⟨Z, env, _, hR, hw, fun r1 e1 v1 Z1 H1 R1 S1 V1 N1 w1 => ?_⟩
  refine ⟨Z1, e1, _, R1, w1, fun r2 e2 v2 Z2 H2 R2 S2 V2 N2 w2 => ?_⟩
  cases r1 <;> cases r2 <;> try exact w2.elim
  have V1' := S2.repR R1 V1
  obtain ⟨b1, q1, _, _, _, t1'⟩ := V1
  obtain ⟨a1, rfl, nz1, no1, h01, t1⟩ := V1'
  obtain ⟨a2, rfl, nz2, no2, h02, t2⟩ := V2
  cases q1
  have ne : a2 ≠ b1 := fun e => by
    obtain ⟨o, ho⟩ := t1'.there
    have := N2 a2 rfl
    rw [e, ho] at this
    cases this
  obtain ⟨n1, l1, w3⟩ := st_fr w2
  obtain ⟨n2, l2, w4⟩ := st_fr w3
  have R3 := R2.setOw n1 nz1 no1 h01 t1
  have R4 := R3.setOw n2 nz2 (ow_set R2 l1 ne no2) h02 t2
  exact ⟨_, _, rfl, hp.nx _ _ _ _ R4 ((S1.mon hR).trans (S2.mon R1)) w4⟩
theorem s_new2 {i j : Nat} {x y : Str} {px py pt pos pa pb : Pos} {kt k2 pt2} (hc : X.calm = true) (hN : X.N.Nodup) (hi : X.N[i]? = some x) (hj : X.N[j]? = some y) (hij : i ≠ j)
    (hx : X.env.scope.names.lookup x = some .local) (hy : X.env.scope.names.lookup y = some .local)
    (hw : swappedStores [.Tuple [.Name x px, .Name y py] kt pt] (.Tuple [.List [] pa, .List [] pb] k2 pt2) X.env = pure (some [x, y])) : PS X (.Assign [.Tuple [.Name x px, .Name y py] kt pt] (.Tuple [.List [] pa, .List [] pb] k2 pt2) pos) (tS Γ R G (.new2 i j)) := by
  refine ps_imp (ps_par hc hN hi hj hij hx hy (pa_cons (pe_lst pa_nil) (pa_cons (pe_lst pa_nil) pa_nil rfl) rfl) hw) fun D σ H ⟨Z, env, P, hR, hw, hp⟩ => ?_
  refine ⟨Nat.zero_le _, fun p1 h1 => ⟨Nat.zero_le _, fun p2 h2 => ?_⟩⟩
  have R2 := (hR.fresh h1 (o := .lst [])).fresh h2 (o := .lst [])
  obtain ⟨n1, l1, w1⟩ := st_fr hw
  obtain ⟨n2, l2, w2⟩ := st_fr w1
  have m1 : upd (upd H p1 (.lst [])) p2 (.lst []) p1 = some (.lst []) := hk_upd h2 _ _ upd_same
  have ne : p2 ≠ p1 := fun e => by rw [e, upd_same] at h2; cases h2
  have h2' : H p2 = none := by rw [upd_ne ne] at h2; exact h2
  have R3 := R2.setOw n1 (hR.zn h1) (hR.on h1) (hR.h0n h1) (.lst m1 .nil)
  have R4 := R3.setOw n2 (hR.zn h2') (ow_set R2 l1 ne (hR.on h2')) (hR.h0n h2') (.lst upd_same .nil)
  exact ⟨_, _, rfl, hp.nx _ _ _ _ R4 ⟨fun _ z => z, fun b o z h => hk_upd h2 _ _ (hk_upd h1 _ _ h)⟩ w2⟩
theorem s_new3 {i j k : Nat} {x y z : Str} {px py pz pt pos pa pb pd : Pos} {kt k2 pt2} (hc : X.calm = true) (hN : X.N.Nodup) (hi : X.N[i]? = some x) (hj : X.N[j]? = some y) (hk : X.N[k]? = some z) (hij : i ≠ j) (hik : i ≠ k) (hjk : j ≠ k)
    (hx : X.env.scope.names.lookup x = some .local) (hy : X.env.scope.names.lookup y = some .local) (hz : X.env.scope.names.lookup z = some .local)
    (hw : swappedStores [.Tuple [.Name x px, .Name y py, .Name z pz] kt pt] (.Tuple [.List [] pa, .List [] pb, .List [] pd] k2 pt2) X.env = pure (some [x, y, z])) : PS X (.Assign [.Tuple [.Name x px, .Name y py, .Name z pz] kt pt] (.Tuple [.List [] pa, .List [] pb, .List [] pd] k2 pt2) pos) (tS Γ R G (.new3 i j k)) := by
  refine ps_imp (ps_par3 hc hN hi hj hk hij hik hjk hx hy hz (pa_cons (pe_lst pa_nil) (pa_cons (pe_lst pa_nil) (pa_cons (pe_lst pa_nil) pa_nil rfl) rfl) rfl) hw) fun D σ H ⟨Z, env, P, hR, hw, hp⟩ => ?_
  refine ⟨Nat.zero_le _, fun p1 h1 => ⟨Nat.zero_le _, fun p2 h2 => ⟨Nat.zero_le _, fun p3 h3 => ?_⟩⟩⟩
  have R2 := ((hR.fresh h1 (o := .lst [])).fresh h2 (o := .lst [])).fresh h3 (o := .lst [])
  obtain ⟨n1, l1, w1⟩ := st_fr hw
  obtain ⟨n2, l2, w2⟩ := st_fr w1
  obtain ⟨n3, l3, w3⟩ := st_fr w2
  have m2 : upd (upd (upd H p1 (.lst [])) p2 (.lst [])) p3 (.lst []) p2 = some (.lst []) := hk_upd h3 _ _ upd_same
  have m1 : upd (upd (upd H p1 (.lst [])) p2 (.lst [])) p3 (.lst []) p1 = some (.lst []) := hk_upd h3 _ _ (hk_upd h2 _ _ upd_same)
  have ne : p2 ≠ p1 := fun e => by rw [e, upd_same] at h2; cases h2
  have h2' : H p2 = none := by rw [upd_ne ne] at h2; exact h2
  have ne2 : p3 ≠ p2 := fun e => by rw [e, upd_same] at h3; cases h3
  have h3' : upd H p1 (.lst []) p3 = none := by rw [upd_ne ne2] at h3; exact h3
  have ne1 : p3 ≠ p1 := fun e => by rw [e, upd_same] at h3'; cases h3'
  have h3'' : H p3 = none := by rw [upd_ne ne1] at h3'; exact h3'
  have R3 := R2.setOw n1 (hR.zn h1) (hR.on h1) (hR.h0n h1) (.lst m1 .nil)
  have R4 := R3.setOw n2 (hR.zn h2') (ow_set R2 l1 ne (hR.on h2')) (hR.h0n h2') (.lst m2 .nil)
  have R5 := R4.setOw n3 (hR.zn h3'') (ow_set R3 l2 ne2 (ow_set R2 l1 ne1 (hR.on h3''))) (hR.h0n h3'') (.lst upd_same .nil)
  exact ⟨_, _, _, rfl, hp.nx _ _ _ _ R5 ⟨fun _ z => z, fun b o z h => hk_upd h3 _ _ (hk_upd h2 _ _ (hk_upd h1 _ _ h))⟩ w3⟩
/-- .. where comprehensions see one of the names: by way of a tuple -/
theorem s_new3c {i j k : Nat} {x y z : Str} {px py pz pt pos pa pb pd : Pos} {kt k2 pt2} (hc : X.calm = true) (hK : X.K = G.K) (gx : PG X (.Name x px) (gName i)) (gy : PG X (.Name y py) (gName j)) (gz : PG X (.Name z pz) (gName k))
    (hw : swappedStores [.Tuple [.Name x px, .Name y py, .Name z pz] kt pt] (.Tuple [.List [] pa, .List [] pb, .List [] pd] k2 pt2) X.env = pure none) : PS X (.Assign [.Tuple [.Name x px, .Name y py, .Name z pz] kt pt] (.Tuple [.List [] pa, .List [] pb, .List [] pd] k2 pt2) pos) (tS Γ R G (.new3 i j k)) := by
  refine ps_imp (ps_asg (pe_tup (pa_cons (pe_lst pa_nil) (pa_cons (pe_lst pa_nil) (pa_cons (pe_lst pa_nil) pa_nil rfl) rfl) rfl)) (pg_tup hc (pgs_cons gx (pgs_cons gy (pgs_cons gz pgs_nil)))) rfl hw) fun D σ H ⟨Z, env, P, hR, hw, hp⟩ => ?_
  refine ⟨Nat.zero_le _, fun p1 h1 => ⟨Nat.zero_le _, fun p2 h2 => ⟨Nat.zero_le _, fun p3 h3 => ⟨by show 3 ≤ sizeLine; decide, fun p4 h4 => ?_⟩⟩⟩⟩
  have R2 := (((hR.fresh h1 (o := .lst [])).fresh h2 (o := .lst [])).fresh h3 (o := .lst [])).fresh h4 (o := .tup [.ref p1, .ref p2, .ref p3])
  obtain ⟨n1, l1, w1⟩ := st_fr hw
  obtain ⟨n2, l2, w2⟩ := st_fr w1
  obtain ⟨n3, l3, w3⟩ := st_fr w2
  have k4 : ∀ {b : Addr} {o : HO}, upd (upd (upd H p1 (.lst [])) p2 (.lst [])) p3 (.lst []) b = some o → upd (upd (upd (upd H p1 (.lst [])) p2 (.lst [])) p3 (.lst [])) p4 (.tup [.ref p1, .ref p2, .ref p3]) b = some o := fun e => hk_upd h4 _ _ e
  have m3 := k4 (b := p3) upd_same
  have m2 := k4 (b := p2) (hk_upd h3 _ _ upd_same)
  have m1 := k4 (b := p1) (hk_upd h3 _ _ (hk_upd h2 _ _ upd_same))
  have ne : p2 ≠ p1 := fun e => by rw [e, upd_same] at h2; cases h2
  have h2' : H p2 = none := by rw [upd_ne ne] at h2; exact h2
  have ne2 : p3 ≠ p2 := fun e => by rw [e, upd_same] at h3; cases h3
  have h3' : upd H p1 (.lst []) p3 = none := by rw [upd_ne ne2] at h3; exact h3
  have ne1 : p3 ≠ p1 := fun e => by rw [e, upd_same] at h3'; cases h3'
  have h3'' : H p3 = none := by rw [upd_ne ne1] at h3'; exact h3'
  have R3 := R2.setOw n1 (hR.zn h1) (hR.on h1) (hR.h0n h1) (.lst m1 .nil)
  have R4 := R3.setOw n2 (hR.zn h2') (ow_set R2 l1 ne (hR.on h2')) (hR.h0n h2') (.lst m2 .nil)
  have R5 := R4.setOw n3 (hR.zn h3'') (ow_set R3 l2 ne2 (ow_set R2 l1 ne1 (hR.on h3''))) (hR.h0n h3'') (.lst m3 .nil)
  exact ⟨p4, _, rfl, .inl (.inl upd_same), rfl, _, _, rfl, _, _, rfl, _, _, rfl, rfl, hp.nx _ _ _ _ R5 ⟨fun _ z => z, fun b o z h => hk_upd h4 _ _ (hk_upd h3 _ _ (hk_upd h2 _ _ (hk_upd h1 _ _ h)))⟩ w3⟩
/-- two lists and a thing, where comprehensions see one of the names: by way of a tuple -/
theorem s_pak3c {i j k : Nat} {a b c : Ex} {x y z : Str} {ea eb ec : Expr} {px py pz pt pos : Pos} {kt k2 pt2} (hc : X.calm = true) (hK : X.K = G.K) (gx : PG X (.Name x px) (gName i)) (gy : PG X (.Name y py) (gName j)) (gz : PG X (.Name z pz) (gName k))
    (ha : PE X ea (tE Γ R G a)) (hb : PE X eb (tE Γ R G b)) (hd : PE X ec (tE Γ R G c)) (sa : starEach [ea, eb, ec] X.env = (false, eval ea X.env) :: starEach [eb, ec] X.env) (sb : starEach [eb, ec] X.env = (false, eval eb X.env) :: starEach [ec] X.env) (sc : starEach [ec] X.env = (false, eval ec X.env) :: starEach [] X.env)
    (hw : swappedStores [.Tuple [.Name x px, .Name y py, .Name z pz] kt pt] (.Tuple [ea, eb, ec] k2 pt2) X.env = pure none) : PS X (.Assign [.Tuple [.Name x px, .Name y py, .Name z pz] kt pt] (.Tuple [ea, eb, ec] k2 pt2) pos) (tS Γ R G (.pak3 i j k a b c)) := by
  refine ps_imp (ps_asg (pe_tup (pa_cons ha (pa_cons hb (pa_cons hd pa_nil sc) sb) sa)) (pg_tup hc (pgs_cons gx (pgs_cons gy (pgs_cons gz pgs_nil)))) rfl hw) fun D σ H ⟨Z, env, P, hR, hw, hp⟩ => ?_
  refine ⟨Z, env, _, hR, hw, fun r1 e1 v1 Z1 H1 R1 S1 V1 N1 w1 => ?_⟩
  refine ⟨Z1, e1, _, R1, w1, fun r2 e2 v2 Z2 H2 R2 S2 V2 N2 w2 => ?_⟩
  refine ⟨Z2, e2, _, R2, w2, fun r3 e3 v3 Z3 H3 R3 S3 V3 N3 w3 => ⟨by show 3 ≤ sizeLine; decide, fun p4 h4 => ?_⟩⟩
  cases r1 <;> try exact w3.elim
  cases r2 <;> try exact w3.elim
  cases r3 <;> try exact w3.elim
  have V1' := S3.repR R2 (S2.repR R1 V1)
  have V2' := S3.repR R2 V2
  obtain ⟨b1, q1, _, _, _, t1'⟩ := V1
  obtain ⟨a1, rfl, nz1, no1, h01, t1⟩ := V1'
  obtain ⟨a2, rfl, nz2, no2, h02, t2⟩ := V2'
  cases q1
  have ne : a2 ≠ b1 := fun e => by
    obtain ⟨o, ho⟩ := t1'.there
    have := N2 a2 rfl
    rw [e, ho] at this
    cases this
  have R4 := R3.fresh h4 (o := .tup [V.ref b1, V.ref a2, v3])
  have zk : ∀ b u, Z3 b → H3 b = some u → upd H3 p4 (.tup [V.ref b1, V.ref a2, v3]) b = some u := fun b u _ h => hk_upd h4 b u h
  have T1 := t1.mono (fun _ z => z) zk (fun o h => hk_upd h4 _ _ h)
  have T2 := t2.mono (fun _ z => z) zk (fun o h => hk_upd h4 _ _ h)
  have T3 : Rep G.K Z3 (upd H3 p4 (.tup [V.ref b1, V.ref a2, v3])) v3 _ := Rep.mono (fun _ z => z) zk V3
  obtain ⟨n1, l1, w4⟩ := st_fr w3
  obtain ⟨n2, l2, w5⟩ := st_fr w4
  have R5 := R4.setOw n1 nz1 no1 h01 T1
  have R6 := R5.setOw n2 nz2 (ow_set R4 l1 ne no2) h02 T2
  obtain ⟨R7, t7, w6⟩ := stS_im R6 T3 w5
  exact ⟨p4, _, rfl, .inl (.inl upd_same), rfl, _, _, rfl, _, _, rfl, _, _, rfl, rfl, hp.nx _ _ _ _ R7 ((((S1.mon hR).trans (S2.mon R1)).trans (S3.mon R2)).trans ⟨fun _ z => z, fun b o z h => hk_upd h4 _ _ h⟩) w6⟩
theorem own_ref {i : Nat} (Rl : Rel G σ Z H env) (o : isOwn env i) : ∃ a, σ[i]? = some (some (V.ref a)) := by
  unfold isOwn at o
  split at o
  · next d h => obtain ⟨a, e, _⟩ := Rl.ow i d h; exact ⟨a, e⟩
  · next d h => obtain ⟨e, _⟩ := Rl.io i d h; exact ⟨_, e⟩
  · exact o.elim
theorem s_subE {i : Nat} {k e : Ex} {x : Str} {ke ve : Expr} {p2 tpos pos : Pos} (hpl : plainI ke = true) (hnt : ∀ as, k ≠ .tupn as) (hu : X.A.units + 64 < cLine) (hK : X.K = G.K) (hN : X.N[i]? = some x) (hv : Vis X.env.scope x) (hd : (x == ("__debug__" : Str)) = false) (hcd : (x == ("__classdict__" : Str)) = false) (he : PE X ve (tE Γ R G e)) (hk : PE X ke (tE Γ R G k)) :
    PS X (.Assign [.Subscript (.Name x p2) ke tpos] ve pos) (tS Γ R G (.sub i k e)) := by
  obtain ⟨t, ht, s1, _⟩ := dset_ok (X := X) hu
  rw [hK] at s1
  refine ps_imp (ps_asg he (pg_sub (pe_var hN hv hd hcd) hk ht (by intro v; cases ke <;> first | rfl | cases hpl)) (by cases ve <;> rfl) (by cases ve <;> rfl) rfl) fun D σ H ⟨Z, env, P, hR, hw, hp⟩ => ?_
  have hw : wpE Γ R e env fun r e1 => fz r e1 fun v e2 => isOwn e2 i ∧ wpE Γ R k e2 fun r2 e3 => rd r2 e3 fun y => wrS i e3 (fun x f => x.isDtt = false ∧ dSet x y v f) P.nx := by
    cases k <;> first | exact (hnt _ rfl).elim | exact hw
  refine ⟨Z, env, _, hR, hw, fun r e1 v Z1 H1 R1 S1 V1 N1 w1 => ?_⟩
  obtain ⟨dv, e2, Z2, R2, S2, rv, o, w2⟩ := fz_ok R1 S1 V1 N1 w1
  obtain ⟨a, es⟩ := own_ref R2 o
  refine ⟨_, es, Z2, e2, _, R2, w2, fun r3 e3 y Z3 H3 R3 S3 V3 N3 w3 => ?_⟩
  obtain ⟨dy, ty, w3⟩ := rd_ok R3 V3 w3
  obtain ⟨c, b, Kp, es2, tp, ⟨hf1, hf2⟩, fin⟩ := wr_ok (Q := fun _ => True) R3 w3
  rw [es] at es2; cases es2
  refine s1 Z3 H3 a c y v dy dv Kp _ tp ty (S3.rep R2 rv) hf1 hf2 fun d' o k n => ?_
  obtain ⟨env', R4, S4, w4⟩ := fin d' o k n
  exact hp.nx _ _ _ _ R4 (((S2.mon hR).trans (S3.mon R2)).trans (S4.mon R3)) w4
theorem s_subT {i : Nat} {as e : Ex} {x : Str} {ks : List Expr} {ve : Expr} {kk : Nat} {p2 p3 tpos pos : Pos} (hu : X.A.units + 64 < cLine) (hK : X.K = G.K) (hN : X.N[i]? = some x) (hv : Vis X.env.scope x) (hd : (x == ("__debug__" : Str)) = false) (hcd : (x == ("__classdict__" : Str)) = false) (he : PE X ve (tE Γ R G e)) (hk : PA X ks (tA Γ R G as)) :
    PS X (.Assign [.Subscript (.Name x p2) (.Tuple ks kk p3) tpos] ve pos) (tS Γ R G (.sub i (.tupn as) e)) := by
  obtain ⟨t, ht, _, s1⟩ := dset_ok (X := X) hu
  rw [hK] at s1
  refine ps_imp (ps_asg he (pg_sub (pe_var hN hv hd hcd) (pe_tup hk) ht) (by cases ve <;> rfl) (by cases ve <;> rfl) rfl) fun D σ H ⟨Z, env, P, hR, hw, hp⟩ => ?_
  refine ⟨Z, env, _, hR, hw, fun r e1 v Z1 H1 R1 S1 V1 N1 w1 => ?_⟩
  obtain ⟨dv, e2, Z2, R2, S2, rv, o, w2⟩ := fz_ok R1 S1 V1 N1 w1
  obtain ⟨a, es⟩ := own_ref R2 o
  refine ⟨_, es, Z2, e2, _, R2, w2, fun ds e3 ws Z3 H3 R3 S3 r3 w3 => ⟨by rw [r3.length]; exact w3.1, fun p hp0 => ?_⟩⟩
  obtain ⟨c, b, Kp, es2, tp, ⟨hf1, hf2⟩, fin⟩ := wr_ok (Q := fun _ => True) (Rl := R3.frz0 (o := .tup ws) hp0) w3.2
  rw [es] at es2; cases es2
  have zk : ∀ b u, Z3 b → H3 b = some u → upd H3 p (.tup ws) b = some u := fun b u _ h => hk_upd hp0 b u h
  refine s1 (Zi Z3 p) _ a p c v ws ds dv Kp _ tp upd_same (r3.mono (fun _ z => .inl z) zk) ((S3.rep R2 rv).mono (fun _ z => .inl z) zk) hf1 hf2 fun d' o k n => ?_
  obtain ⟨env', R4, S4, w4⟩ := fin d' o k n
  exact hp.nx _ _ _ _ R4 ((((S2.mon hR).trans (S3.mon R2)).trans ((Stp.frz0 (σ := σ) (env := e3) hp0).mon R3)).trans (S4.mon (R3.frz0 hp0))) w4
theorem s_expr {e : Ex} {ve : Expr} {pos : Pos} (he : PE X ve (tE Γ R G e)) (hs : swapsWith ve none pos.line X.env = pure false) : PS X (.Expr ve pos) (tS Γ R G (.expr e)) :=
  ps_imp (ps_expr he hs) fun D σ H ⟨Z, env, P, hR, hw, hp⟩ => ⟨Z, env, _, hR, hw, fun r e1 v Z1 H1 R1 S1 V1 _ w1 => hp.nx _ _ _ _ R1 (S1.mon hR) w1⟩
theorem s_ret {e : Ex} {ve : Expr} {pos : Pos} (he : PE X ve (tE Γ R G e)) : PS X (.Return (some ve) pos) (tS Γ R G (.ret e)) := by
  refine ps_imp (ps_ret he) fun D σ H ⟨Z, env, P, hR, hw, hp⟩ => ?_
  refine ⟨Z, env, _, hR, hw, fun r e1 v Z1 H1 R1 S1 V1 _ w1 => ?_⟩
  cases r with
  | im d => exact hp.rt (.im d) v _ _ _ _ R1 (S1.mon hR) V1 (fun _ q => nomatch q) w1
  | fr d => exact hp.rt (.fr d) v _ _ _ _ R1 (S1.mon hR) V1 (fun _ q => nomatch q) w1
  | bo i =>
    have V1 : σ[i]? = some (some v) := V1
    simp only at w1
    split at w1
    · next d h =>
      obtain ⟨a, e, nz, h0, t⟩ := R1.ow i d h
      rw [V1] at e; cases e
      have il := (List.getElem?_eq_some_iff.mp h).1
      have un : ∀ {j : Nat} {s : Sl}, (e1.set i .un)[j]? = some s → s = .un ∨ (e1[j]? = some s ∧ j ≠ i) := fun {j s} e => by
        by_cases q : i = j
        · subst q
          rw [List.getElem?_set_self il] at e
          cases e; exact .inl rfl
        · rw [List.getElem?_set_ne q] at e
          exact .inr ⟨e, fun z => q z.symm⟩
      have R2 : Rel G σ Z1 H1 (e1.set i .un) := R1.part (by rw [List.length_set]; exact R1.len) fun j s e => (un e).imp id fun q => ⟨q.1, rfl⟩
      refine hp.rt (.fr d) _ _ _ _ _ R2 (S1.mon hR) ⟨a, rfl, nz, fun ⟨j, ⟨c, oj⟩, es⟩ => ?_, h0, t⟩ (fun _ q => nomatch q) w1
      rcases oj with oj | oj
      · rcases un oj with q | ⟨q, n⟩
        · cases q
        · exact n (R1.inj j i a (.inl ⟨c, .inl q⟩) (.inl ⟨d, .inl h⟩) es V1)
      · rcases un oj with q | ⟨q, n⟩
        · cases q
        · exact n (R1.inj j i a (.inl ⟨c, .inr q⟩) (.inl ⟨d, .inl h⟩) es V1)
    · next d h =>
      obtain ⟨u, e, t⟩ := R1.im i d h
      rw [V1] at e; cases e
      exact hp.rt (.im d) v _ _ _ _ R1 (S1.mon hR) t (fun _ q => nomatch q) w1
    · exact w1.elim
theorem s_retN {pos : Pos} : PS X (.Return none pos) (tS Γ R G .retN) := ps_imp ps_retN fun D σ H ⟨Z, env, P, hR, hw, hp⟩ => hp.rt (.im .non) .non _ _ _ _ hR .refl Rep.non (fun _ q => nomatch q) hw
theorem s_pass {pos : Pos} : PS X (.Pass pos) (tS Γ R G .pass) := ps_imp ps_pass fun D σ H ⟨Z, env, P, hR, hw, hp⟩ => hp.nx _ _ _ _ hR .refl hw
theorem s_brk {pos : Pos} : PS X (.Break pos) (tS Γ R G .brk) := ps_imp ps_break fun D σ H ⟨Z, env, P, hR, hw, hp⟩ => hp.bk _ _ _ _ hR .refl hw
theorem s_cont {pos : Pos} : PS X (.Continue pos) (tS Γ R G .cont) := ps_imp ps_continue fun D σ H ⟨Z, env, P, hR, hw, hp⟩ => hp.ct _ _ _ _ hR .refl hw
theorem s_nil : PSs X [] (tS Γ R G .nil) := pss_imp pss_nil fun D σ H ⟨Z, env, P, hR, hw, hp⟩ => hp.nx _ _ _ _ hR .refl hw
theorem s_cons {s : Stmt} {ss : List Stmt} {a b : Sm} (ha : PS X s (tS Γ R G a)) (hb : PSs X ss (tS Γ R G b)) : PSs X (s :: ss) (tS Γ R G (.cons a b)) :=
  pss_imp (pss_cons ha hb) fun D σ H ⟨Z, env, P, hR, hw, hp⟩ => ⟨Z, env, _, hR, hw, ⟨fun σ' Z' H' env' R' m q => ⟨Z', env', P, R', q, hp.mono m⟩, hp.rt, hp.bk, hp.ct⟩⟩
theorem s_if {c : Ex} {a b : Sm} {ce : Expr} {sa sb : List Stmt} {pos : Pos} (hc : PT X ce (tT Γ R G c)) (ha : PSs X sa (tS Γ R G a)) (hb : PSs X sb (tS Γ R G b)) : PS X (.If ce sa sb pos) (tS Γ R G (.ifs c a b)) := by
  refine ps_imp (ps_if hc ha hb) fun D σ H ⟨Z, env, P, hR, hw, hp⟩ => ?_
  refine ⟨Z, env, _, hR, hw, fun k e1 Z1 H1 R1 S1 w1 => ?_⟩
  cases k with
  | true => rw [if_pos rfl] at w1 ⊢; exact ⟨Z1, e1, P, R1, w1, hp.mono (S1.mon hR)⟩
  | false => rw [if_neg Bool.false_ne_true] at w1 ⊢; exact ⟨Z1, e1, P, R1, w1, hp.mono (S1.mon hR)⟩
theorem s_while {c : Ex} {b : Sm} {ce : Expr} {sb : List Stmt} {pos : Pos} (hp0 : PassesOwn (model X.prog X.w) X.A X.env X.xe) (hc : PT X ce (tT Γ R G c)) (hb : PSs X sb (tS Γ R G b)) : PS X (.While ce sb [] pos) (tS Γ R G (.whl c b)) := by
  refine ps_imp (ps_while hp0 hc hb) fun D σ H ⟨Z, env, P, hR, ⟨I, ⟨m0, i0⟩, step⟩, hp⟩ => ?_
  refine ⟨fun m σ' H' => ∃ Z' e, Rel G σ' Z' H' e ∧ Mon Z H Z' H' ∧ I m e, ⟨m0, Z, env, hR, .refl, i0⟩, ?_⟩
  rintro m σ1 H1 ⟨Z1, e1, R1, m1, i1⟩
  refine ⟨Z1, e1, _, R1, step m e1 i1, fun k e2 Z2 H2 R2 S2 w2 => ?_⟩
  have m2 := m1.trans (S2.mon R1)
  cases k with
  | true =>
    rw [if_pos rfl] at w2
    simp only [if_true]
    refine ⟨fun σ' H' => ∃ m', m' < m ∧ ∃ Z' e, Rel G σ' Z' H' e ∧ Mon Z H Z' H' ∧ I m' e, fun σ' H' q => q, Z2, e2, _, R2, w2, ⟨fun σ' Z' H' env' R' mm ⟨m', hm, q⟩ => ⟨m', hm, Z', env', R', m2.trans mm, q⟩, (hp.mono m2).rt, fun σ' Z' H' env' R' mm q => hp.nx _ _ _ _ R' (m2.trans mm) q, fun σ' Z' H' env' R' mm ⟨m', hm, q⟩ => ⟨m', hm, Z', env', R', m2.trans mm, q⟩⟩⟩
  | false =>
    rw [if_neg Bool.false_ne_true] at w2
    simp only [Bool.false_eq_true, if_false]
    exact hp.nx _ _ _ _ R2 m2 w2
/-- a loop's sources, kept for good -/
theorem frz_ok (Rl : Rel G σ Z H env) : ∀ is : List Nat, ∃ Z', Rel G σ Z' H (frzL is env) ∧ Mon Z H Z' H ∧ (∀ (i : Nat) (d : TG.D), env[i]? = some (Sl.io d) → (frzL is env)[i]? = some (Sl.io d)) ∧ ∀ (i : Nat), i ∈ is → ∀ d : TG.D, env[i]? = some (Sl.ow d) → ∃ v : V, σ[i]? = some (some v) ∧ Rep G.K Z' H v d := by
  intro is
  induction is generalizing env Z with
  | nil => exact ⟨Z, Rl, .refl, fun i d h => h, fun i h => nomatch h⟩
  | cons j is ih =>
    unfold frzL
    split
    · next d h =>
      obtain ⟨a, e, R1, S1, r1⟩ := Rl.freezeSlot h
      obtain ⟨Z', R2, m2, io2, fr2⟩ := ih R1
      refine ⟨Z', R2, (S1.mon Rl).trans m2, fun i c hi => io2 i c ?_, fun i hi c hc => ?_⟩
      · by_cases q : j = i
        · subst q; rw [h] at hi; cases hi
        · rw [List.getElem?_set_ne q]; exact hi
      · by_cases q : j = i
        · subst q
          rw [h] at hc; cases hc
          exact ⟨_, e, r1.mono m2.zz m2.hk⟩
        · refine fr2 i ((List.mem_cons.mp hi).elim (fun z => absurd z.symm q) id) c ?_
          rw [List.getElem?_set_ne q]; exact hc
    · next h =>
      obtain ⟨Z', R2, m2, io2, fr2⟩ := ih Rl
      refine ⟨Z', R2, m2, io2, fun i hi c hc => ?_⟩
      rcases List.mem_cons.mp hi with z | z
      · subst z; exact (h c hc).elim
      · exact fr2 i z c hc
theorem s_for {t : Tg} {it : Ex} {b : Sm} {tg ie : Expr} {sb : List Stmt} {pos : Pos} (hp0 : PassesOwn (model X.prog X.w) X.A X.env X.xe) (hc : X.calm = true) (hi : PI X tg ie (tI Γ R G it)) (hg : PG X tg (tG G t)) (hb : PSs X sb (tS Γ R G b)) (hs : ∀ x, foldedSetIterable ie X.env x = pure x) :
    PS X (.For tg ie sb [] pos) (tS Γ R G (.forr t it b)) := by
  refine ps_imp (ps_for hp0 hc hi hg hb hs) fun D σ H ⟨Z, env, P, hR, hw, hp⟩ => ?_
  refine ⟨Z, env, _, hR, hw, fun is its e1 J Z1 H1 R1 S1 wk w1 => ?_⟩
  obtain ⟨Z2, R2, m2, io2, fr2⟩ := frz_ok R1 is
  have w1 : forW (fun d e2 next brk => bindT t d e2 fun e3 => wpS Γ R b e3 { nx := next, rt := P.rt, bk := brk, ct := next }) (staysIo is (frzL is e1)) P.nx its (frzL is e1) := w1
  generalize hturn : (fun (d : TG.D) (e2 : Env) (next brk : Env → Prop) => bindT t d e2 fun e3 => wpS Γ R b e3 { nx := next, rt := P.rt, bk := brk, ct := next }) = turn at w1
  have m12 := (S1.mon hR).trans m2
  refine ⟨fun n m σ' H' => m = its.length - n ∧ n ≤ its.length ∧ ∃ Z' e, Rel G σ' Z' H' e ∧ Mon Z2 H1 Z' H' ∧ forW turn (staysIo is (frzL is e1)) P.nx (its.drop n) e, ⟨its.length, by simp, Nat.zero_le _, Z2, _, R2, .refl, by simpa using w1⟩, ?_⟩
  rintro n m σ' H' ⟨rfl, hn, Z', e, R3, m3, w3⟩
  have ltr : staysIo is (frzL is e1) e → Ltr G is σ Z1 H1 e1 σ' Z' H' e := fun st => by
    refine ⟨R3, (m2.trans m3).zz, (m2.trans m3).hk, fun i hi d hd => ?_⟩
    rcases hd with hd | hd
    · obtain ⟨v, ev, rv⟩ := fr2 i hi d hd
      exact .inr ⟨v, hd, ev, rv.mono m3.zz m3.hk⟩
    · have z := st i hi ⟨d, io2 i d hd⟩
      rw [io2 i d hd] at z
      refine .inl ⟨by rw [z, hd], ?_⟩
      rw [(R3.io i d z).1, (R1.io i d hd).1]
  by_cases hlt : n < its.length
  · right
    rw [List.drop_eq_getElem_cons hlt] at w3
    obtain ⟨st, w3⟩ := (show _ ∧ _ from w3)
    have hgo := (wk _ _ _ _ (ltr st)).1 n its[n] (List.getElem?_eq_getElem hlt)
    refine ⟨hgo.1, fun σ' H' => ∃ m', m' < its.length - n ∧ m' = its.length - (n + 1) ∧ n + 1 ≤ its.length ∧ ∃ Z' e, Rel G σ' Z' H' e ∧ Mon Z2 H1 Z' H' ∧ forW turn (staysIo is (frzL is e1)) P.nx (its.drop (n + 1)) e, fun σ' H' q => q, fun x H'' hy => ?_⟩
    obtain ⟨Z4, R4, S4, r4⟩ := hgo.2 x H'' hy
    subst hturn
    refine ⟨Z4, e, its[n], _, R4, r4, w3, fun env5 σ5 H5 R5 t5 w5 => ?_⟩
    have m5 := (m3.trans (S4.mon R3)).trans (t5.stp.mon R4)
    exact ⟨Z4, env5, _, R5, w5, ⟨fun σ' Z' H' env' R' mm q => ⟨_, by omega, rfl, hlt, Z', env', R', m5.trans mm, q⟩, (hp.mono (m12.trans m5)).rt, fun σ' Z' H' env' R' mm q => hp.nx _ _ _ _ R' (m12.trans (m5.trans mm)) q, fun σ' Z' H' env' R' mm q => ⟨_, by omega, rfl, hlt, Z', env', R', m5.trans mm, q⟩⟩⟩
  · left
    have e : n = its.length := by omega
    subst e
    rw [List.drop_length] at w3
    obtain ⟨st, w3⟩ := (show _ ∧ _ from w3)
    exact ⟨(wk _ _ _ _ (ltr st)).2, hp.nx _ _ _ _ R3 (m12.trans m3) w3⟩
end
end TG
end
section
set_option maxHeartbeats 1000000
namespace TG
open PySem PySem.Spec PyProof.Rows L2 L2H

/-- a block's context, the handled refusal kept -/
abbrev blkH (Y : Cx) (st : Shared) (Hh : Hp) (bs : Scope) (be : PySem.Env) (its : List Addr) (pe : Addr × Obj) : Cx := { Y.blk st Hh bs be its with pn := [pe] }
theorem blk_hot {Y : Cx} {ps : List (Addr × Obj)} {sv sv' : L2.St} {Hh : Hp} {st st' : Shared} {bs : Scope} {be : PySem.Env} {its : List Addr} {pe : Addr × Obj} (J : Inv Y ps sv Hh st) (mem : pe ∈ Y.pn) (B : Inv (Y.blk st Hh bs be its) [] sv' Hh st')
    (kp : ∀ b o, st.heap.get? b = some o → st'.heap.get? b = some o) (hl : be.locals = st.heap.objs.size) : Inv (blkH Y st Hh bs be its pe) [] sv' Hh st' := by
  have k := B.ok
  obtain ⟨g1, g2, g3, g4, g5⟩ := J.pin pe (List.mem_append_left _ mem)
  refine ⟨⟨k.mod, k.kind, k.glob, k.blt, k.above, k.inj, k.has, k.cab, k.hd, k.frames, k.stk, k.exf, k.bs, k.bsz, k.noex, k.exfs, k.funs, k.frf⟩, B.os, B.bare, B.base, B.loc, B.cell, B.free, B.freeC, fun q hq => ?_, B.hok, B.len⟩
  have eq : q = pe := by simpa using (show q ∈ [pe] ++ ([] : List (Addr × Obj)) from hq)
  subst eq
  refine ⟨kp _ _ g1, g2, ?_, fun z => ?_, g5⟩
  · show q.1 ≠ be.locals
    rw [hl]
    exact Nat.ne_of_lt (Heap.lt_size g1)
  · rcases List.mem_cons.mp (J.stkSub q.1 z) with z | z
    · exact g3 z
    · exact g4 z
theorem mono0 {α : Type} {t : Sem α} {Qa Qb : α → Shared → Prop} {M : Model} {A : Around} {E : Value → Shared → Prop} {st : Shared} (run : wpAny M A t Qa (fun _ _ => False) st) (le : ∀ a r, Qa a r → Qb a r) : wpAny M A t Qb E st := wpAny_mono run le fun _ _ z => z.elim
section
variable {X : Cx} {pe : Addr × Obj}
/-- [elt for target in iter if ..] where a refusal is handled -/
theorem pe_lcH {elt tg iter : Expr} {ifs : List Expr} {bs : Scope} {own : List (Str × Nat)} {pos : Pos} {wi : TI} {g : TG} {tt : TT} {te : TE} (hot : Hot1 X.A pe) (mem : pe ∈ X.pn) (nd : X.N.Nodup) (hi : PIH X tg iter wi) (ok : BlkOk X.N X.env.scope bs own)
    (tgs : ∀ st Hh C cl fp, PG (blkH X st Hh bs (compEnvC bs cl C X.env) fp pe) tg g) (tsts : ∀ st Hh C cl fp, PTs (blkH X st Hh bs (compEnvC bs cl C X.env) fp pe) ifs tt)
    (els : ∀ st Hh C cl fp, PE (blkH X st Hh bs (compEnvC bs cl C X.env) fp pe) elt te) (hs : ∀ x, foldedSetIterable iter X.env x = pure x) :
    PE X (.ListComp elt [⟨tg, iter, ifs, 0⟩] bs pos) (tLc wi g tt te (own.map (·.2))) := by
  constructor
  intro ps st σ Hh Q I h
  rw [eval_ListComp]
  have frees : ∀ y ∈ bs.names, y.2 = .free → ∃ c, X.env.cells.lookup y.1 = some c := fun y hy e => (ok.free y hy e).elim (fun k => I.ok.has _ (.inl k)) fun k => I.ok.has _ (.inr k)
  refine wpAny_comprehension_free (use := none) rfl hs (closure_ok frees) ok.kind (fun y hy e => by rw [ok.uniq y hy, e]) (thn (hi.run ps st σ Hh _ I h) fun xv s1 q1 => thn q1 fun iv s2 q2 => ?_)
  obtain ⟨it, fp, tn, J, H2, rfl, I2, T, t2, f2, q⟩ := q2
  refine wpAny_newObj_type (newEnv_comp ?_) (by show 0 ≤ sizeLine; decide)
  obtain ⟨D, hD⟩ : ∃ D, D = s2.heap.objs.size := ⟨_, rfl⟩
  rw [← hD]
  have freshD : H2 D = none := I2.hok.fresh (Nat.le_of_eq hD.symm)
  obtain ⟨W, ⟨m0, w0⟩, turn⟩ := q D freshD
  obtain ⟨s3, hs3⟩ : ∃ s3 : Shared, s3 = { s2 with heap := s2.heap.push { cls := .type "list", data := .seq ([] : List Value).toArray } } := ⟨_, rfl⟩
  rw [← hs3]
  have h3 : s3.heap = s2.heap.push { cls := .type "list", data := .seq ([] : List Value).toArray } := by rw [hs3]
  have I3 : Inv X ps σ (upd H2 D (.lst [])) s3 := by
    subst hs3 hD
    exact I2.laid (t' := s2.toks) (fun b o e => Heap.get?_push_of_some _ e) (Nat.le_refl _) ⟨Nat.zero_le _, [], 0, .nil, Heap.get?_push_size _ rfl⟩
  have f3 : ∀ b ∈ fp, FpOk X ps (upd H2 D (.lst [])) b ∧ b < s3.heap.objs.size := fun b hb => by
    obtain ⟨o, e, _⟩ := T.obj _ _ t2 b hb
    have lt := Heap.lt_size e
    refine ⟨⟨?_, (f2 b hb).2⟩, by rw [h3, Heap.size_push]; exact Nat.lt_succ_of_lt lt⟩
    rw [upd_ne (by rw [hD]; exact Nat.ne_of_lt lt)]
    exact (f2 b hb).1
  have t3 : tn 0 s3.heap := T.keep _ _ _ t2 fun b _ o e => by rw [h3]; exact Heap.get?_push_of_some _ e
  have I4' := block_start I3 ok nd f3
  obtain ⟨s4, hs4⟩ : ∃ s4 : Shared, s4 = { s3 with heap := pushCells (s3.heap.push { cls := .type "dict", data := .dict #[] }) bs.names } := ⟨_, rfl⟩
  rw [← hs4] at I4'
  have grow4 : ∀ b o, s3.heap.get? b = some o → s4.heap.get? b = some o := fun b o e => by rw [hs4]; exact pushCells_keeps _ _ _ _ (Heap.get?_push_of_some _ e)
  have I4 := blk_hot (pe := pe) I3 mem I4' grow4 rfl
  have pg := tgs s3 (upd H2 D (.lst [])) s3.heap.objs.size (cellsFrom (s3.heap.objs.size + 1) bs.names (cloFrom X.env.cells bs.names [])) fp
  have pt := tsts s3 (upd H2 D (.lst [])) s3.heap.objs.size (cellsFrom (s3.heap.objs.size + 1) bs.names (cloFrom X.env.cells bs.names [])) fp
  have px := els s3 (upd H2 D (.lst [])) s3.heap.objs.size (cellsFrom (s3.heap.objs.size + 1) bs.names (cloFrom X.env.cells bs.names [])) fp
  obtain ⟨ce, hce⟩ : ∃ ce, ce = compEnvC bs (cellsFrom (s3.heap.objs.size + 1) bs.names (cloFrom X.env.cells bs.names [])) s3.heap.objs.size X.env := ⟨_, rfl⟩
  show codeAny _ _ (.compStart (.ListComp elt [⟨tg, iter, ifs, 0⟩] bs pos) 0 (.ref it) (.ref D) (compEnvC bs (cellsFrom (s3.heap.objs.size + 1) bs.names (cloFrom X.env.cells bs.names [])) s3.heap.objs.size X.env)) _ _
  rw [← hs4, ← hce]
  rw [← hce] at I4 pg pt px
  have cl : ce.locals = s3.heap.objs.size := by rw [hce]; rfl
  obtain ⟨H3, hH3⟩ : ∃ H3, H3 = upd H2 D (.lst []) := ⟨_, rfl⟩
  rw [← hH3] at I3 I4 pg pt px w0 f3
  have t4 : tn 0 s4.heap := T.keep _ _ _ t3 fun b _ o e => grow4 b o e
  have hotB : HotC (blkH X s3 H3 bs ce fp pe) := ⟨pe, hot, List.mem_singleton.mpr rfl⟩
  have pfp : ∀ b ∈ fp, pe.1 ≠ b := fun b hb => (f3 b hb).1.2.2.2.2.2 pe (List.mem_append_left _ mem)
  have stat : ∀ {σ' : L2.St} {H' : Hp} {s' : Shared}, Inv (blkH X s3 H3 bs ce fp pe) [] σ' H' s' → (∀ b ∈ fp, H' b = none) → ∀ b ∈ fp, FpOk (blkH X s3 H3 bs ce fp pe) [] H' b := fun I' hn b hb =>
    ⟨hn b hb, (I'.ok.exf b hb).1, I'.ok.exfs b hb, .inl hb, fun x c e => (I'.ok.exf b hb).2 x c e, fun p hp => by
      have eq : p = pe := by simpa using (show p ∈ [pe] ++ ([] : List (Addr × Obj)) from hp)
      rw [eq]
      exact pfp b hb⟩
  refine codeAny_compStart_list ?_ (T.self X.A 0 _ _ _ t4 ?_) <;> try exact codeAny_compStart_list
  all_goals
    refine compLoop_any (fun n s' => ∃ i H', Inv (blkH X s3 H3 bs ce fp pe) [] (wipe σ (own.map (·.2))) H' s' ∧ tn i s'.heap ∧ (∀ b ∈ fp, H' b = none) ∧ W i n H') ?_ m0 ⟨0, H3, I4, t4, fun b hb => (f3 b hb).1.1, w0⟩
    rintro n s5 ⟨i, H5, I5, t5, n5, w5⟩
    rcases turn i n H5 w5 with ⟨stop, fin⟩ | ⟨go, Nx, next, step⟩
    · refine mono0 (T.done (blkH X s3 H3 bs ce fp pe) rfl rfl rfl hotB i [] s5 _ H5 (fun _ _ => False) I5 (stat I5 n5) t5 stop) fun r s6 ⟨hr, I6⟩ => ?_
      subst hr
      have I7 : Inv X ps σ H5 s6 := I3.call' (ch := fp) I6.os I6.base I6.hok I6.bare fun b hb => ⟨(f3 b hb).1.2.2.2.1, (f3 b hb).1.2.1, (f3 b hb).1.2.2.2.2.1, (f3 b hb).1.2.2.2.2.2⟩
      have nC : H5 s3.heap.objs.size = none := by rw [← cl]; exact I6.free
      obtain ⟨mm, hn, _⟩ := I6.loc
      have hn : s6.heap.Ns ce.locals mm := hn
      rw [cl] at hn
      refine ⟨mm, hn, fun h'' sb => ?_⟩
      obtain ⟨g0, g1, g2, g3, g4, g5⟩ := I3.fpOk (Nat.le_refl _) nC
      exact ⟨.ref D, H5, I7.turned (t' := s6.toks) (fun b o hb e => (sb.2 b hb).trans e) g0 g1 g3 g4 g5, rfl, fin⟩
    · refine mono0 (T.item (blkH X s3 H3 bs ce fp pe) rfl rfl rfl hotB i [] s5 _ H5 (fun _ _ => False) I5 (stat I5 n5) t5 go) fun r s6 ⟨u, hr, q6⟩ => ?_
      subst hr
      refine mono0 q6 fun _ s7 ⟨x, H7, I7, r7, y7, t7, n7⟩ => ?_
      refine mono0 (pg.run _ s7 _ H7 x u _ (I7.pinned (stat I7 n7) (T.obj _ _ t7)) r7 (step x H7 y7)) fun _ s8 ⟨σ8, H8, I8, e8, q8⟩ => ?_
      refine mono0 (pt.run _ s8 σ8 H8 _ I8 q8) fun b s9 ⟨H9, I9, q9⟩ => ?_
      have again : ∀ {s' : Shared} {H' : Hp}, Inv (blkH X s3 H3 bs ce fp pe) ([] ++ pinsAt fp s7.heap) σ8 H' s' → Nx H' → ∃ m, m < n ∧ ∃ i H', Inv (blkH X s3 H3 bs ce fp pe) [] (wipe σ (own.map (·.2))) H' s' ∧ tn i s'.heap ∧ (∀ b ∈ fp, H' b = none) ∧ W i m H' := fun {s' H'} I' nx => by
        obtain ⟨m', lt, w'⟩ := next H' nx
        have kept : ∀ b ∈ fp, ∀ o, s7.heap.get? b = some o → s'.heap.get? b = some o ∧ H' b = none := fun b hb o e =>
          let z := I'.pin (b, o) (List.mem_append_right _ (List.mem_append_right _ (mem_pinsAt hb e)))
          ⟨z.1, z.2.1⟩
        refine ⟨m', lt, i + 1, H', (I'.unpinned (pins := [])).weak (by rw [← e8, wipe_length]) (fun j v e => by rw [← e8] at e; exact (wipe_some e).1), T.keep _ _ _ t7 fun b hb o e => (kept b hb o e).1, fun b hb => ?_, w'⟩
        obtain ⟨o, e, _⟩ := T.obj _ _ t7 b hb
        exact (kept b hb o e).2
      cases b with
      | false => exact again I9 q9
      | true => exact mono0 (px.run _ s9 σ8 H9 _ I9 q9) fun z s10 ⟨yv, H10, I10, r10, acc, hD10, hz10, nx⟩ => app_ok (X := blkH X s3 H3 bs ce fp pe) I10 hD10 hz10 r10 fun s11 I11 => again I11 nx
end
end TG
end
section
namespace TG
open PySem PySem.Spec PyProof.Rows L2 L2N L2H
abbrev St0 := L2.St

def qM (c : Str) : Str := ⟨(63 :: c.cps.toList).toArray⟩
def rM (c : Str) : Str := ⟨(33 :: c.cps.toList).toArray⟩
/-- a def's promise of the handled refusal -/
structure FnX (P : Program) (w : World) (K : PySem.W.Frag) (gl : Str → Option Value) (bs : Heap) (n : Nat) (fa : Addr) (fd : FuncData) (q : Str) (h : FX) : Prop where
  go : ∀ {Ar : Around} {out : List PySem.Env} {st : Shared} {Hh : Hp} {ar : Args} {Qv : VK} {a C : Addr} {oe : Obj} {nm : Str} {f : Option D} {d : Option Addr} {Z : Addr → Prop} {r : Rv}, RoomH n Ar → Ar.guards = some [] → Ar.handled = some (.ref a) → PinOk out Hh st (a, oe) → Zn (.ref C) d oe → (∃ vs, oe.data = .fields vs) →
    XCls K gl nm C → XFld K Z Hh d nm f → (∀ b, Z b → ∃ o, Hh b = some o) → Env0 P w K gl bs Ar out st Hh → BindsTo st fd ar [(q, .ref a)] → h nm f = some r → (∀ v H' Z', Aft Z Hh [] Z' H' → RetOk K Hh Z' H' r v → Qv v H') → codeAny (model P w) Ar (.call (.ref fa) ar) (CR (L2N.CX P w) out P w Hh st Qv fun _ _ _ => False) st
structure FxIs (P : Program) (w : World) (K : PySem.W.Frag) (mg : Str → Option Value) (base : Heap) (k : Nat) (f : Str) (h : FX) : Prop where
  ex : ∃ (adr : Addr) (fd : FuncData) (q : Str), FnX P w K mg base k adr fd q h ∧ mg f = some (.ref adr) ∧ PySem.W.keepIn K (.ref adr) = true ∧ Binds K fd [q] []
theorem hot_of {A : Around} {a C : Addr} {oe : Obj} {d : Option Addr} (hh : A.handled = some (.ref a)) (hz : Zn (.ref C) d oe) (hf : ∃ vs, oe.data = .fields vs) : Hot1 A (a, oe) := by
  obtain ⟨vs, e⟩ := hf
  exact ⟨hh, vs, e, hz.2.2 vs e⟩
section
variable {P : Program} {w : World} {K : PySem.W.Frag} {gl : Str → Option Value} {bs : Heap} {n m : Nat} {fa : Addr} {fd : FuncData} {q : Str} {h : FX}
/-- the ghost of such a def's run -/
def ghX (K : PySem.W.Frag) (H : Hp) (Z : Addr → Prop) (g : XG) : Gh := ⟨K, H, fun _ => False, Z, fun _ => 0, some g, H⟩
theorem FnX.body {k : Nat} {x qual : Str} {d : Stmt} {N : List Str} (F : L2.Fun K x qual d fa fd) (S : FnScope N [q] (defScope d))
    (bd : ∀ (cdv : Value) (Ar : Around) (out : List PySem.Env) (st : Shared) (Hh : Hp) (Qv : VK) (a C : Addr) (oe : Obj) (nm : Str) (f : Option D) (dd : Option Addr) (Z : Addr → Prop) (r : Rv), RoomH k (Ar.deeper (envOfC qual (defScope d) st.heap.objs.size fa cdv)) → Ar.guards = some [] → Ar.handled = some (.ref a) → Zn (.ref C) dd oe → (∃ vs, oe.data = .fields vs) →
      XCls K gl nm C → XFld K Z Hh dd nm f → (∀ b, Z b → ∃ o, Hh b = some o) → h nm f = some r → (∀ v H' Z', Aft Z Hh [] Z' H' → RetOk K Hh Z' H' r v → Qv v H') →
      ∃ t, PSs (cxH (L2N.CX P w) P w K gl bs N qual (defScope d) fa cdv Ar out st Hh (fun _ _ _ => False) (a, oe)) (defBody d) t ∧ t { nx := fun _ Hx => Qv .non Hx, rt := Qv } (start N [.ref a]) Hh) :
    FnX P w K gl bs (k + 1) fa fd q h where
  go := by
    obtain ⟨oc, od, kV, doc, pm, an, cdv, ct, osl, rfl, lk, hcd⟩ := F.ex
    intro Ar out st Hh ar Qv a C oe nm f dd Z r hr gd hh pin hz hf xc xf zt e0 hb hr2 hq
    have kept : ∀ {b o}, bs.get? b = some o → st.heap.get? b = some o := fun e => (e0.bs _ _ e).1
    have inK : K.In st.heap := e0.mod.kin.keeps fun _ _ e => kept e
    have locals : ∀ y ∈ ([q] : List Str).zip [Value.ref a], (defScope d).names.lookup y.1 = some .local ∨ ((defScope d).names.lookup y.1 = some .cell ∧ ((cellsFrom (st.heap.objs.size + 1) (defScope d).names []).lookup y.1).isSome = true) := by
      rintro ⟨z, v⟩ hz
      exact (S.par z (List.of_mem_zip hz).1).imp id fun q => ⟨q, PySem.W.cellsFrom_some _ _ _ (.inl q)⟩
    refine codeAny_call_function hr.depth (inK _ _ lk) rfl S.co S.gen rfl (PySem.W.codeRec_of inK hcd) (hb _ _ _ _ ?_)
    refine wpAny_newFunctionEnv_cells S.kind locals fun ev hev s1 made => ?_
    subst hev
    obtain ⟨t, ht, hw⟩ := bd cdv Ar out st Hh Qv a C oe nm f dd Z r (hr.deeper _) gd hh hz hf xc xf zt hr2 hq
    have I1 := inv_startH (CX := L2N.CX P w) (E := fun _ _ _ => False) S pin e0 (vs := [.ref a]) rfl (.cons rfl .nil) made
    refine ⟨(e0.mod.nolimit.keeps fun _ _ e => kept e).keeps made.toInCall.keep, codeAny_func ?_⟩
    refine wpAny_mono (ht.run [] s1 _ Hh _ I1 hw) (fun fl s' hs => ?_) fun _ _ q => q
    cases fl with
    | brk => exact hs.choose_spec.choose_spec.2.elim
    | cont => exact hs.choose_spec.choose_spec.2.elim
    | next =>
      obtain ⟨_, H2, J, q⟩ := hs
      exact ⟨.non, H2, J.os, J.bare, J.base, J.hok, rfl, q⟩
    | ret u =>
      obtain ⟨v, _, H2, J, r2, q⟩ := hs
      exact ⟨v, H2, J.os, J.bare, J.base, J.hok, r2, q⟩
end

/-- a context where a refusal is handled -/
structure XHot (Γ : Ga) (G : Gh) (N : List Str) (sc : Scope) (ow : Str → Bool) (bl : List Str) (X : Cx) : Prop where
  hN : X.N = N
  nd : N.Nodup
  hsc : X.env.scope = sc
  hK : X.K = G.K
  un : X.A.units + 64 < cLine
  gd : X.A.guards = some []
  xt : ∀ c, qM c ∈ bl → c ∈ xAll ∧ ∃ C, X.mg c = some (.ref C)
  bl : ∀ x ∈ bl, X.mg x = none
  g : ∃ g oe C, G.x = some g ∧ (g.a, oe) ∈ X.pn ∧ Zn (.ref C) g.d oe ∧ (∃ vs, oe.data = .fields vs) ∧ XCls X.K X.mg g.n C ∧ X.A.handled = some (.ref g.a)
  fx : ∀ f h, Γ.fx f = some h → ∃ k, RoomH k X.A ∧ FxIs X.prog X.w X.K X.mg X.base k f h
  cell : ∀ x, ow x = true → X.fn x = true
section
variable {Γ : Ga} {R : XP} {G : Gh} {X : Cx} {σ : L2.St} {Z : Addr → Prop} {H : Hp} {env : Env} {N bl : List Str} {sc : Scope} {ow : Str → Bool}
theorem XHot.gl (h : XHot Γ G N sc ow bl X) {x : Str} (q : isGl sc x = true) : Gl X x := by
  show X.env.scope.names.lookup x = _
  rw [h.hsc]
  exact of_decide_eq_true q
/-- its object, as isinstance and attributes ask for it -/
theorem inst_of {pins : List (Addr × Obj)} {s : Shared} {a C : Addr} {oe : Obj} {d : Option Addr} {n : Str} {f : Option D} (I : Inv X pins σ H s) (mem : (a, oe) ∈ X.pn) (hz : Zn (.ref C) d oe) (hf : ∃ vs, oe.data = .fields vs) (xf : XFld X.K Z H d n f) :
    ∃ od, PySem.W.InstAt s.heap a oe C od ∧ (∀ x, f = some x → ∃ o v, od = some o ∧ Rep X.K Z H v x ∧ ∃ u, PySem.W.lookIn (fldOf n) o = some (some u) ∧ RelV v u) := by
  have get := (I.pin (a, oe) (List.mem_append_left _ mem)).1
  obtain ⟨vs, hd⟩ := hf
  have nc : PySem.W.notCls oe = true := by unfold PySem.W.notCls; rw [hd]
  cases f with
  | none =>
    have e : d = none := xf
    subst e
    exact ⟨none, ⟨get, hz.1, nc, by rw [hz.2.1]; trivial⟩, fun x e => nomatch e⟩
  | some y =>
    obtain ⟨b, v, rfl, zb, hb, r⟩ := xf
    obtain ⟨mA, hns, hr⟩ := (show ObjOk X.prog X.w H s.heap b (.xd [(fldOf n, v)]) from I.hok b _ hb)
    obtain ⟨o, ho, hl⟩ := lookIn_ns hns
    obtain ⟨u, hu, ru⟩ := RelO.some_of (v := v) (o := mA (fldOf n)) (by have := hr (fldOf n); simpa [List.lookup] using this)
    refine ⟨some o, ⟨get, hz.1, nc, by rw [hz.2.1]; exact ho⟩, fun x e => ?_⟩
    cases e
    exact ⟨o, v, rfl, r, u, by rw [hl, hu], ru⟩
theorem kitX_of {a C : Addr} {oe : Obj} {od : Option Obj} (ec : L2.ExcC X.K C) : PySem.W.KitX X.K (.ref a) (.ref C) (fun h => PySem.W.InstAt h a oe C od) :=
  PySem.W.kitx_exc (by have := ec.hd; unfold PySem.W.hasDictIn at this; cases q : PySem.W.clsIn X.K C with | none => rw [q] at this; cases this | some c => rfl) ec.hg ec.hk ec.hs ec.ha ec.hn ec.ht ec.hm
/-- isinstance(e, c) -/
theorem call_isX {a C : Addr} {oe : Obj} {d : Option Addr} {n : Str} {f : Option D} (mem : (a, oe) ∈ X.pn) (hz : Zn (.ref C) d oe) (hf : ∃ vs, oe.data = .fields vs) (ec : L2.ExcC X.K C) :
    CallR X (.builtin "isinstance") (fun xs H Q => ∃ (Z : Addr → Prop) (c : V) (cv : Value) (b : Bool), XFld X.K Z H d n f ∧ xs = [.ref a, c] ∧ (∀ u, RelV c u → u = cv) ∧ PySem.W.kitOne X.K (.ref C) cv = some b ∧ Q (.bl b) H) := by
  intro pins s σ H xs us Q I r hh
  obtain ⟨Z, c, cv, b, xf, rfl, hcv, e, q⟩ := hh
  obtain ⟨u1, u2, rfl, r1, r2⟩ := vals2 r
  cases (show u1 = Value.ref a from r1)
  cases hcv _ r2
  obtain ⟨od, J, _⟩ := inst_of I mem hz hf xf
  exact PySem.W.kia_one (kitX_of ec) I.kIn J e (fun z => nomatch z) fun tk => ⟨.bl b, H, I.tok tk, rfl, q⟩
/-- isinstance(e, (c1, ..)) -/
theorem call_isXT {a C : Addr} {oe : Obj} {d : Option Addr} {n : Str} {f : Option D} (mem : (a, oe) ∈ X.pn) (hz : Zn (.ref C) d oe) (hf : ∃ vs, oe.data = .fields vs) (ec : L2.ExcC X.K C) :
    CallR X (.builtin "isinstance") (fun xs H Q => ∃ (Z : Addr → Prop) (tp : Addr) (cs : List V) (us : List Value) (b : Bool), XFld X.K Z H d n f ∧ xs = [.ref a, .ref tp] ∧ H tp = some (.tup cs) ∧ Paired ClsV cs us ∧ PySem.W.kitAny X.K (.ref C) us = some b ∧ Q (.bl b) H) := by
  intro pins s σ H xs us Q I r hh
  obtain ⟨Z, tp, cs, ws, b, xf, rfl, hT, k, e, q⟩ := hh
  obtain ⟨u1, u2, rfl, r1, r2⟩ := vals2 r
  cases (show u1 = Value.ref a from r1)
  cases (show u2 = Value.ref tp from r2)
  obtain ⟨od, J, _⟩ := inst_of I mem hz hf xf
  obtain ⟨_, its, rv, o, h1, h2, m, h3⟩ := (show ObjOk X.prog X.w H s.heap tp (.tup cs) from I.hok tp _ hT)
  have e3 := ClsV.all k rv
  subst e3
  obtain ⟨oc, od', dt, sl⟩ := o
  simp only at h2 h3
  subst h2 h3
  exact PySem.W.kia_tup (kitX_of ec) I.kIn J h1 e (fun z => nomatch z) fun tk => ⟨.bl b, H, I.tok tk, rfl, q⟩
/-- the class names of a test -/
def clM (bl : List Str) (sc : Scope) (d : Str) : Expr → Bool
  | .Name y _ => decide (d = y) && isGl sc y && okN y && ((decide (d = "ValueError") && decide (d ∈ bl)) || decide (qM d ∈ bl))
  | _ => false
def clMs (bl : List Str) (sc : Scope) : List Str → List Expr → Bool
  | [], [] => true
  | d :: ds, e :: es => clM bl sc d e && clMs bl sc ds es
  | _, _ => false
theorem clM_ok (h : XHot Γ G N sc ow bl X) {d : Str} {e : Expr} {n : Str} {C : Addr} (xc : XCls X.K X.mg n C) (m : clM bl sc d e = true) : ∃ c cv, PE X e (tC c) ∧ (∀ u, RelV c u → u = cv) ∧ ClsV c cv ∧ PySem.W.kitOne X.K (.ref C) cv = some (isaX n d) ∧ noStar e = true := by
  cases e <;> try cases m
  rename_i y p
  simp only [clM, Bool.and_eq_true, Bool.or_eq_true, decide_eq_true_eq] at m
  obtain ⟨⟨⟨m1, m2⟩, m3⟩, m4⟩ := m
  subst m1
  rcases m4 with ⟨m4, m5⟩ | m4
  · subst m4
    exact ⟨.ty "ValueError", _, pe_bltn (h.gl m2) (h.bl _ m5) (by rfl) rfl (by decide) (okN_of m3).1, fun u r => r, .ty _, by rw [xc.iv]; unfold isaX; simp, rfl⟩
  · obtain ⟨q, D, hD⟩ := h.xt _ m4
    exact ⟨.ref D, _, pe_glob (h.gl m2) hD rfl (okN_of m3).1, fun u r => r, .own D, xc.is _ D hD q, rfl⟩
theorem clMs_ok (h : XHot Γ G N sc ow bl X) {n : Str} {C : Addr} (xc : XCls X.K X.mg n C) : ∀ {ds : List Str} {es : List Expr}, clMs bl sc ds es = true → ∃ (vs : List V) (us : List Value), PA X es (fun σ H Q => Q vs H) ∧ Paired ClsV vs us ∧ PySem.W.kitAny X.K (.ref C) us = some (ds.any (isaX n)) ∧ vs.length = ds.length
  | [], [], _ => ⟨[], [], pa_nil, .nil, rfl, rfl⟩
  | d :: ds, e :: es, m => by
    simp only [clMs, Bool.and_eq_true] at m
    obtain ⟨c, cv, p, r, k, i, st⟩ := clM_ok h xc m.1
    obtain ⟨vs, us, ps, ks, is, l⟩ := clMs_ok h xc m.2
    refine ⟨c :: vs, cv :: us, pa_imp (pa_cons p ps (star_cons st)) fun σ H Q hq => hq, .cons k ks, ?_, by rw [List.length_cons, List.length_cons, l]⟩
    rw [List.any_cons]
    cases q : isaX n d with
    | true => exact kitAny_cons (b := true) (by rw [i, q]) (fun z => nomatch z) fun _ => rfl
    | false => exact kitAny_cons (b := false) (by rw [i, q]) (fun _ => is) fun z => nomatch z
  | [], _ :: _, m => by simp [clMs] at m
  | _ :: _, [], m => by simp [clMs] at m
theorem x_at (hR : Rel G σ Z H env) {g : XG} (hg : G.x = some g) {i : Nat} {n : Str} {f : Option D} (e : env[i]? = some (Sl.xc n f)) : g.n = n ∧ σ[i]? = some (some (V.ref g.a)) ∧ XFld G.K Z H g.d n f := by
  obtain ⟨g', h1, _, h3, h4, h5⟩ := hR.xc.sl i n f e
  rw [hg] at h1
  cases h1
  exact ⟨h3, h4, h5⟩
theorem s_isx1 (h : XHot Γ G N sc ow bl X) {i : Nat} {x d : Str} {p px pos : Pos} {e : Expr} (hg : Gl X "isinstance") (hm : X.mg "isinstance" = none) (hx : X.N[i]? = some x) (hv : Vis X.env.scope x) (hd : okN x = true) (m : clM bl sc d e = true) :
    PE X (.Call (.Name "isinstance" p) [.Name x px, e] [] pos) (tE Γ R G (.isx i [d])) := by
  obtain ⟨g, oe, C, hgx, mem, hz, hf, xc, hh⟩ := h.g
  obtain ⟨c, cv, pc, rc, _, ic, st⟩ := clM_ok h xc m
  have key : ∀ n f, n = g.n → PE X (.Call (.Name "isinstance" p) [.Name x px, e] [] pos) (tCB (fun xs H Q => ∃ (Z : Addr → Prop) (c : V) (cv : Value) (b : Bool), XFld X.K Z H g.d n f ∧ xs = [.ref g.a, c] ∧ (∀ u, RelV c u → u = cv) ∧ PySem.W.kitOne X.K (.ref C) cv = some b ∧ Q (.bl b) H) (tCons (tVar i) (tCons (tC c) tNil))) := fun n f _ =>
    pe_callB (call_isX (n := n) (f := f) mem hz hf xc.ec) hg hm PyProof.Rows.boot_isinstance (pa_cons (pe_var hx hv (okN_of hd).1 (okN_of hd).2) (pa_cons pc pa_nil (star_cons st)) rfl) (by decide) (by decide) rfl (by rw [star_cons st]; rfl)
  refine ⟨fun pins s σ H Q I ⟨Z, env, Q0, hR, hw, hq⟩ => ?_⟩
  obtain ⟨n, f, e, hw⟩ := (show ∃ n f, env[i]? = some (.xc n f) ∧ Q0 (.im (.bl ([d].any (isaX n)))) env from hw)
  obtain ⟨hn, hs, xf⟩ := x_at hR hgx e
  refine (key n f hn.symm).run pins s σ H Q I ?_
  refine ⟨_, hs, Z, c, cv, isaX n d, by rw [h.hK]; exact xf, rfl, rc, by rw [← hn]; exact ic, ?_⟩
  exact hq (.im _) env _ Z H hR .refl (Rep.bl _) trivial (by simpa using hw)
theorem s_isxT (h : XHot Γ G N sc ow bl X) {i : Nat} {x : Str} {ds : List Str} {p px pt pos : Pos} {k : Nat} {es : List Expr} (hg : Gl X "isinstance") (hm : X.mg "isinstance" = none) (hx : X.N[i]? = some x) (hv : Vis X.env.scope x) (hd : okN x = true) (m : clMs bl sc ds es = true) (hl : ds.length ≤ 1000) :
    PE X (.Call (.Name "isinstance" p) [.Name x px, .Tuple es k pt] [] pos) (tE Γ R G (.isx i ds)) := by
  obtain ⟨g, oe, C, hgx, mem, hz, hf, xc, hh⟩ := h.g
  obtain ⟨vs, us, pa, pk, ka, lv⟩ := clMs_ok h xc m
  refine ⟨fun pins s σ H Q I ⟨Z, env, Q0, hR, hw, hq⟩ => ?_⟩
  obtain ⟨n, f, e, hw⟩ := (show ∃ n f, env[i]? = some (.xc n f) ∧ Q0 (.im (.bl (ds.any (isaX n)))) env from hw)
  obtain ⟨hn, hs, xf⟩ := x_at hR hgx e
  have base := pe_callB (pos := pos) (p := p) (call_isXT (n := n) (f := f) mem hz hf xc.ec) hg hm PyProof.Rows.boot_isinstance (pa_cons (pe_var (pos := px) hx hv (okN_of hd).1 (okN_of hd).2) (pa_cons (e := .Tuple es k pt) (pe_tup pa) pa_nil rfl) rfl) (by decide) (by decide) rfl rfl
  refine base.run pins s σ H Q I ?_
  refine ⟨_, hs, by rw [lv, PySem.sizeLine_eq]; omega, fun q hp => ?_⟩
  have xf' : XFld X.K Z (upd H q (.tup vs)) g.d n f := by rw [h.hK]; exact xf.mono (fun _ z => z) fun b u _ e => hk_upd hp b u e
  refine ⟨Z, q, vs, us, ds.any (isaX n), xf', rfl, upd_same, pk, by rw [← hn]; exact ka, ?_⟩
  have st : Stp σ Z H env Z (upd H q (.tup vs)) env := ⟨⟨fun _ z => z, fun _ z => .inl z, fun b u e _ => hk_upd hp b u e, fun b u e => ⟨u, hk_upd hp b u e⟩⟩, fun _ h => h⟩
  exact hq (.im _) env _ Z _ (hR.fresh hp) st (Rep.bl _) trivial hw
/-- e.f -/
theorem s_fld (h : XHot Γ G N sc ow bl X) {i : Nat} {x y : Str} {px pos : Pos} (hy : y ≠ "") (hx : X.N[i]? = some x) (hv : Vis X.env.scope x) (hd : okN x = true) : PE X (.Attribute (.Name x px) y pos) (tE Γ R G (.fld i y)) := by
  obtain ⟨g, oe, C, hgx, mem, hz, hf, xc, hh⟩ := h.g
  refine ⟨fun pins s σ H Q I ⟨Z, env, Q0, hR, hw, hq⟩ => ?_⟩
  obtain ⟨n, d, e, hy2, hw⟩ := (show ∃ n d, env[i]? = some (.xc n (some d)) ∧ fldOf n = y ∧ Q0 (.im d) env from hw)
  obtain ⟨hn, hs, xf⟩ := x_at hR hgx e
  refine attr_of rfl (thn ((pe_var (pos := px) hx hv (okN_of hd).1 (okN_of hd).2).run pins s σ H (fun v H1 => v = .ref g.a ∧ H1 = H) I ⟨_, hs, rfl, rfl⟩) fun u s1 hh => ?_)
  obtain ⟨v, H1, I1, ru, rfl, rfl⟩ := hh
  obtain rfl : u = Value.ref g.a := ru
  obtain ⟨od, J, hod⟩ := inst_of I1 mem hz hf (by rw [h.hK]; exact xf)
  obtain ⟨o, v, rfl, rv, w, lk, rw'⟩ := hod d rfl
  rw [hy2] at lk
  have no : PySem.W.findIn X.K (.ref C) y = some none := by
    have := xc.xn (by rw [hn, hy2]; exact hy)
    rwa [hn, hy2] at this
  exact HandSPX.exc_get I1.kIn J xc.xf.ga xc.xf.gg xc.xf.exC (PySem.W.findObj_own xc.xf.hdC no rfl lk) (handed_of rw') ⟨v, H1, I1.tok _, rw', hq (.im d) env v Z H1 hR .refl (by show Rep G.K Z H1 v d; rw [← h.hK]; exact rv) trivial hw⟩
/-- f(e), e the refusal -/
theorem s_callx (h : XHot Γ G N sc ow bl X) {i : Nat} {x f : Str} {p px pos : Pos} (hg : Gl X f) (hdf : (f == ("__debug__" : Str)) = false) (hx : X.N[i]? = some x) (hv : Vis X.env.scope x) (hd : okN x = true) : PE X (.Call (.Name f p) [.Name x px] [] pos) (tE Γ R G (.callx f i)) := by
  by_cases hfx : ∃ F, Γ.fx f = some F
  · obtain ⟨F, hF⟩ := hfx
    obtain ⟨k, rm, ⟨adr, fd, q, fn, hm, kp, hb⟩⟩ := h.fx f F hF
    obtain ⟨g, oe, C, hgx, mem, hz, hf, xc, hh⟩ := h.g
    refine ⟨fun pins st σ H Q I ⟨Z, env, Q0, hR, hw, hq⟩ => ?_⟩
    obtain ⟨F', n, d, r, e1, e, e2, hw⟩ := (show ∃ h n f' r, Γ.fx f = some h ∧ env[i]? = some (.xc n f') ∧ h n f' = some r ∧ Q0 r env from hw)
    rw [hF] at e1
    cases e1
    obtain ⟨hn, hs, xf⟩ := x_at hR hgx e
    have pa : PA X [.Name x px] (tCons (tVar i) tNil) := pa_cons (pe_var (pos := px) hx hv (okN_of hd).1 (okN_of hd).2) pa_nil rfl
    refine wpAny_Call_Name_kw (ld_glob I hg hm (PySem.W.callWith_K (h₀ := X.base) I.ok.mod.kin kp (thn (pa.run pos pins st σ H (fun vs H1 => vs = [.ref g.a] ∧ H1 = H) I ⟨_, hs, rfl, rfl⟩) ?_) rfl rfl) hdf)
    rintro ys s1 ⟨xs, H1, I1, rv, rfl, rfl⟩
    refine ⟨I1.kIn, ?_⟩
    obtain ⟨u, rfl, r1⟩ := rv.one
    obtain rfl : u = Value.ref g.a := r1
    obtain ⟨p1, p2, p3, p4, p5⟩ := I1.pin (g.a, oe) (List.mem_append_left _ mem)
    have pin : PinOk X.stack H1 s1 (g.a, oe) := ⟨p1, p2, fun z => (List.mem_cons.mp (I1.stkSub g.a z)).elim p3 p4, p5⟩
    have bind : BindsTo s1 fd ⟨[.ref g.a], []⟩ [(q, .ref g.a)] := by
      have := hb s1 [.ref g.a] I1.kIn rfl
      rwa [List.append_nil] at this
    refine wpAny_call (codeAny_mono (fn.go (Qv := Q) rm h.gd hh pin hz hf xc (Z := Z) (f := d) (by rw [hn, h.hK]; exact xf) hR.zt I1.env0 bind (by rw [hn]; exact e2) fun v H' Z' A ro => ?_) ?_)
    · obtain ⟨R2, S2⟩ := hR.called (as := []) (env2 := env) A Stp.refl (fun _ z => nomatch z) (fun _ z => nomatch z) rfl fun i => .inl ⟨rfl, fun _ _ z => nomatch z⟩
      rw [h.hK] at ro
      cases r with
      | im c => exact hq (.im c) env v Z' H' R2 S2 ro trivial hw
      | fr c =>
        obtain ⟨b, rfl, nz, hb0, t⟩ := ro
        exact hq (.fr c) env _ Z' H' R2 S2 ⟨b, rfl, nz, (fun o => by
          obtain ⟨u, hu, _⟩ := hR.ownT o
          rw [hb0] at hu; cases hu), hR.h0n hb0, t⟩ (fun a' e => by cases e; exact hb0) hw
      | bo j => exact ro.elim
    · rintro (ex | fl) s' hq
      · obtain ⟨_, _, _, _, _, _, _, _, _, _, _, _, z⟩ := hq
        exact z.elim
      · cases fl <;> first | exact I1.after hq | exact False.elim hq
  · refine pe_no fun σ H Q ⟨Z, env, Q0, hR, hw, hq⟩ => ?_
    obtain ⟨F', n, d, r, e1, _⟩ := (show ∃ h n f' r, Γ.fx f = some h ∧ env[i]? = some (.xc n f') ∧ h n f' = some r ∧ Q0 r env from hw)
    exact hfx ⟨F', e1⟩
end
end TG
end
section
set_option maxHeartbeats 2000000
namespace TG
open PySem PySem.Spec PyProof.Rows L2 L2H HotX
section
variable {prog : Program} {w : World} {A : Around} {E : Value → Shared → Prop} {s : Shared}
theorem nextOf_list_end_hot {it l x1 : Addr} {i : Nat} {items} {Q : Value → Shared → Prop} (hot : HotAt A x1 s.heap) (ne : x1 ≠ it)
    (hit : s.heap.IsListIter it l i) (hl : s.heap.IsList l items) (hx : items[i]? = none)
    (hE : ∀ h' e, Heap.ExtBut it s.heap h' → (∃ o, h'.get? e = some o ∧ o.cls = .type "StopIteration") → E (.ref e) { s with heap := h' }) :
    wpAny (model prog w) A (Builtin.SmallTypes.nextOf (.ref it)) Q E s := by
  obtain ⟨o, ho, hc, hd⟩ := id hit
  obtain ⟨ol, hol, _, nl, hdl⟩ := hl
  obtain ⟨hh, o1, vs1, h1, d1, c1⟩ := hot
  unfold Builtin.SmallTypes.nextOf
  refine wpAny_bind (wpAny_callSpecial?_slot (name := Str.ofString "__next__") hit.typeIs slot_listiter_next
    (wpAny_call_entry slot_listiter_next hit.typeIs entry_listiter_next ?_ (args_listiter_next _)))
  show wpAny _ _ (field (.ref it) 0 >>= _) _ _ s
  refine wpAny_bind (wpAny_field ho hd (x := .ref l) rfl ?_)
  show wpAny _ _ (if (Value.ref l == Value.none) = true then _ else _) _ _ s
  rw [if_neg (show ¬ ((Value.ref l == Value.none) = true) from Bool.false_ne_true)]
  show wpAny _ _ (field (.ref it) 1 >>= _) _ _ s
  refine wpAny_bind (wpAny_field ho hd (x := .int i 0) rfl ?_)
  show wpAny _ _ (seqItems? (.ref l) >>= _) _ _ s
  refine wpAny_bind (wpAny_seqItems hol hdl ?_)
  simp only [Int.toNat_natCast, hx]
  refine wpAny_bind (wpAny_rule (wpAny_bind (wpAny_setField ho hd (by simp) ?_)))
  show wpAny _ _ (newExc (.type "StopIteration") [] >>= _) _ _ _
  refine wpAny_bind ?_
  simp only [newExc, newTuple]
  refine wpAny_bind (wpAny_newObj_type ?_ (by size_fits))
  refine wpAny_bind (m := firstArgMember _ _) (wpAny_of_eq (a := Value.none) (by first | rfl | (simp only [firstArgMember]; rfl)) ?_)
  refine wpAny_newObj_type ?_ (by size_fits)
  have h1' := (Heap.get?_update_other s.heap (Obj.mapFields fun x => x.setIfInBounds 0 Value.none) (Ne.symm ne)).trans h1
  refine raiseNew_hot ⟨hh, o1, vs1, Heap.get?_push_of_some _ (Heap.get?_push_of_some _ h1'), d1, c1⟩ (Nat.ne_of_lt (Heap.lt_size (Heap.get?_push_of_some _ h1'))) (Heap.get?_push_size _ rfl) rfl (by first | (simp; done) | (simp; omega) | (simp only [Array.size_append]; simp; omega)) ?_
  refine hE _ _ (fun b o' nb e => ?_) ⟨_, Heap.get?_update_self _ (Heap.get?_push_size _ rfl) rfl, rfl⟩
  have e0 := (Heap.get?_update_other s.heap (Obj.mapFields fun x => x.setIfInBounds 0 Value.none) (Ne.symm nb)).trans e
  rw [Heap.get?_update_other _ _ (Nat.ne_of_gt (Heap.lt_size (Heap.get?_push_of_some _ e0)))]
  exact Heap.get?_push_of_some _ (Heap.get?_push_of_some _ e0)
theorem pyNext_list_end_hot {it l x1 : Addr} {i : Nat} {items} {Q : Option Value → Shared → Prop} (hot : HotAt A x1 s.heap) (ne : x1 ≠ it)
    (hit : s.heap.IsListIter it l i) (hl : s.heap.IsList l items) (hx : items[i]? = none)
    (hQ : ∀ h', Heap.ExtBut it s.heap h' → Q none { s with heap := h' }) : wpAny (model prog w) A (pyNext (.ref it)) Q E s := by
  obtain ⟨o, ho, hc, hd⟩ := id hit
  obtain ⟨ol, hol, _, nl, hdl⟩ := hl
  obtain ⟨hh, o1, vs1, h1, d1, c1⟩ := hot
  unfold pyNext
  refine wpAny_bind (wpAny_attempt (wpAny_callSpecial?_slot (name := Str.ofString "__next__") hit.typeIs slot_listiter_next
    (wpAny_call_entry slot_listiter_next hit.typeIs entry_listiter_next ?_ (args_listiter_next _))))
  show wpAny _ _ (field (.ref it) 0 >>= _) _ _ s
  refine wpAny_bind (wpAny_field ho hd (x := .ref l) rfl ?_)
  show wpAny _ _ (if (Value.ref l == Value.none) = true then _ else _) _ _ s
  rw [if_neg (show ¬ ((Value.ref l == Value.none) = true) from Bool.false_ne_true)]
  show wpAny _ _ (field (.ref it) 1 >>= _) _ _ s
  refine wpAny_bind (wpAny_field ho hd (x := .int i 0) rfl ?_)
  show wpAny _ _ (seqItems? (.ref l) >>= _) _ _ s
  refine wpAny_bind (wpAny_seqItems hol hdl ?_)
  simp only [Int.toNat_natCast, hx]
  refine wpAny_bind (wpAny_rule (wpAny_bind (wpAny_setField ho hd (by simp) ?_)))
  show wpAny _ _ (newExc (.type "StopIteration") [] >>= _) _ _ _
  refine wpAny_bind ?_
  simp only [newExc, newTuple]
  refine wpAny_bind (wpAny_newObj_type ?_ (by size_fits))
  refine wpAny_bind (m := firstArgMember _ _) (wpAny_of_eq (a := Value.none) (by first | rfl | (simp only [firstArgMember]; rfl)) ?_)
  refine wpAny_newObj_type ?_ (by size_fits)
  have h1' := (Heap.get?_update_other s.heap (Obj.mapFields fun x => x.setIfInBounds 0 Value.none) (Ne.symm ne)).trans h1
  refine raiseNew_hot ⟨hh, o1, vs1, Heap.get?_push_of_some _ (Heap.get?_push_of_some _ h1'), d1, c1⟩ (Nat.ne_of_lt (Heap.lt_size (Heap.get?_push_of_some _ h1'))) (Heap.get?_push_size _ rfl) rfl (by first | (simp; done) | (simp; omega) | (simp only [Array.size_append]; simp; omega)) ?_
  refine wpAny_bind (wpAny_isInstance (T := "StopIteration") (b := true) ⟨_, Heap.get?_update_self _ (Heap.get?_push_size _ rfl) rfl, rfl⟩ isSubtype_stop ?_)
  refine wpAny_pure (hQ _ fun b o' nb e => ?_)
  have e0 := (Heap.get?_update_other s.heap (Obj.mapFields fun x => x.setIfInBounds 0 Value.none) (Ne.symm nb)).trans e
  rw [Heap.get?_update_other _ _ (Nat.ne_of_gt (Heap.lt_size (Heap.get?_push_of_some _ e0)))]
  exact Heap.get?_push_of_some _ (Heap.get?_push_of_some _ e0)
theorem pyNext_tuple_end_hot {it l x1 : Addr} {i : Nat} {items} {Q : Option Value → Shared → Prop} (hot : HotAt A x1 s.heap) (ne : x1 ≠ it)
    (hit : s.heap.IsTupleIter it l i) (hl : s.heap.IsTuple l items) (hx : items[i]? = none)
    (hQ : ∀ h', Heap.ExtBut it s.heap h' → Q none { s with heap := h' }) : wpAny (model prog w) A (pyNext (.ref it)) Q E s := by
  obtain ⟨o, ho, hc, hd⟩ := id hit
  obtain ⟨ol, hol, _, nl, hdl⟩ := hl
  obtain ⟨hh, o1, vs1, h1, d1, c1⟩ := hot
  unfold pyNext
  refine wpAny_bind (wpAny_attempt (wpAny_callSpecial?_slot (name := Str.ofString "__next__") hit.typeIs F.slot_tuple_iterator_next
    (wpAny_call_entry F.slot_tuple_iterator_next hit.typeIs F.entry_tuple_iterator_next ?_ (F.args_tuple_iterator_next_1 _))))
  show wpAny _ _ (field (.ref it) 0 >>= _) _ _ s
  refine wpAny_bind (wpAny_field ho hd (x := .ref l) rfl ?_)
  show wpAny _ _ (if (Value.ref l == Value.none) = true then _ else _) _ _ s
  rw [if_neg (show ¬ ((Value.ref l == Value.none) = true) from Bool.false_ne_true)]
  show wpAny _ _ (field (.ref it) 1 >>= _) _ _ s
  refine wpAny_bind (wpAny_field ho hd (x := .int i 0) rfl ?_)
  show wpAny _ _ (seqItems? (.ref l) >>= _) _ _ s
  refine wpAny_bind (wpAny_seqItems hol hdl ?_)
  simp only [Int.toNat_natCast, hx]
  refine wpAny_bind (wpAny_rule (wpAny_bind (wpAny_setField ho hd (by simp) ?_)))
  show wpAny _ _ (newExc (.type "StopIteration") [] >>= _) _ _ _
  refine wpAny_bind ?_
  simp only [newExc, newTuple]
  refine wpAny_bind (wpAny_newObj_type ?_ (by size_fits))
  refine wpAny_bind (m := firstArgMember _ _) (wpAny_of_eq (a := Value.none) (by first | rfl | (simp only [firstArgMember]; rfl)) ?_)
  refine wpAny_newObj_type ?_ (by size_fits)
  have h1' := (Heap.get?_update_other s.heap (Obj.mapFields fun x => x.setIfInBounds 0 Value.none) (Ne.symm ne)).trans h1
  refine raiseNew_hot ⟨hh, o1, vs1, Heap.get?_push_of_some _ (Heap.get?_push_of_some _ h1'), d1, c1⟩ (Nat.ne_of_lt (Heap.lt_size (Heap.get?_push_of_some _ h1'))) (Heap.get?_push_size _ rfl) rfl (by first | (simp; done) | (simp; omega) | (simp only [Array.size_append]; simp; omega)) ?_
  refine wpAny_bind (wpAny_isInstance (T := "StopIteration") (b := true) ⟨_, Heap.get?_update_self _ (Heap.get?_push_size _ rfl) rfl, rfl⟩ isSubtype_stop ?_)
  refine wpAny_pure (hQ _ fun b o' nb e => ?_)
  have e0 := (Heap.get?_update_other s.heap (Obj.mapFields fun x => x.setIfInBounds 0 Value.none) (Ne.symm nb)).trans e
  rw [Heap.get?_update_other _ _ (Nat.ne_of_gt (Heap.lt_size (Heap.get?_push_of_some _ e0)))]
  exact Heap.get?_push_of_some _ (Heap.get?_push_of_some _ e0)
theorem items_list_hot {l x1 : Addr} {items : Array Value} {Q : List Value → Shared → Prop} (hot : HotAt A x1 s.heap) (hl : s.heap.IsList l items)
    (hQ : ∀ h', Heap.ExtBut s.heap.objs.size s.heap h' → Q items.toList { s with heap := h' }) : wpAny (model prog w) A (unpackItems (.ref l) items.size none) Q E s := by
  have hlt : l ≠ s.heap.objs.size := by obtain ⟨o, ho, _⟩ := hl; exact Nat.ne_of_lt (Heap.lt_size ho)
  obtain ⟨hh, o1, vs1, h1, d1, c1⟩ := hot
  have lx : x1 ≠ s.heap.objs.size := Nat.ne_of_lt (Heap.lt_size h1)
  unfold unpackItems
  refine wpAny_bind ?_
  · unfold notIterableAtAll
    refine wpAny_bind (wpAny_specialOf hl.typeIs slot_list_iter.lookup ?_)
    refine wpAny_pure ?_
    simp only [Bool.false_eq_true, if_false]
    refine wpAny_bind (wpAny_holding (wpAny_pyIter_list hl ?_))
    refine wpAny_bind (wpAny_holding (PySem.W.kun_draw hlt items.size 0 _ _ ⟨_, Heap.get?_push_size _ rfl, rfl, rfl⟩ (hl.push _) (by omega) fun h₁ hit₁ hs₁ => ?_))
    have hall : List.take items.size (List.drop 0 items.toList) = items.toList := by
      rw [List.drop_zero]; exact List.take_of_length_le (by simp)
    rw [hall]
    rw [if_neg (by simp)]
    have hl₁ : h₁.IsList l items := (hl.push _).extBut hs₁.extBut hlt
    refine wpAny_bind (wpAny_holding (pyNext_list_end_hot ⟨hh, o1, vs1, hs₁.extBut _ _ lx (Heap.get?_push_of_some _ h1), d1, c1⟩ lx hit₁ hl₁ (by simp) fun h₂ he₂ => ?_))
    simp only [Option.isSome_none, Bool.false_eq_true, if_false]
    refine wpAny_pure (hQ h₂ fun b o hb e => he₂ b o hb (hs₁.extBut b o hb (Heap.get?_push_of_some _ e)))
theorem items_tuple_hot {l x1 : Addr} {items : Array Value} {Q : List Value → Shared → Prop} (hot : HotAt A x1 s.heap) (hl : IsTup s.heap l items)
    (hQ : ∀ h', Heap.ExtBut s.heap.objs.size s.heap h' → Q items.toList { s with heap := h' }) : wpAny (model prog w) A (unpackItems (.ref l) items.size none) Q E s := by
  have hlt : l ≠ s.heap.objs.size := by obtain ⟨o, ho, _⟩ := hl; exact Nat.ne_of_lt (Heap.lt_size ho)
  obtain ⟨hh, o1, vs1, h1, d1, c1⟩ := hot
  have lx : x1 ≠ s.heap.objs.size := Nat.ne_of_lt (Heap.lt_size h1)
  unfold unpackItems
  refine wpAny_bind ?_
  · unfold notIterableAtAll
    refine wpAny_bind (wpAny_specialOf hl.typeIs slot_tuple_iter.lookup ?_)
    refine wpAny_pure ?_
    simp only [Bool.false_eq_true, if_false]
    refine wpAny_bind (wpAny_holding (iter_tuple hl ?_))
    refine wpAny_bind (wpAny_holding (draw_tuple hlt items.size 0 _ _ ⟨_, Heap.get?_push_size _ rfl, rfl, rfl⟩ (hl.push _) (by omega) fun h₁ hit₁ hs₁ => ?_))
    have hall : List.take items.size (List.drop 0 items.toList) = items.toList := by
      rw [List.drop_zero]; exact List.take_of_length_le (by simp)
    rw [hall]
    rw [if_neg (by simp)]
    have hl₁ : IsTup h₁ l items := (hl.push _).extBut hs₁.extBut hlt
    refine wpAny_bind (wpAny_holding (pyNext_tuple_end_hot ⟨hh, o1, vs1, hs₁.extBut _ _ lx (Heap.get?_push_of_some _ h1), d1, c1⟩ lx hit₁ hl₁ (by simp) fun h₂ he₂ => ?_))
    simp only [Option.isSome_none, Bool.false_eq_true, if_false]
    refine wpAny_pure (hQ h₂ fun b o hb e => he₂ b o hb (hs₁.extBut b o hb (Heap.get?_push_of_some _ e)))
theorem nextOf_tuple_end_hot {it l x1 : Addr} {i : Nat} {items} {Q : Value → Shared → Prop} (hot : HotAt A x1 s.heap) (ne : x1 ≠ it)
    (hit : s.heap.IsTupleIter it l i) (hl : s.heap.IsTuple l items) (hx : items[i]? = none)
    (hE : ∀ h' e, Heap.ExtBut it s.heap h' → (∃ o, h'.get? e = some o ∧ o.cls = .type "StopIteration") → E (.ref e) { s with heap := h' }) :
    wpAny (model prog w) A (Builtin.SmallTypes.nextOf (.ref it)) Q E s := by
  obtain ⟨o, ho, hc, hd⟩ := id hit
  obtain ⟨ol, hol, _, nl, hdl⟩ := hl
  obtain ⟨hh, o1, vs1, h1, d1, c1⟩ := hot
  unfold Builtin.SmallTypes.nextOf
  refine wpAny_bind (wpAny_callSpecial?_slot (name := Str.ofString "__next__") hit.typeIs F.slot_tuple_iterator_next
    (wpAny_call_entry F.slot_tuple_iterator_next hit.typeIs F.entry_tuple_iterator_next ?_ (F.args_tuple_iterator_next_1 _)))
  show wpAny _ _ (field (.ref it) 0 >>= _) _ _ s
  refine wpAny_bind (wpAny_field ho hd (x := .ref l) rfl ?_)
  show wpAny _ _ (if (Value.ref l == Value.none) = true then _ else _) _ _ s
  rw [if_neg (show ¬ ((Value.ref l == Value.none) = true) from Bool.false_ne_true)]
  show wpAny _ _ (field (.ref it) 1 >>= _) _ _ s
  refine wpAny_bind (wpAny_field ho hd (x := .int i 0) rfl ?_)
  show wpAny _ _ (seqItems? (.ref l) >>= _) _ _ s
  refine wpAny_bind (wpAny_seqItems hol hdl ?_)
  simp only [Int.toNat_natCast, hx]
  refine wpAny_bind (wpAny_rule (wpAny_bind (wpAny_setField ho hd (by simp) ?_)))
  show wpAny _ _ (newExc (.type "StopIteration") [] >>= _) _ _ _
  refine wpAny_bind ?_
  simp only [newExc, newTuple]
  refine wpAny_bind (wpAny_newObj_type ?_ (by size_fits))
  refine wpAny_bind (m := firstArgMember _ _) (wpAny_of_eq (a := Value.none) (by first | rfl | (simp only [firstArgMember]; rfl)) ?_)
  refine wpAny_newObj_type ?_ (by size_fits)
  have h1' := (Heap.get?_update_other s.heap (Obj.mapFields fun x => x.setIfInBounds 0 Value.none) (Ne.symm ne)).trans h1
  refine raiseNew_hot ⟨hh, o1, vs1, Heap.get?_push_of_some _ (Heap.get?_push_of_some _ h1'), d1, c1⟩ (Nat.ne_of_lt (Heap.lt_size (Heap.get?_push_of_some _ h1'))) (Heap.get?_push_size _ rfl) rfl (by first | (simp; done) | (simp; omega) | (simp only [Array.size_append]; simp; omega)) ?_
  refine hE _ _ (fun b o' nb e => ?_) ⟨_, Heap.get?_update_self _ (Heap.get?_push_size _ rfl) rfl, rfl⟩
  have e0 := (Heap.get?_update_other s.heap (Obj.mapFields fun x => x.setIfInBounds 0 Value.none) (Ne.symm nb)).trans e
  rw [Heap.get?_update_other _ _ (Nat.ne_of_gt (Heap.lt_size (Heap.get?_push_of_some _ e0)))]
  exact Heap.get?_push_of_some _ (Heap.get?_push_of_some _ e0)
end
theorem draws_h {prog : Program} {w : World} {A : Around} (k : Bool) {pe : Addr × Obj} (hot : Hot1 A pe) (it l : Addr) (hne : l ≠ it) (np : pe.1 ≠ it) (items : Array Value) :
    Draws prog w A it [it, l, pe.1] items.size (fun i v => items[i]? = some v) (fun i h => itAt k h it l i ∧ sqAt k h l items ∧ h.get? pe.1 = some pe.2) := by
  obtain ⟨hh, vs, d, c⟩ := hot
  cases k with
  | true =>
    exact {
      live := fun _ _ st => let ⟨o, ho, _⟩ := st.1; ⟨o, ho⟩
      frame := fun _ _ _ st hk => ⟨Heap.IsListIter.at st.1 fun o e => hk it (by simp) o e, Heap.IsList.at st.2.1 fun o e => hk l (by simp) o e, hk pe.1 (by simp) _ st.2.2⟩
      item := fun i s Q E hi st hQ => by
        refine wpAny_nextOf_list_item st.1 st.2.1 (x := items[i]) (by simp [hi]) fun h' hit' hs' => ?_
        exact hQ _ h' s.toks (by simp [hi]) ⟨hit', Heap.IsList.extBut st.2.1 hs'.extBut hne, hs'.extBut _ _ np st.2.2⟩ hs'
      done := fun s Q E st hE => nextOf_list_end_hot ⟨hh, pe.2, vs, st.2.2, d, c⟩ np st.1 st.2.1 (by simp) hE }
  | false =>
    exact {
      live := fun _ _ st => let ⟨o, ho, _⟩ := st.1; ⟨o, ho⟩
      frame := fun _ _ _ st hk => ⟨Heap.IsTupleIter.at st.1 fun o e => hk it (by simp) o e, Heap.IsTuple.at st.2.1 fun o e => hk l (by simp) o e, hk pe.1 (by simp) _ st.2.2⟩
      item := fun i s Q E hi st hQ => by
        refine wpAny_nextOf_tuple_item st.1 st.2.1 (x := items[i]) (by simp [hi]) fun h' hit' hs' => ?_
        exact hQ _ h' s.toks (by simp [hi]) ⟨hit', Heap.IsTuple.extBut st.2.1 hs'.extBut hne, hs'.extBut _ _ np st.2.2⟩ hs'
      done := fun s Q E st hE => nextOf_tuple_end_hot ⟨hh, pe.2, vs, st.2.2, d, c⟩ np st.1 st.2.1 (by simp) hE }
theorem turn_enH {P : Program} {w : World} {K : PySem.W.Frag} {elts : List Expr} {kk : Nat} {tpos : Pos} {k1 : Bool} {a e it : Addr} (n1 : a ≠ it) (n2 : e ≠ it) (n3 : e ≠ a) :
    TurnH P w K (.Tuple elts kk tpos) (Ite1 K k1 a) [e, it] e (fun i h => (∃ old, IsEnum h e it (0 + (i : Int)) old) ∧ itAt k1 h it a i) where
  mem := by simp
  obj := fun i h st c hc => by
    obtain ⟨⟨old, he⟩, h1⟩ := st
    have e' : c = e ∨ c = it := by simpa using hc
    rcases e' with q | q
    · rw [q]; exact ⟨_, he, fun v q => nomatch q⟩
    · rw [q]; exact h1.obj
  keep := fun i h h' st k => by
    obtain ⟨⟨old, he⟩, h1⟩ := st
    exact ⟨⟨old, k e (by simp) _ he⟩, h1.at fun o q => k it (by simp) o q⟩
  item := by
    intro X hP hw hK hc i pins s σ H E I hf st hg
    subst hP hw hK
    obtain ⟨pe, hot, mem⟩ := hc
    obtain ⟨g1, _⟩ := I.pin pe (List.mem_append_left _ mem)
    have pit : pe.1 ≠ it := (hf it (by simp)).2.2.2.2.2 pe (List.mem_append_left _ mem)
    have pee : pe.1 ≠ e := (hf e (by simp)).2.2.2.2.2 pe (List.mem_append_left _ mem)
    obtain ⟨xs, hx, lx⟩ := hg
    obtain ⟨its, rv, p, _⟩ := inv_sq I hx
    have l1 := rv.length
    have W := WalksT.enumFrom 0 (draws_h (prog := X.prog) (w := X.w) (A := X.A.in1) k1 (pe := pe) hot it a n1 pit its.toArray) e n2 (by simp [n2, n3, Ne.symm pee]) (by simp)
    refine W.item i s _ E (by simp; omega) ⟨st.1, st.2, p, g1⟩ fun T vals h' tk hPt hT hTup hm hk => ⟨.ref T, rfl, ?_⟩
    refine W.go elts kk tpos i T { s with heap := h', toks := tk } _ _ hm fun h'' st'' hk'' => ?_
    obtain ⟨t, x1, e1, rfl⟩ := hPt
    obtain ⟨u1, hu1, r1⟩ := rv.get (List.getElem?_eq_getElem lx)
    have q1 : its[i]? = some x1 := by simpa using e1
    have q2 : u1 = x1 := Option.some.inj (hu1.symm.trans q1)
    rw [q2] at r1
    have hn : H T = none := I.hok.fresh hT
    have hTup2 : h''.IsTuple T #[.int (0 + (i : Int)) t, x1] := hTup.at fun o e => hk'' T o (W.apart i T h' hm) e
    have rvv : Vals [.int (i : Nat), xs[i]] [.int (0 + (i : Int)) t, x1] := .cons ⟨t, by simp⟩ (.cons r1 .nil)
    have new : ObjOk X.prog X.w (upd H T (.tup [.int (i : Nat), xs[i]])) h'' T (.tup [.int (i : Nat), xs[i]]) := ⟨by show 2 ≤ sizeLine; decide, [.int (0 + (i : Int)) t, x1], rvv, by
      obtain ⟨o, h1, h2, m, h3⟩ := hTup2
      exact ⟨o, h1, h2, m, h3⟩⟩
    have I1 : Inv X pins σ (upd H T (.tup [.int (i : Nat), xs[i]])) { s with heap := h'', toks := tk } :=
      I.turnedNew (t' := tk) (ch := [e, it]) (fun c o hb q => hk'' c o hb (hk c o hb q)) (fun b hb => hf b hb) hT new
    refine ⟨.ref T, _, I1, rfl, ⟨T, _, rfl, hn, rfl, fun xs' hx' => by rw [sq_inj I hx' hx]; exact List.getElem?_eq_getElem lx⟩, ⟨st''.1, st''.2.1⟩, fun c hcm => ?_⟩
    have lt : c < s.heap.objs.size := by
      obtain ⟨⟨old, he⟩, h1⟩ := st
      have e' : c = e ∨ c = it := by simpa using hcm
      rcases e' with q | q
      · rw [q]; exact Heap.lt_size he
      · rw [q]
        obtain ⟨o, ho, _⟩ := h1.obj
        exact Heap.lt_size ho
    rw [upd_ne (Nat.ne_of_lt (Nat.lt_of_lt_of_le lt hT))]
    exact (hf c hcm).1
  done := by
    intro X hP hw hK hc i pins s σ H E I hf st hg
    subst hP hw hK
    obtain ⟨pe, hot, mem⟩ := hc
    obtain ⟨g1, _⟩ := I.pin pe (List.mem_append_left _ mem)
    have pit : pe.1 ≠ it := (hf it (by simp)).2.2.2.2.2 pe (List.mem_append_left _ mem)
    have pee : pe.1 ≠ e := (hf e (by simp)).2.2.2.2.2 pe (List.mem_append_left _ mem)
    obtain ⟨xs, hx, ei⟩ := hg
    obtain ⟨its, rv, p, _⟩ := inv_sq I hx
    have l1 := rv.length
    have W := WalksT.enumFrom 0 (draws_h (prog := X.prog) (w := X.w) (A := X.A.in1) k1 (pe := pe) hot it a n1 pit its.toArray) e n2 (by simp [n2, n3, Ne.symm pee]) (by simp)
    have en : its.toArray.size = i := by simp; omega
    refine W.done s _ E (by rw [en]; exact ⟨st.1, st.2, p, g1⟩) fun h' tk hk => ⟨rfl, I.turnedL (t' := tk) (ch := [e, it]) (fun c o hb q => hk c o hb q) fun b hb => hf b hb⟩
  self := fun A i s Q E st h => by
    obtain ⟨⟨_, he⟩, _⟩ := st
    exact wpAny_pyIter_enum he h
section
variable {X : Cx}
theorem pi_enH {e : Expr} {ta : TA} {p pos tpos : Pos} {elts : List Expr} {kk : Nat} (hg : Gl X "enumerate") (hm : X.mg "enumerate" = none) (ha : PA X [e] ta) (hs : starEach [e] X.env = [(false, eval e X.env)]) :
    PIH X (.Tuple elts kk tpos) (.Call (.Name "enumerate" p) [e] [] pos) (iEn X.K ta) := by
  refine ⟨fun pins s σ H R I h => ?_⟩
  refine Call_ (ld_blt I hg hm boot_enumerate (PyProof.Rows.callWith_type1 (thn (ha.run pos pins s σ H _ I h) fun us s1 ⟨vs, H1, I1, r1, q1⟩ => ?_) hs rfl))
  obtain ⟨a, k, xs, ex, hq, q⟩ := q1
  subst ex
  cases r1 with
  | cons r rr =>
    cases rr
    cases r
    obtain ⟨its, rv, p', hz⟩ := inv_sq I1 hq
    have lt := p'.lt
    refine enum_begin (begins_k k a its.toArray) p' fun h' he hit hsz hk => wpAny_pyIter_enum he ?_
    have I2 : Inv X pins σ H1 { s1 with heap := h' } := I1.kept (t' := s1.toks) hk
    refine ⟨s1.heap.objs.size + 1, [s1.heap.objs.size + 1, s1.heap.objs.size], _, _, H1, rfl, I2, turn_enH (Nat.ne_of_lt lt) (Nat.succ_ne_self _) (Nat.ne_of_gt (Nat.lt_succ_of_lt lt)), ⟨⟨.none, he⟩, objIt_at hit⟩, fun b hb => ?_, q⟩
    have e' : b = s1.heap.objs.size + 1 ∨ b = s1.heap.objs.size := by simpa using hb
    have hle : s1.heap.objs.size ≤ b := by
      rcases e' with z | z
      · rw [z]; exact Nat.le_add_right _ _
      · rw [z]; exact Nat.le_refl _
    exact I1.fpOk hle (I1.hok.fresh hle)
variable {Γ : Ga} {R : XP} {G : Gh}
theorem pih_impK {tg e : Expr} {t t' : TI} (h : PIH X tg e t) (i : ∀ σ H Q, t' σ H Q → t σ H Q) : PIH X tg e t' := ⟨fun pins s σ H Q I hw => h.run pins s σ H Q I (i σ H Q hw)⟩
theorem s_enH {b : Ex} {e : Expr} {p pos tpos : Pos} {elts : List Expr} {kk : Nat} (hK : X.K = G.K) (hg : Gl X "enumerate") (hm : X.mg "enumerate" = none) (ha : PE X e (tE Γ R G b))
    (hs : starEach [e] X.env = [(false, eval e X.env)]) : PIH X (.Tuple elts kk tpos) (.Call (.Name "enumerate" p) [e] [] pos) (tI Γ R G (.enum b)) := by
  refine pih_impK (pi_enH hg hm (pa_cons ha pa_nil hs) hs) fun σ H Q ⟨Z, env, Q0, hR, hw, hq⟩ => ?_
  rw [hK]
  refine ⟨Z, env, _, hR, hw, fun r e1 v Z1 H1 R1 S1 V1 N1 w1 => ?_⟩
  obtain ⟨Y1, r', R1, S1, V1, pre1⟩ := src_pre R1 S1 V1 N1
  obtain ⟨is, d, sr, xs, ex, w2⟩ := pre1 R1 V1 w1
  have now : Ltr G is σ Y1 H1 e1 σ Y1 H1 e1 := ⟨R1, fun _ z => z, fun _ _ _ h => h, fun _ _ _ _ => .inl ⟨rfl, rfl⟩⟩
  obtain ⟨k1, a1, vs1, rfl, q1, rr1, hk1⟩ := (sr.later now).seq ex
  refine ⟨a1, k1, vs1, rfl, q1, hq _ _ e1 _ Y1 H1 R1 S1 (fun σ' Z' H' env' l => ?_) w2⟩
  obtain ⟨us1, p1, t1⟩ := sqx_of hk1 ex (sr.later l)
  have l1 := t1.length
  refine ⟨fun i d e => ?_, us1, p1, by rw [enumD_len]; omega⟩
  obtain ⟨x, g1, rfl⟩ := enumD_get e
  obtain ⟨u1, f1, c1⟩ := t1.get g1
  refine ⟨⟨us1, p1, (List.getElem?_eq_some_iff.mp f1).1⟩, fun z H'' hy => ?_⟩
  obtain ⟨T, x', rfl, hT, rfl, hy⟩ := hy
  have o1 := hy us1 p1
  rw [f1] at o1; cases o1
  rw [Nat.zero_add]
  obtain ⟨Z3, R3, S3, V3, N3⟩ := (Out.tup hT (.cons (.int _) (.cons c1 .nil))).run l.rel
  exact ⟨Z3, R3, S3, V3⟩
theorem pg_twoH {es : List Expr} {k : Nat} {t : TGs} {n : Nat} {pos : Pos} (hc : HotC X) (h : PGs X es t) (hn : (assignEach es X.env).length = n) (hst : (assignEach es X.env).findIdx? (·.1) = none) :
    PG X (.Tuple es k pos) (fun v σ H Q => gTup X.K n t v σ H Q ∨ gLst X.K n t v σ H Q) := by
  refine ⟨fun pins s σ H v u Q I r hw => ?_⟩
  obtain ⟨x1, hot⟩ := hc.at I
  rw [PyProof.Rows.assign_Tuple]
  refine wpAny_bind (wpAny_standAt ?_)
  unfold unpack
  rcases hw with ⟨a, xs, e1, hq, hl, hw⟩ | ⟨a, xs, e1, hq, hl, hw⟩
  · subst e1
    cases r
    obtain ⟨its, rv, pl, hz⟩ := I.tuple hq
    have hsz : (assignEach es X.env).length = its.toArray.size := by simp [hn, ← hl, rv.length]
    rw [hsz, hst]
    refine wpAny_bind (wpAny_holding (items_tuple_hot hot pl fun h' hx => ?_))
    have I1 : Inv X pins σ H { s with heap := h' } := I.kept (t' := s.toks) fun b o e => hx b o (Nat.ne_of_lt (Heap.lt_size e)) e
    exact h.run pins _ σ H xs _ Q I1 (by simpa using rv) hw
  · subst e1
    cases r
    obtain ⟨its, rv, pl, hz⟩ := I.list hq
    have hsz : (assignEach es X.env).length = its.toArray.size := by simp [hn, ← hl, rv.length]
    rw [hsz, hst]
    refine wpAny_bind (wpAny_holding (items_list_hot hot pl.isList fun h' hx => ?_))
    have I1 : Inv X pins σ H { s with heap := h' } := I.kept (t' := s.toks) fun b o e => hx b o (Nat.ne_of_lt (Heap.lt_size e)) e
    exact h.run pins _ σ H xs _ Q I1 (by simpa using rv) hw
theorem g_tupH {ts : Tg} {es : List Expr} {k : Nat} {n : Nat} {pos : Pos} (hc : HotC X) (hK : X.K = G.K) (hl : ts.len = n) (h : PGs X es (tGs G ts)) (hn : (assignEach es X.env).length = n) (hst : (assignEach es X.env).findIdx? (·.1) = none) : PG X (.Tuple es k pos) (tG G (.tp ts)) := by
  refine pg_imp (pg_twoH hc h hn hst) fun x σ H Q ⟨Z, env, d, Q0, hR, r, hw, hq⟩ => ?_
  cases d <;> simp only [bindT] at hw
  · obtain ⟨a, vs, rfl, h1, r1⟩ := (RepT.of r).tup
    exact .inl ⟨a, vs, rfl, by rw [hK]; exact h1.sq, by rw [r1.length]; exact hw.1.trans hl, Z, env, _, Q0, hR, r1, hw.2, hq⟩
  · obtain ⟨a, vs, rfl, h1, r1⟩ := (RepT.of r).lst
    exact .inr ⟨a, vs, rfl, SqL.of h1, by rw [r1.length]; exact hw.1.trans hl, Z, env, _, Q0, hR, r1, hw.2, hq⟩
structure TOkH (N : List Str) (sc : Scope) (ow : Str → Bool) (G : Gh) (X : Cx) : Prop where
  hN : X.N = N
  nd : N.Nodup
  hsc : X.env.scope = sc
  hot : HotC X
  hK : X.K = G.K
  un : X.A.units + 64 < cLine
  cell : ∀ x, ow x = true → X.fn x = true
variable {N : List Str} {sc : Scope}
mutual
theorem tgh_ok {ow : Str → Bool} (h : TOkH N sc ow G X) : ∀ (t : Tg) (e : Expr), mT N sc ow t e = true → PG X e (tG G t)
  | .nm i, .Name x _, m => by
    simp only [mT, Bool.and_eq_true, decide_eq_true_eq] at m
    have l := isLoc_of m.2
    refine g_name (by rw [h.hN]; exact h.nd) (by rw [h.hN]; exact m.1) (by rw [h.hsc]; exact l.imp id And.left) ?_
    rcases l with l | l
    · exact .inr (by rw [h.hsc]; exact l)
    · exact .inl (h.cell _ l.2)
  | .sub i k, .Subscript (.Name x _) (.Constant (.int k') _ _) _, m => by
    simp only [mT, Bool.and_eq_true, decide_eq_true_eq] at m
    obtain ⟨⟨⟨m1, m2⟩, m3⟩, m4⟩ := m
    subst m4
    obtain ⟨d1, d2⟩ := okN_of m3
    exact g_sub h.un h.hK (by rw [h.hN]; exact m1) (by rw [h.hsc]; exact isVis_of m2) d1 d2
  | .tp ts, .Tuple es _ _, m => by
    have m : mTs N sc ow ts es = true := by simpa only [mT] using m
    obtain ⟨h1, h2, h3⟩ := mTs_star (E := X.env) m
    exact g_tupH h.hot h.hK h3 (tghs_ok h ts es m) h1 h2
  | .nil, e, m => by cases e <;> simp [mT] at m
  | .cons _ _, e, m => by cases e <;> simp [mT] at m
theorem tghs_ok {ow : Str → Bool} (h : TOkH N sc ow G X) : ∀ (t : Tg) (es : List Expr), mTs N sc ow t es = true → PGs X es (tGs G t)
  | .nil, [], _ => g_nil
  | .cons a b, e :: es, m => by
    simp only [mTs, Bool.and_eq_true] at m
    exact g_cons (tgh_ok h a e m.1) (tghs_ok h b es m.2) (by rw [mT_star m.1]; rfl)
  | .nil, _ :: _, m => by simp [mTs] at m
  | .cons _ _, [], m => by simp [mTs] at m
  | .nm _, _, m => by simp [mTs] at m
  | .sub _ _, _, m => by simp [mTs] at m
  | .tp _, _, m => by simp [mTs] at m
end
end
end TG
end
section
namespace TG
open PySem PySem.Spec PyProof.Rows L2 L2N L2H

structure Hs where
  E : Scope → Expr → Bool
  L : Scope → List Expr → Bool
def hE (f : Scope → Expr → Bool) : Hs := ⟨f, fun _ _ => false⟩
/-- a slot's name -/
def nmM (N : List Str) (i : Nat) (sc : Scope) : Expr → Bool
  | .Name x _ => decide (N[i]? = some x) && isVis sc x && okN x
  | _ => false
theorem nmM_of {N : List Str} {i : Nat} {sc : Scope} {e : Expr} (h : nmM N i sc e = true) : ∃ x p, e = .Name x p ∧ N[i]? = some x ∧ isVis sc x = true ∧ okN x = true := by
  cases e <;> try cases h
  simp only [nmM, Bool.and_eq_true, decide_eq_true_eq] at h
  exact ⟨_, _, rfl, h.1.1, h.1.2, h.2⟩
def isxM (bl : List Str) (sc : Scope) (cs : List Str) : Expr → Bool
  | .Tuple es _ _ => clMs bl sc cs es && decide (cs.length ≤ 1000)
  | e => match cs with
    | [d] => clM bl sc d e
    | _ => false
def intM (n : Int) (_ : Scope) : Expr → Bool
  | .Constant (.int j) _ _ => decide (n = j)
  | _ => false
/-- [.. for v in range(..) if ..] -/
def hcM (N bl : List Str) (sc : Scope) (v t : Nat) (fa fc fe : Scope → Expr → Bool) : Expr → Bool
  | .ListComp elt [⟨.Name tx tp, .Call (.Name g _) [x] [] _, [ce], 0⟩] scope _ => decide (g = "range") && decide (g ∈ bl) && isGl sc g && fa sc x && blkC N sc scope (ownN N [v]) && mT N (relS scope sc) (fun x => scope.names.lookup x == some .cell) (.nm t) (.Name tx tp) && decide (t = v) &&
      noStar x && fc (relS scope sc) ce && fe (relS scope sc) elt
  | _ => false
theorem hcM_of {N bl : List Str} {sc : Scope} {v t : Nat} {fa fc fe : Scope → Expr → Bool} {e : Expr} (h : hcM N bl sc v t fa fc fe e = true) : ∃ elt tx tp gp x cp ce scope pos, e = .ListComp elt [⟨.Name tx tp, .Call (.Name "range" gp) [x] [] cp, [ce], 0⟩] scope pos ∧ ("range" : Str) ∈ bl ∧ isGl sc "range" = true ∧ fa sc x = true ∧
    blkC N sc scope (ownN N [v]) = true ∧ mT N (relS scope sc) (fun x => scope.names.lookup x == some .cell) (.nm t) (.Name tx tp) = true ∧ t = v ∧ noStar x = true ∧ fc (relS scope sc) ce = true ∧ fe (relS scope sc) elt = true := by
  unfold hcM at h
  split at h
  · simp only [Bool.and_eq_true, decide_eq_true_eq] at h
    obtain ⟨⟨⟨⟨⟨⟨⟨⟨⟨m1, m2⟩, m3⟩, m4⟩, m5⟩, m6⟩, m7⟩, m8⟩, m9⟩, m10⟩ := h
    subst m1
    exact ⟨_, _, _, _, _, _, _, _, _, rfl, m2, m3, m4, m5, m6, m7, m8, m9, m10⟩
  · cases h
/-- [.. for a, b in enumerate(v) if ..] -/
def hcM2 (N bl : List Str) (sc : Scope) (vs : List Nat) (tg : Tg) (fa fc fe : Scope → Expr → Bool) : Expr → Bool
  | .ListComp elt [⟨.Tuple es k p, .Call (.Name g _) [x] [] _, [ce], 0⟩] scope _ => decide (g = "enumerate") && decide (g ∈ bl) && isGl sc g && fa sc x && blkC N sc scope (ownN N vs) && mT N (relS scope sc) (fun x => scope.names.lookup x == some .cell) tg (.Tuple es k p) && tg.nms.all (vs.contains ·) &&
      noStar x && fc (relS scope sc) ce && fe (relS scope sc) elt
  | _ => false
theorem hcM2_of {N bl : List Str} {sc : Scope} {vs : List Nat} {tg : Tg} {fa fc fe : Scope → Expr → Bool} {e : Expr} (h : hcM2 N bl sc vs tg fa fc fe e = true) : ∃ elt es k tp gp x cp ce scope pos, e = .ListComp elt [⟨.Tuple es k tp, .Call (.Name "enumerate" gp) [x] [] cp, [ce], 0⟩] scope pos ∧ ("enumerate" : Str) ∈ bl ∧ isGl sc "enumerate" = true ∧ fa sc x = true ∧
    blkC N sc scope (ownN N vs) = true ∧ mT N (relS scope sc) (fun x => scope.names.lookup x == some .cell) tg (.Tuple es k tp) = true ∧ tg.nms.all (vs.contains ·) = true ∧ noStar x = true ∧ fc (relS scope sc) ce = true ∧ fe (relS scope sc) elt = true := by
  unfold hcM2 at h
  split at h
  · simp only [Bool.and_eq_true, decide_eq_true_eq] at h
    obtain ⟨⟨⟨⟨⟨⟨⟨⟨⟨m1, m2⟩, m3⟩, m4⟩, m5⟩, m6⟩, m7⟩, m8⟩, m9⟩, m10⟩ := h
    subst m1
    exact ⟨_, _, _, _, _, _, _, _, _, _, rfl, m2, m3, m4, m5, m6, m7, m8, m9, m10⟩
  · cases h
section
variable (N bl : List Str)
def hm : Ex → Hs
  | .var i => hE fun sc e => nmM N i sc e
  | .cint i => hE fun sc e => match e with
    | .Constant (.int j) _ _ => decide (i = j)
    | _ => false
  | .cstr i => hE fun sc e => match e with
    | .Constant (.str j) _ _ => decide (i = j)
    | _ => false
  | .cbl i => hE fun sc e => match e with
    | .Constant (.bool j) _ _ => decide (i = j)
    | _ => false
  | .cnon => hE fun sc e => match e with
    | .Constant .none _ _ => true
    | _ => false
  | .bin op a b => hE fun sc e => match e with
    | .BinOp x op' y _ => decide (op = op') && (hm a).E sc x && (hm b).E sc y
    | _ => false
  | .cmp op a b => hE fun sc e => match e with
    | .Compare x [op'] [y] _ => decide (op = op') && !behindInMarks op y && (hm a).E sc x && (hm b).E sc y
    | _ => false
  | .andn a b => hE fun sc e => match e with
    | .BoolOp .And [x, y] _ => (hm a).E sc x && (hm b).E sc y
    | .BoolOp .And (x :: y :: z :: zs) pos => (hm a).E sc x && (hm b).E sc (.BoolOp .And (y :: z :: zs) pos)
    | _ => false
  | .orn a b => hE fun sc e => match e with
    | .BoolOp .Or [x, y] _ => (hm a).E sc x && (hm b).E sc y
    | .BoolOp .Or (x :: y :: z :: zs) pos => (hm a).E sc x && (hm b).E sc (.BoolOp .Or (y :: z :: zs) pos)
    | _ => false
  | .notn a => hE fun sc e => match e with
    | .UnaryOp .Not x _ => (hm a).E sc x
    | _ => false
  | .tupn as => hE fun sc e => match e with
    | .Tuple es _ _ => (hm as).L sc es
    | _ => false
  | .lstn as => hE fun sc e => match e with
    | .List es _ => (hm as).L sc es
    | _ => false
  | .nil => ⟨fun _ _ => false, fun _ es => match es with
    | [] => true
    | _ => false⟩
  | .cons a as => ⟨fun _ _ => false, fun sc es => match es with
    | e :: es => (hm a).E sc e && (hm as).L sc es
    | _ => false⟩
  | .meth m o as => hE fun sc e => match e with
    | .Call (.Attribute x nm apos) (e :: es) [] cpos => decide (m.nm = nm) && plainO x && (apos.endLine == cpos.line) && decide ((e :: es).length < 29) && (m == .index || m == .count) && (hm o).E sc x && (hm as).L sc (e :: es)
    | _ => false
  | .mut m i as => hE fun sc e => match e with
    | .Call (.Attribute (.Name x _) nm apos) (e :: es) [] cpos => decide (m.nm = nm) && decide (N[i]? = some x) && isVis sc x && okN x && (apos.endLine == cpos.line) && decide ((e :: es).length < 29) && (m == .append) && (hm as).L sc (e :: es)
    | _ => false
  | .idx a i => hE fun sc e => match e with
    | .Subscript x y _ => plainI y && (hm a).E sc x && (hm i).E sc y
    | _ => false
  | .isx i cs => hE fun sc e => match e with
    | .Call (.Name g _) [x, y] [] _ => decide (g = "isinstance") && decide (g ∈ bl) && isGl sc g && nmM N i sc x && isxM bl sc cs y
    | _ => false
  | .fld i f => hE fun sc e => match e with
    | .Attribute x y _ => decide (f = y) && decide (y ≠ "") && nmM N i sc x
    | _ => false
  | .callx f i => hE fun sc e => match e with
    | .Call (.Name g _) [x] [] _ => decide (f = g) && isGl sc g && okN g && nmM N i sc x
    | _ => false
  | .comp [v] (.nm t) (.rng1 (.cint n)) c e => hE fun sc ex => hcM N bl sc v t (intM n) (hm c).E (hm e).E ex
  | .comp vs (.tp ts) (.enum (.var i)) c e => hE fun sc ex => hcM2 N bl sc vs (.tp ts) (nmM N i) (hm c).E (hm e).E ex
  | _ => hE fun _ _ => false
end
section
variable {Γ : Ga} {R : XP} {G : Gh} {X : Cx} {N bl : List Str} {sc : Scope} {ow : Str → Bool}
theorem hm_star {ex : Ex} {e : Expr} (h : (hm N bl ex).E sc e = true) : noStar e = true := by
  cases e <;> first | rfl | skip
  exfalso
  unfold hm at h
  split at h <;> simp [hE, nmM, hcM, hcM2] at h
theorem hm_stars : ∀ {as : Ex} {es : List Expr}, (hm N bl as).L sc es = true → es.all noStar = true := by
  intro as
  induction as with
  | nil => intro es h; cases es <;> first | rfl | simp [hm] at h
  | cons a as _ ih =>
    intro es h
    cases es with
    | nil => rfl
    | cons e es =>
      simp only [hm, Bool.and_eq_true] at h
      rw [List.all_cons, hm_star h.1, ih h.2]; rfl
  | comp vs tg it c e i1 i2 i3 =>
    intro es h
    clear i1 i2 i3
    exfalso
    have e : ∃ f, hm N bl (.comp vs tg it c e) = TG.hE f := by
      cases tg with
      | nm t => rcases vs with _ | ⟨v, _ | ⟨_, _⟩⟩ <;> cases it <;> first | exact ⟨_, rfl⟩ | (rename_i a; cases a <;> exact ⟨_, rfl⟩)
      | tp ts => rcases vs with _ | ⟨v, _ | ⟨_, _⟩⟩ <;> cases it <;> first | exact ⟨_, rfl⟩ | (rename_i a; cases a <;> exact ⟨_, rfl⟩)
      | sub _ _ => rcases vs with _ | ⟨v, _ | ⟨_, _⟩⟩ <;> exact ⟨_, rfl⟩
      | nil => rcases vs with _ | ⟨v, _ | ⟨_, _⟩⟩ <;> exact ⟨_, rfl⟩
      | cons _ _ => rcases vs with _ | ⟨v, _ | ⟨_, _⟩⟩ <;> exact ⟨_, rfl⟩
    obtain ⟨f, e⟩ := e
    rw [e] at h
    cases h
  | _ => intro es h; simp [hm, hE] at h
/-- a block within it -/
theorem XHot.blk (h : XHot Γ G N sc ow bl X) : ∃ pe, Hot1 X.A pe ∧ pe ∈ X.pn ∧ ∀ s H C cl fp scope, XHot Γ G N (relS scope sc) (fun x => scope.names.lookup x == some .cell) bl (blkH X s H scope (compEnvC scope cl C X.env) fp pe) := by
  obtain ⟨g, oe, C, hgx, mem, hz, hf, xc, hh⟩ := h.g
  refine ⟨(g.a, oe), hot_of hh hz hf, mem, fun s H C' cl fp scope => ⟨h.hN, h.nd, by show relS scope X.env.scope = _; rw [h.hsc], h.hK, h.un, h.gd, h.xt, h.bl, ⟨g, oe, C, hgx, List.mem_singleton.mpr rfl, hz, hf, xc, hh⟩, h.fx, fun x q => q⟩⟩
theorem pih_imp {tg e : Expr} {t t' : TI} (h : PIH X tg e t) (i : ∀ σ H Q, t' σ H Q → t σ H Q) : PIH X tg e t' := ⟨fun pins s σ H Q I hw => h.run pins s σ H Q I (i σ H Q hw)⟩
theorem s_r1H {b : Ex} {tg e : Expr} {p pos : Pos} (hg : Gl X "range") (hm : X.mg "range" = none) (ha : PE X e (tE Γ R G b)) (hs : starEach [e] X.env = [(false, eval e X.env)]) : PIH X tg (.Call (.Name "range" p) [e] [] pos) (tI Γ R G (.rng1 b)) := by
  refine pih_imp (pi_range1H hg hm (pa_cons ha pa_nil hs) hs) fun σ H Q ⟨Z, env, Q0, hR, hw, hq⟩ => ?_
  refine ⟨Z, env, _, hR, hw, fun r e1 v Z1 H1 R1 S1 V1 N1 w1 => ?_⟩
  obtain ⟨d, t, n, rfl, ⟨h1, h2⟩, w⟩ := rd_ok R1 V1 w1
  cases t.int
  refine ⟨n, rfl, h1, h2, hq _ _ e1 _ Z1 H1 R1 S1 ?_ w⟩
  have := rng_ok (G := G) (σ := σ) (Z := Z1) (H := H1) (env := e1) 0 n.toNat
  simpa using this
structure HxOk (Γ : Ga) (G : Gh) (N bl : List Str) (ex : Ex) : Prop where
  E : ∀ {R : XP} {sc : Scope} {ow : Str → Bool} {X : Cx} {e : Expr}, XHot Γ G N sc ow bl X → (hm N bl ex).E sc e = true → PE X e (tE Γ R G ex)
  T : ∀ {R : XP} {sc : Scope} {ow : Str → Bool} {X : Cx} {e : Expr}, XHot Γ G N sc ow bl X → (hm N bl ex).E sc e = true → PT X e (tT Γ R G ex)
  A : ∀ {R : XP} {sc : Scope} {ow : Str → Bool} {X : Cx} {es : List Expr}, XHot Γ G N sc ow bl X → (hm N bl ex).L sc es = true → PA X es (tA Γ R G ex)
  B : ∀ {R : XP} {sc : Scope} {ow : Str → Bool} {X : Cx} {es : List Expr}, XHot Γ G N sc ow bl X → (hm N bl ex).L sc es = true → PA X es (tB Γ R G ex)
theorem HxOk.ofE {ex : Ex} {M0 : Scope → Expr → Bool} (h2 : hm N bl ex = hE M0)
    (hE : ∀ {R : XP} {sc : Scope} {ow : Str → Bool} {X : Cx} {e : Expr}, XHot Γ G N sc ow bl X → M0 sc e = true → PE X e (tE Γ R G ex))
    (hT : ∀ {R : XP} {sc : Scope} {ow : Str → Bool} {X : Cx} {e : Expr}, XHot Γ G N sc ow bl X → M0 sc e = true → PT X e (tT Γ R G ex)) : HxOk Γ G N bl ex where
  E := fun h m => hE h (by rw [h2] at m; exact m)
  T := fun h m => hT h (by rw [h2] at m; exact m)
  A := fun h m => by rw [h2] at m; cases m
  B := fun h m => by rw [h2] at m; cases m
theorem HxOk.ofP {ex : Ex} {E0 : XP → Env → (Rv → Env → Prop) → Prop} {M0 : Scope → Expr → Bool} (h1 : sem Γ ex = TG.ofE E0) (h2 : hm N bl ex = hE M0)
    (hE : ∀ {R : XP} {sc : Scope} {ow : Str → Bool} {X : Cx} {e : Expr}, XHot Γ G N sc ow bl X → M0 sc e = true → plainT e = true ∧ PE X e (tE Γ R G ex)) : HxOk Γ G N bl ex :=
  HxOk.ofE h2 (fun h m => (hE h m).2) fun h m => s_truth h.hK (fun env Q hw => by rw [wpT, h1] at hw; rw [wpE, h1]; exact hw) (plainT_of (hE (R := noX) h m).1) (hE h m).2
theorem HxOk.no {ex : Ex} (h2 : hm N bl ex = hE fun _ _ => false) : HxOk Γ G N bl ex := HxOk.ofE h2 (fun _ m => by cases m) fun _ m => by cases m
theorem hok (Γ : Ga) (G : Gh) (N bl : List Str) (ex : Ex) : HxOk Γ G N bl ex := by
  induction ex with
  | var i =>
    exact HxOk.ofP rfl rfl fun {R sc ow X e} h m => by
      obtain ⟨x, p, rfl, m1, m2, m3⟩ := nmM_of m
      exact ⟨rfl, s_var (by rw [h.hN]; exact m1) (by rw [h.hsc]; exact isVis_of m2) (okN_of m3).1 (okN_of m3).2⟩
  | cint i =>
    exact HxOk.ofP rfl rfl fun {R sc ow X e} h m => by
      cases e <;> try cases m
      rename_i c _ _
      cases c <;> try cases m
      simp only [decide_eq_true_eq] at m
      subst m
      exact ⟨rfl, s_int⟩
  | cstr i =>
    exact HxOk.ofP rfl rfl fun {R sc ow X e} h m => by
      cases e <;> try cases m
      rename_i c _ _
      cases c <;> try cases m
      simp only [decide_eq_true_eq] at m
      subst m
      exact ⟨rfl, s_str⟩
  | cbl i =>
    exact HxOk.ofP rfl rfl fun {R sc ow X e} h m => by
      cases e <;> try cases m
      rename_i c _ _
      cases c <;> try cases m
      simp only [decide_eq_true_eq] at m
      subst m
      exact ⟨rfl, s_bl⟩
  | cnon =>
    exact HxOk.ofP rfl rfl fun {R sc ow X e} h m => by
      cases e <;> try cases m
      rename_i c _ _
      cases c <;> try cases m
      exact ⟨rfl, s_non⟩
  | bin op a b iha ihb =>
    exact HxOk.ofP rfl rfl fun {R sc ow X e} h m => by
      cases e <;> try cases m
      simp only [Bool.and_eq_true, decide_eq_true_eq] at m
      obtain ⟨⟨m1, m2⟩, m3⟩ := m
      subst m1
      exact ⟨rfl, s_bin h.hK (iha.E h m2) (ihb.E h m3)⟩
  | cmp op a b iha ihb =>
    have key : ∀ {R : XP} {sc : Scope} {ow : Str → Bool} {X : Cx} {e : Expr}, XHot Γ G N sc ow bl X → (hm N bl (.cmp op a b)).E sc e = true → PE X e (tE Γ R G (.cmp op a b)) ∧ PT X e (tT Γ R G (.cmp op a b)) := fun {R sc ow X e} h m => by
      cases e <;> try cases m
      rename_i l ops cs pos
      rcases ops with _ | ⟨op', _ | ⟨_, _⟩⟩ <;> try cases m
      rcases cs with _ | ⟨y, _ | ⟨_, _⟩⟩ <;> try cases m
      simp only [hm, TG.hE, Bool.and_eq_true, decide_eq_true_eq, Bool.not_eq_true'] at m
      obtain ⟨⟨⟨m1, m2⟩, m3⟩, m4⟩ := m
      subst m1
      exact ⟨s_cmp h.un h.hK m2 (iha.E h m3) (ihb.E h m4), s_cmpT h.un h.hK m2 (iha.E h m3) (ihb.E h m4)⟩
    exact HxOk.ofE rfl (fun h m => (key h m).1) fun h m => (key h m).2
  | andn a b iha ihb =>
    have key : ∀ {R : XP} {sc : Scope} {ow : Str → Bool} {X : Cx} {e : Expr}, XHot Γ G N sc ow bl X → (hm N bl (.andn a b)).E sc e = true → PE X e (tE Γ R G (.andn a b)) ∧ PT X e (tT Γ R G (.andn a b)) := fun {R sc ow X e} h m => by
      cases e <;> try cases m
      rename_i op vs pos
      cases op <;> try cases m
      rcases vs with _ | ⟨x, _ | ⟨y, _ | ⟨z, zs⟩⟩⟩ <;> try cases m
      · simp only [hm, TG.hE, Bool.and_eq_true] at m
        exact ⟨s_and h.hK (iha.E h m.1) (pe_one (ihb.E h m.2)), (s_andT (iha.T h m.1) (pw_and1 (ihb.T h m.2))).pt⟩
      · simp only [hm, TG.hE, Bool.and_eq_true] at m
        refine ⟨s_and h.hK (iha.E h m.1) (ihb.E h m.2), (s_andT (iha.T h m.1) ⟨fun wh pins s σ H Q I hw => ?_⟩).pt⟩
        exact (ihb.T h m.2).run pins s σ H Q I hw
    exact HxOk.ofE rfl (fun h m => (key h m).1) fun h m => (key h m).2
  | orn a b iha ihb =>
    have key : ∀ {R : XP} {sc : Scope} {ow : Str → Bool} {X : Cx} {e : Expr}, XHot Γ G N sc ow bl X → (hm N bl (.orn a b)).E sc e = true → PE X e (tE Γ R G (.orn a b)) ∧ PT X e (tT Γ R G (.orn a b)) := fun {R sc ow X e} h m => by
      cases e <;> try cases m
      rename_i op vs pos
      cases op <;> try cases m
      rcases vs with _ | ⟨x, _ | ⟨y, _ | ⟨z, zs⟩⟩⟩ <;> try cases m
      · simp only [hm, TG.hE, Bool.and_eq_true] at m
        exact ⟨s_or h.hK (iha.E h m.1) (pe_one (ihb.E h m.2)), (s_orT (iha.T h m.1) (pw_or1 (ihb.T h m.2))).pt⟩
      · simp only [hm, TG.hE, Bool.and_eq_true] at m
        refine ⟨s_or h.hK (iha.E h m.1) (ihb.E h m.2), (s_orT (iha.T h m.1) ⟨fun wh pins s σ H Q I hw => ?_⟩).pt⟩
        exact (ihb.T h m.2).run pins s σ H Q I hw
    exact HxOk.ofE rfl (fun h m => (key h m).1) fun h m => (key h m).2
  | notn a iha =>
    have key : ∀ {R : XP} {sc : Scope} {ow : Str → Bool} {X : Cx} {e : Expr}, XHot Γ G N sc ow bl X → (hm N bl (.notn a)).E sc e = true → PE X e (tE Γ R G (.notn a)) ∧ PT X e (tT Γ R G (.notn a)) := fun {R sc ow X e} h m => by
      cases e <;> try cases m
      rename_i op _ _
      cases op <;> try cases m
      exact ⟨s_not h.hK (iha.E h m), s_notT (iha.T h m)⟩
    exact HxOk.ofE rfl (fun h m => (key h m).1) fun h m => (key h m).2
  | tupn as ih =>
    exact HxOk.ofP rfl rfl fun {R sc ow X e} h m => by
      cases e <;> try cases m
      exact ⟨rfl, s_tup (ih.A h m)⟩
  | lstn as ih =>
    exact HxOk.ofP rfl rfl fun {R sc ow X e} h m => by
      cases e <;> try cases m
      exact ⟨rfl, s_lst (ih.A h m)⟩
  | nil =>
    exact {
      E := fun h m => by cases m
      T := fun h m => by cases m
      A := fun {R sc ow X es} h m => by
        cases es <;> try cases m
        exact s_anil
      B := fun {R sc ow X es} h m => by
        cases es <;> try cases m
        exact s_bnil }
  | cons a as iha ih =>
    exact {
      E := fun h m => by cases m
      T := fun h m => by cases m
      A := fun {R sc ow X es} h m => by
        cases es <;> try cases m
        have m' := m
        simp only [hm, Bool.and_eq_true] at m'
        exact s_acons (star_cons (hm_star m'.1)) (iha.E h m'.1) (ih.A h m'.2)
      B := fun {R sc ow X es} h m => by
        cases es <;> try cases m
        have m' := m
        simp only [hm, Bool.and_eq_true] at m'
        exact s_bcons (star_cons (hm_star m'.1)) (iha.E h m'.1) (ih.B h m'.2) }
  | meth mt o as iho ih =>
    exact HxOk.ofP rfl rfl fun {R sc ow X e} h m => by
      cases e <;> try cases m
      rename_i fe es kws pos
      cases fe <;> try cases m
      cases es <;> cases kws <;> try cases m
      simp only [Bool.and_eq_true, decide_eq_true_eq] at m
      obtain ⟨⟨⟨⟨⟨⟨m1, m2⟩, m3⟩, m4⟩, m5⟩, m6⟩, m7⟩ := m
      subst m1
      have st := hm_stars m7
      have st2 := st
      rw [List.all_cons, Bool.and_eq_true] at st2
      have hmt : MtOk X mt := by
        cases mt <;> first | exact mtok_index h.un | exact mtok_count h.un | (exfalso; revert m5; decide)
      exact ⟨rfl, s_meth h.hK hmt (iho.E h m6) (ih.B h m7) (plainO_of m2) (few_of st m4) m3 (star_cons st2.1) (star_all st2.2).1⟩
  | «mut» mt i as ih =>
    exact HxOk.ofP rfl rfl fun {R sc ow X e} h m => by
      cases e <;> try cases m
      rename_i fe es kws pos
      cases fe <;> try cases m
      rename_i o _ _
      cases o <;> try cases m
      cases es <;> cases kws <;> try cases m
      simp only [Bool.and_eq_true, decide_eq_true_eq] at m
      obtain ⟨⟨⟨⟨⟨⟨⟨m1, m2⟩, m3⟩, m4⟩, m5⟩, m6⟩, m7⟩, m8⟩ := m
      subst m1
      have st := hm_stars m8
      have st2 := st
      rw [List.all_cons, Bool.and_eq_true] at st2
      have hmt : MmOk X mt := by
        cases mt <;> first | exact mmok_append | (exfalso; revert m7; decide)
      exact ⟨rfl, s_mut h.hK hmt (by rw [h.hN]; exact m2) (by rw [h.hsc]; exact isVis_of m3) (okN_of m4).1 (okN_of m4).2 (ih.A h m8) (plainO_of rfl) (few_of st m6) m5 (star_cons st2.1) (star_all st2.2).1⟩
  | idx a i iha ihi =>
    exact HxOk.ofP rfl rfl fun {R sc ow X e} h m => by
      cases e <;> try cases m
      simp only [Bool.and_eq_true] at m
      exact ⟨rfl, s_idx h.un h.hK (plainI_of m.1.1) (iha.E h m.1.2) (ihi.E h m.2)⟩
  | isx i cs =>
    exact HxOk.ofP rfl rfl fun {R sc ow X e} h m => by
      cases e <;> try cases m
      rename_i fe es kws pos
      cases fe <;> try cases m
      rcases es with _ | ⟨x, _ | ⟨y, _ | ⟨_, _⟩⟩⟩ <;> try cases m
      cases kws <;> try cases m
      simp only [Bool.and_eq_true, decide_eq_true_eq] at m
      obtain ⟨⟨⟨⟨m1, m2⟩, m3⟩, m4⟩, m5⟩ := m
      subst m1
      obtain ⟨x, p, rfl, n1, n2, n3⟩ := nmM_of m4
      refine ⟨rfl, ?_⟩
      unfold isxM at m5
      split at m5
      · simp only [Bool.and_eq_true, decide_eq_true_eq] at m5
        exact s_isxT h (h.gl m3) (h.bl _ m2) (by rw [h.hN]; exact n1) (by rw [h.hsc]; exact isVis_of n2) n3 m5.1 m5.2
      · split at m5
        · exact s_isx1 h (h.gl m3) (h.bl _ m2) (by rw [h.hN]; exact n1) (by rw [h.hsc]; exact isVis_of n2) n3 m5
        · cases m5
  | fld i f =>
    exact HxOk.ofP rfl rfl fun {R sc ow X e} h m => by
      cases e <;> try cases m
      simp only [Bool.and_eq_true, decide_eq_true_eq] at m
      obtain ⟨⟨m1, m2⟩, m3⟩ := m
      subst m1
      obtain ⟨x, p, rfl, n1, n2, n3⟩ := nmM_of m3
      exact ⟨rfl, s_fld h m2 (by rw [h.hN]; exact n1) (by rw [h.hsc]; exact isVis_of n2) n3⟩
  | callx f i =>
    exact HxOk.ofP rfl rfl fun {R sc ow X e} h m => by
      cases e <;> try cases m
      rename_i fe es kws pos
      cases fe <;> try cases m
      rcases es with _ | ⟨x, _ | ⟨_, _⟩⟩ <;> try cases m
      cases kws <;> try cases m
      simp only [Bool.and_eq_true, decide_eq_true_eq] at m
      obtain ⟨⟨⟨m1, m2⟩, m3⟩, m4⟩ := m
      subst m1
      obtain ⟨x, p, rfl, n1, n2, n3⟩ := nmM_of m4
      exact ⟨rfl, s_callx h (h.gl m2) (okN_of m3).1 (by rw [h.hN]; exact n1) (by rw [h.hsc]; exact isVis_of n2) n3⟩
  | comp vs tg it c e ihi ihc ihe =>
    cases tg with
    | sub _ _ => exact HxOk.no (by rcases vs with _ | ⟨_, _ | ⟨_, _⟩⟩ <;> rfl)
    | nil => exact HxOk.no (by rcases vs with _ | ⟨_, _ | ⟨_, _⟩⟩ <;> rfl)
    | cons _ _ => exact HxOk.no (by rcases vs with _ | ⟨_, _ | ⟨_, _⟩⟩ <;> rfl)
    | nm t =>
      rcases vs with _ | ⟨v, _ | ⟨_, _⟩⟩ <;> try exact HxOk.no rfl
      cases it <;> try exact HxOk.no rfl
      rename_i a
      cases a <;> try exact HxOk.no rfl
      rename_i n
      refine HxOk.ofP rfl rfl fun {R sc ow X ex} h m => ?_
      obtain ⟨elt, tx, tp, gp, x, cp, ce, scope, pos, rfl, m2, m3, m4, m5, m6, m7, m8, m9, m10⟩ := hcM_of m
      subst m7
      obtain ⟨pe, hot, mem, hb⟩ := h.blk
      simp only [mT, Bool.and_eq_true, decide_eq_true_eq] at m6
      have l := isLoc_of m6.2
      have ia : PE X x (tE Γ R G (.cint n)) := by
        cases x <;> try cases m4
        rename_i k _ _
        cases k <;> try cases m4
        have := of_decide_eq_true m4
        subst this
        exact s_int
      have base := pe_lcH (pos := pos) (elt := elt) (tg := .Name tx tp) (ifs := [ce]) hot mem (by rw [h.hN]; exact h.nd) (s_r1H (R := R) (p := gp) (pos := cp) (h.gl m3) (h.bl _ m2) ia (by rw [star_cons m8] <;> rfl)) (blkOk_by (own := ownN N [t]) (by rw [h.hN, h.hsc]; exact m5))
        (fun s H C cl fp => (g_name (G := G) (j := t) (by rw [(hb s H C cl fp scope).hN]; exact h.nd) (by rw [(hb s H C cl fp scope).hN]; exact m6.1) (by rw [(hb s H C cl fp scope).hsc]; exact l.imp id And.left) (by
          rcases l with l | l
          · exact .inr (by rw [(hb s H C cl fp scope).hsc]; exact l)
          · exact .inl ((hb s H C cl fp scope).cell _ l.2)) : PG _ _ (tG G (.nm t))))
        (fun s H C cl fp => pts_one (ihc.T (R := noX) (hb s H C cl fp scope) m9)) (fun s H C cl fp => ihe.E (R := noX) (hb s H C cl fp scope) m10) (fun _ => rfl)
      rw [ownN_snd] at base
      exact ⟨rfl, pe_imp base fun σ H Q hx => comp_sem (fun i hi => by simpa [Tg.nms] using hi) hx⟩
    | tp ts =>
      have eq : (∃ i, it = .enum (.var i) ∧ hm N bl (.comp vs (.tp ts) it c e) = TG.hE fun sc ex => hcM2 N bl sc vs (.tp ts) (nmM N i) (hm N bl c).E (hm N bl e).E ex) ∨ hm N bl (.comp vs (.tp ts) it c e) = TG.hE fun _ _ => false := by
        rcases vs with _ | ⟨v, _ | ⟨_, _⟩⟩ <;> cases it <;> first | exact .inr rfl | (rename_i a; cases a <;> first | exact .inr rfl | exact .inl ⟨_, rfl, rfl⟩)
      rcases eq with ⟨i, rfl, eq⟩ | eq
      rotate_left
      · exact HxOk.no eq
      refine HxOk.ofP rfl eq fun {R sc ow X ex} h m => ?_
      obtain ⟨elt, es, k, tp, gp, x, cp, ce, scope, pos, rfl, m2, m3, m4, m5, m6, m7, m8, m9, m10⟩ := hcM2_of m
      obtain ⟨pe, hot, mem, hb⟩ := h.blk
      have ia : PE X x (tE Γ R G (.var i)) := by
        obtain ⟨y, p, rfl, n1, n2, n3⟩ := nmM_of m4
        exact s_var (by rw [h.hN]; exact n1) (by rw [h.hsc]; exact isVis_of n2) (okN_of n3).1 (okN_of n3).2
      have base := pe_lcH (pos := pos) (elt := elt) (tg := .Tuple es k tp) (ifs := [ce]) hot mem (by rw [h.hN]; exact h.nd) (s_enH (R := R) (p := gp) (pos := cp) h.hK (h.gl m3) (h.bl _ m2) ia (by rw [star_cons m8] <;> rfl)) (blkOk_by (own := ownN N vs) (by rw [h.hN, h.hsc]; exact m5))
        (fun s H C cl fp => tgh_ok ⟨(hb s H C cl fp scope).hN, (hb s H C cl fp scope).nd, (hb s H C cl fp scope).hsc, ⟨pe, hot, List.mem_singleton.mpr rfl⟩, (hb s H C cl fp scope).hK, (hb s H C cl fp scope).un, (hb s H C cl fp scope).cell⟩ (.tp ts) _ m6)
        (fun s H C cl fp => pts_one (ihc.T (R := noX) (hb s H C cl fp scope) m9)) (fun s H C cl fp => ihe.E (R := noX) (hb s H C cl fp scope) m10) (fun _ => rfl)
      rw [ownN_snd] at base
      rw [List.all_eq_true] at m7
      exact ⟨rfl, pe_imp base fun σ H Q hx => comp_sem (fun i hi => by simpa using m7 i hi) hx⟩
  | _ => exact HxOk.no rfl
end
end TG
end
section
namespace TG
open PySem PySem.Spec PyProof.Rows L2 L2N
abbrev St1 := L2.St

def isCompd : Ex → Bool
  | .compd _ _ _ _ _ _ => true
  | .kept _ _ => true
  | _ => false
structure Ss where
  S : Stmt → Bool
  B : List Stmt → Bool
def oneS (S : Stmt → Bool) : Ss := ⟨S, fun _ => false⟩
def isLC : Expr → Bool
  | .ListComp _ _ _ _ => true
  | .SetComp _ _ _ _ => true
  | .DictComp _ _ _ _ _ => true
  | _ => false
def swapC (sc : Scope) (y : Str) (py : Pos) : Expr → Bool
  | .ListComp _ _ s p => decide (sc.names.lookup y = some .local) && (py.line == p.line) && !(s.names.any fun (n, k) => n == y && (k == .local || k == .cell))
  | _ => false
def cellN (sc : Scope) (y : Str) : Bool := decide (sc.names.lookup y = some .cell)
def swapN : Expr → Bool
  | .Tuple vs _ _ => !(vs.length == 2 || vs.length == 3) || vs.all (foldedForSure 8)
  | _ => true
def isLocal (sc : Scope) (x : Str) : Bool := decide (sc.names.lookup x = some .local)
/-- a target that comprehensions see -/
def cellT (sc : Scope) : List Expr → Bool
  | [] => false
  | .Name x _ :: r => cellN sc x || cellT sc r
  | _ :: r => cellT sc r
def isTupX : Ex → Bool
  | .tupn _ => true
  | _ => false
section
variable (N bl : List Str) (sc : Scope) (ow : Str → Bool)
/-- an except suite; a def that is handed the refusal -/
def hms : Sm → Ss
  | .asg (.nm j) e => oneS fun st => match st with
    | .Assign [.Name y _] v _ => decide (N[j]? = some y) && isLoc sc ow y && (hm N bl e).E sc v && !isLC v
    | _ => false
  | .expr e => oneS fun st => match st with
    | .Expr v _ => !isLC v && (hm N bl e).E sc v
    | _ => false
  | .ret e => oneS fun st => match st with
    | .Return (some v) _ => (hm N bl e).E sc v
    | _ => false
  | .ifs c a b => oneS fun st => match st with
    | .If ce sa sb _ => (hm N bl c).E sc ce && (hms a).B sa && (hms b).B sb
    | _ => false
  | .pass => oneS fun st => match st with
    | .Pass _ => true
    | _ => false
  | .nil => ⟨fun _ => false, fun ss => match ss with
    | [] => true
    | _ => false⟩
  | .cons a b => ⟨fun _ => false, fun ss => match ss with
    | s :: ss => (hms a).S s && (hms b).B ss
    | _ => false⟩
  | _ => ⟨fun _ => false, fun _ => false⟩
/-- raise C(..) -/
def rsM (c : Str) (f : Option (Expr → Bool)) : Stmt → Bool
  | .Raise (some (.Call (.Name x _) [ae] [] _)) none _ => decide (c = x) && isGl sc x && decide (rM c ∈ bl) && okN x && (match f with
    | none => decide (fldOf c = "") && (match ae with
      | .Constant (.str _) _ _ => true
      | _ => false)
    | some f => f ae && false)
  | _ => false
/-- try: .. except C [as n]: .. -/
def trM (fb fs : List Stmt → Bool) (c : Str) (i : Option Nat) : Stmt → Bool
  | .Try body [.ExceptHandler (some (.Name x _)) on (b0 :: suite) _] [] [] _ => decide (c = x) && isGl sc x && okN x && decide (qM c ∈ bl) && fb body && fs (b0 :: suite) && (match i, on with
    | some i, some n => decide (N[i]? = some n) && isLocal sc n
    | none, none => true
    | _, _ => false)
  | _ => false
def ms : Sm → Ss
  | .asg (.nm j) e => oneS fun st => match st with
    | .Assign [.Name y py] v _ => decide (N[j]? = some y) && isLoc sc ow y && (mm N bl e).E sc ow v && (!isLC v || (swapC sc y py v && !isCompd e) || cellN sc y)
    | _ => false
  | .asg (.tp ts) e => oneS fun st => match st with
    | .Assign [.Tuple tes k p] v _ => mTs N sc ow ts tes && (swapN v || cellT sc tes) && (mm N bl e).E sc ow v
    | _ => false
  | .asg _ _ => oneS fun _ => false
  | .par2 i j a b => oneS fun st => match st with
    | .Assign [.Tuple [.Name x px, .Name y py] _ _] (.Tuple [ea, eb] _ _) _ => decide (N[i]? = some x) && decide (N[j]? = some y) && decide (i ≠ j) && isLocal sc x && isLocal sc y && (py.line == px.line) && !([ea, eb].all (foldedForSure 8)) && !([ea, eb].all (constantsAlone 8)) &&
      (mm N bl a).E sc ow ea && (mm N bl b).E sc ow eb
    | _ => false
  | .pak2 i j a b => oneS fun st => match st with
    | .Assign [.Tuple [.Name x px, .Name y py] _ _] (.Tuple [ea, eb] _ _) _ => decide (N[i]? = some x) && decide (N[j]? = some y) && decide (i ≠ j) && isLocal sc x && isLocal sc y && (py.line == px.line) && !([ea, eb].all (foldedForSure 8)) && !([ea, eb].all (constantsAlone 8)) &&
      (mm N bl a).E sc ow ea && (mm N bl b).E sc ow eb
    | _ => false
  | .pak3 i j k a b c => oneS fun st => match st with
    | .Assign [.Tuple [.Name x _, .Name y _, .Name z _] _ _] (.Tuple [ea, eb, ec] _ _) _ => decide (N[i]? = some x) && decide (N[j]? = some y) && decide (N[k]? = some z) && (cellN sc x || (cellN sc y || cellN sc z)) && isLoc sc ow x && isLoc sc ow y && isLoc sc ow z &&
      (mm N bl a).E sc ow ea && (mm N bl b).E sc ow eb && (mm N bl c).E sc ow ec
    | _ => false
  | .new2 i j => oneS fun st => match st with
    | .Assign [.Tuple [.Name x px, .Name y py] _ _] (.Tuple [.List [] pa, .List [] pb] _ _) _ => decide (N[i]? = some x) && decide (N[j]? = some y) && decide (i ≠ j) && isLocal sc x && isLocal sc y && (py.line == px.line) && !([Expr.List [] pa, .List [] pb].all (foldedForSure 8)) && !([Expr.List [] pa, .List [] pb].all (constantsAlone 8))
    | _ => false
  | .new3 i j k => oneS fun st => match st with
    | .Assign [.Tuple [.Name x px, .Name y py, .Name z pz] _ _] (.Tuple [.List [] pa, .List [] pb, .List [] pd] _ _) _ => (decide (N[i]? = some x) && decide (N[j]? = some y) && decide (N[k]? = some z) && decide (i ≠ j) && decide (i ≠ k) && decide (j ≠ k)) && ((isLocal sc x && isLocal sc y && isLocal sc z && (py.line == px.line) && (pz.line == px.line) &&
      !([Expr.List [] pa, .List [] pb, .List [] pd].all (foldedForSure 8)) && !([Expr.List [] pa, .List [] pb, .List [] pd].all (constantsAlone 8))) || ((cellN sc x || cellN sc y || cellN sc z) && isLoc sc ow x && isLoc sc ow y && isLoc sc ow z))
    | _ => false
  | .par3 i j k a b c => oneS fun st => match st with
    | .Assign [.Tuple [.Name x px, .Name y py, .Name z pz] _ _] (.Tuple [ea, eb, ec] _ _) _ => decide (N[i]? = some x) && decide (N[j]? = some y) && decide (N[k]? = some z) && decide (i ≠ j) && decide (i ≠ k) && decide (j ≠ k) && isLocal sc x && isLocal sc y && isLocal sc z && (py.line == px.line) && (pz.line == px.line) &&
      !([ea, eb, ec].all (foldedForSure 8)) && !([ea, eb, ec].all (constantsAlone 8)) && (mm N bl a).E sc ow ea && (mm N bl b).E sc ow eb && (mm N bl c).E sc ow ec
    | _ => false
  | .sub i k e => oneS fun st => match st with
    | .Assign [.Subscript (.Name x _) ke _] v _ => decide (N[i]? = some x) && isVis sc x && okN x && plainI ke && (mm N bl k).E sc ow ke && (mm N bl e).E sc ow v
    | _ => false
  | .expr e => oneS fun st => match st with
    | .Expr v _ => !isLC v && (mm N bl e).E sc ow v
    | _ => false
  | .ret e => oneS fun st => match st with
    | .Return (some v) _ => (mm N bl e).E sc ow v
    | _ => false
  | .retN => oneS fun st => match st with
    | .Return none _ => true
    | _ => false
  | .ifs c a b => oneS fun st => match st with
    | .If ce sa sb _ => (mm N bl c).E sc ow ce && (ms a).B sa && (ms b).B sb
    | _ => false
  | .whl c b => oneS fun st => match st with
    | .While ce sb [] _ => (mm N bl c).E sc ow ce && (ms b).B sb
    | _ => false
  | .forr t it b => oneS fun st => match st with
    | .For tg ie sb [] _ => mT N sc ow t tg && (mm N bl it).I sc ow tg ie && notSet ie && (ms b).B sb
    | _ => false
  | .pass => oneS fun st => match st with
    | .Pass _ => true
    | _ => false
  | .brk => oneS fun st => match st with
    | .Break _ => true
    | _ => false
  | .cont => oneS fun st => match st with
    | .Continue _ => true
    | _ => false
  | .lend _ s => ⟨(ms s).S, fun _ => false⟩
  | .raise c .nil => oneS fun st => rsM bl sc c none st
  | .raise c (.cons a .nil) => oneS fun st => rsM bl sc c (some ((mm N bl a).E sc ow)) st
  | .raise _ _ => oneS fun _ => false
  | .tryx b c i s => oneS fun st => trM N bl sc (ms b).B (hms N bl sc ow s).B c i st
  | .nil => ⟨fun _ => false, fun ss => match ss with
    | [] => true
    | _ => false⟩
  | .cons a b => ⟨fun _ => false, fun ss => match ss with
    | s :: ss => (ms a).S s && (ms b).B ss
    | _ => false⟩
end
theorem filterMap_lt {α β : Type} {f : α → Option β} : ∀ {l : List α}, (∃ a ∈ l, f a = none) → (l.filterMap f).length < l.length
  | [], ⟨_, h, _⟩ => nomatch h
  | x :: l, ⟨a, h, e⟩ => by
    rw [List.filterMap_cons, List.length_cons]
    have le := List.length_filterMap_le f l
    rcases List.mem_cons.mp h with rfl | h
    · rw [e]
      show (l.filterMap f).length < _
      omega
    · have ih := filterMap_lt (f := f) ⟨a, h, e⟩
      cases f x with
      | none => show (l.filterMap f).length < _; omega
      | some y => show (l.filterMap f).length + 1 < _; omega
theorem cellT_of {sc : Scope} : ∀ {l : List Expr}, cellT sc l = true → ∃ x p, .Name x p ∈ l ∧ sc.names.lookup x = some .cell
  | [], h => nomatch h
  | e :: l, h => by
    have deep : cellT sc l = true → ∃ x p, .Name x p ∈ e :: l ∧ sc.names.lookup x = some .cell := fun h => by
      obtain ⟨x, p, m, k⟩ := cellT_of h
      exact ⟨x, p, List.mem_cons_of_mem _ m, k⟩
    cases e <;> try exact deep h
    rename_i x p
    rcases (Bool.or_eq_true _ _).mp h with h | h
    · exact ⟨x, p, List.mem_cons_self, of_decide_eq_true h⟩
    · exact deep h
theorem swap_cell {tes : List Expr} {v : Expr} {kt : Nat} {pt : Pos} {E : PySem.Env} (h : cellT E.scope tes = true) : swappedStores [.Tuple tes kt pt] v E = pure none := by
  obtain ⟨x, p, m, k⟩ := cellT_of h
  have kx : E.kindOf x = some .cell := k
  cases v with
  | Tuple vs k2 p2 =>
    unfold swappedStores
    simp only
    split
    · rfl
    · split
      · rfl
      · rw [if_pos]
        rw [Bool.or_eq_true]
        left
        rw [bne_iff_ne]
        refine Nat.ne_of_lt (filterMap_lt ⟨_, m, ?_⟩)
        simp only [kx]
        rfl
  | _ => rfl
theorem swapsWith_no {v : Expr} {t : Option Expr} {l : Nat} {E : PySem.Env} (h : isLC v = false) : swapsWith v t l E = pure false := by
  cases v <;> first | rfl | cases h
theorem notStarE {e : Expr} (h : noStar e = true) : (match e with | .Starred .. => true | _ => false) = false := by
  cases e <;> first | rfl | cases h
theorem swapN_of {tes : List Expr} {k : Nat} {p : Pos} {v : Expr} {E : PySem.Env} (h : swapN v = true) : swappedStores [.Tuple tes k p] v E = pure none := by
  cases v with
  | Tuple vs k2 p2 =>
    unfold swapN at h
    unfold swappedStores
    simp only
    split
    · rfl
    · rename_i hc
      split
      · rfl
      · split
        · rfl
        · have hv : vs.all (foldedForSure 8) = true := by
            rcases (Bool.or_eq_true _ _).mp h with h | h
            · exfalso
              apply hc
              simp only [Bool.or_eq_true, bne_iff_ne, ne_eq]
              by_cases q : vs.length = tes.length
              · left; left; rw [q] at h; exact h
              · left; right; exact q
            · exact h
          rw [if_pos hv]
  | _ => rfl
theorem blk_fun {E : PySem.Env} (h : E.scope.kind = .function) : E.blockKind = .function := by unfold Env.blockKind; rw [h]; rfl
theorem swap2 {x y : Str} {px py : Pos} {ea eb : Expr} {kt k2 : Nat} {pt pt2 : Pos} {E : PySem.Env} (hk : E.scope.kind = .function) (hx : E.scope.names.lookup x = some .local) (hy : E.scope.names.lookup y = some .local) (hl : (py.line == px.line) = true) (hne : x ≠ y) (na : noStar ea = true) (nb : noStar eb = true)
    (h1 : [ea, eb].all (foldedForSure 8) = false) (h2 : [ea, eb].all (constantsAlone 8) = false) : swappedStores [.Tuple [.Name x px, .Name y py] kt pt] (.Tuple [ea, eb] k2 pt2) E = pure (some [x, y]) := by
  unfold swappedStores
  have kx : E.kindOf x = some .local := hx
  have ky : E.kindOf y = some .local := hy
  have hb := blk_fun hk
  have hl' := beq_iff_eq.mp hl
  have hne' : (y == x) = false := by simpa using fun e => hne e.symm
  simp only [hb]
  rw [if_neg (by simp)]
  rw [if_neg (by
    rw [Bool.not_eq_true, List.any_eq_false]
    intro e he
    have ne : noStar e = true := by
      simp only [List.mem_cons, List.not_mem_nil, or_false] at he
      rcases he with rfl | rfl
      · exact na
      · exact nb
    cases e <;> first | exact Bool.false_ne_true | cases ne)]
  rw [h1, h2]
  simp [kx, ky, Expr.pos, hl', List.eraseDups_cons, hne']
theorem swap3 {x y z : Str} {px py pz : Pos} {ea eb ec : Expr} {kt k2 : Nat} {pt pt2 : Pos} {E : PySem.Env} (hk : E.scope.kind = .function) (hx : E.scope.names.lookup x = some .local) (hy : E.scope.names.lookup y = some .local) (hz : E.scope.names.lookup z = some .local) (hl : (py.line == px.line) = true) (hl2 : (pz.line == px.line) = true) (hne : x ≠ y) (hne2 : x ≠ z) (hne3 : y ≠ z) (na : noStar ea = true) (nb : noStar eb = true) (nc : noStar ec = true)
    (h1 : [ea, eb, ec].all (foldedForSure 8) = false) (h2 : [ea, eb, ec].all (constantsAlone 8) = false) : swappedStores [.Tuple [.Name x px, .Name y py, .Name z pz] kt pt] (.Tuple [ea, eb, ec] k2 pt2) E = pure (some [x, y, z]) := by
  unfold swappedStores
  have kx : E.kindOf x = some .local := hx
  have ky : E.kindOf y = some .local := hy
  have kz : E.kindOf z = some .local := hz
  have hb := blk_fun hk
  have hl' := beq_iff_eq.mp hl
  have hl2' := beq_iff_eq.mp hl2
  have hne' : (y == x) = false := by simpa using fun e => hne e.symm
  have hne2' : (z == x) = false := by simpa using fun e => hne2 e.symm
  have hne3' : (z == y) = false := by simpa using fun e => hne3 e.symm
  simp only [hb]
  rw [if_neg (by simp)]
  rw [if_neg (by
    rw [Bool.not_eq_true, List.any_eq_false]
    intro e he
    have ne : noStar e = true := by
      simp only [List.mem_cons, List.not_mem_nil, or_false] at he
      rcases he with rfl | rfl | rfl
      · exact na
      · exact nb
      · exact nc
    cases e <;> first | exact Bool.false_ne_true | cases ne)]
  rw [h1, h2]
  simp [kx, ky, kz, Expr.pos, hl', hl2', List.eraseDups_cons, hne', hne2', hne3']
section
variable {Γ : Ga} {R : XP} {G : Gh} {X : Cx} {N bl : List Str} {sc : Scope} {ow : Str → Bool}
/-- a class whose refusals are made by C("..") -/
structure ClsMk (K : PySem.W.Frag) (mg : Str → Option Value) (n : Str) (C : Addr) : Prop where
  xc : XCls K mg n C
  ein : PySem.W.excIn K C [.type "ValueError", .type "Exception", .type "BaseException", .type "object"] "ValueError.__new__" = true
  kp : PySem.W.keepIn K (.ref C) = true
  sb : PySem.W.subIn K (.ref C) (.type "BaseException") = some true
  ty : PySem.W.typeIn K (.ref C) = some (.type "type")
structure SOk (Γ : Ga) (R : XP) (G : Gh) (N : List Str) (sc : Scope) (ow : Str → Bool) (bL : List Str) (X : Cx) : Prop extends XOk Γ R G N sc ow bL X where
  own : PassesOwn (model X.prog X.w) X.A X.env X.xe
  kind : sc.kind = .function
  tk : L2N.Takes X (fun cls d σ H => WR X.mg G R σ cls d H)
  gx : G.x = none
  xk : ∀ c, rM c ∈ bL → ∃ C, ClsMk X.K X.mg c C
  xt : ∀ c, qM c ∈ bL → c ∈ xAll ∧ ∃ C, X.mg c = some (.ref C)
  stk : X.stack = X.env :: X.outer
  frm : X.env.frame = some X.env.locals
  fx : ∀ f h, Γ.fx f = some h → ∃ k, L2H.RoomH k X.A ∧ FxIs X.prog X.w X.K X.mg X.base k f h
theorem swapC_of {y : Str} {py spos : Pos} {v : Expr} (h : SOk Γ R G N sc ow bl X) (m : swapC sc y py v = true) : ∃ elt gens s p, v = .ListComp elt gens s p ∧ X.env.scope.names.lookup y = some .local ∧ swapsWith v (some (.Name y py)) spos.line X.env = pure true := by
  cases v <;> try cases m
  rename_i elt gens s p
  simp only [swapC, Bool.and_eq_true, decide_eq_true_eq, Bool.not_eq_true'] at m
  refine ⟨elt, gens, s, p, rfl, by rw [h.hsc]; exact m.1.1, sw_true (by rw [h.hsc]; exact h.kind) (by rw [h.hsc]; exact m.1.1) m.1.2 m.2⟩
theorem swapsWith_cell {y : Str} {py : Pos} {v : Expr} {l : Nat} {E : PySem.Env} (h : E.scope.names.lookup y = some .cell) : swapsWith v (some (.Name y py)) l E = pure false := by
  have ky : E.kindOf y = some .cell := h
  have e0 : ((some NameKind.cell : Option NameKind) == some .local) = false := rfl
  cases v <;> first | rfl | (unfold swapsWith; simp only [ky, e0, Bool.and_false, Bool.false_and])
theorem nd_ne (h : SOk Γ R G N sc ow bl X) {i j : Nat} {x y : Str} (hi : N[i]? = some x) (hj : N[j]? = some y) (n : i ≠ j) : x ≠ y := fun e => n (nodup_ix h.nd hi (by rw [e]; exact hj))
def Gh.lend (G : Gh) (i : Nat) (a : Addr) : Gh := { G with S := fun b => G.S b ∨ b = a, ad := fun j => if j = i then a else G.ad j }
theorem own_lend {env : Env} {i j : Nat} {d d' : TG.D} (e : env[i]? = some (Sl.ow d)) : own (env.set i (.io d')) j ↔ own env j := by
  unfold own
  by_cases q : i = j
  · subst q
    have l := (List.getElem?_eq_some_iff.mp e).1
    rw [List.getElem?_set_self l, e]
    exact ⟨fun _ => ⟨d, .inl rfl⟩, fun _ => ⟨d', .inr rfl⟩⟩
  · rw [List.getElem?_set_ne q]
theorem own_back {env : Env} {i j : Nat} {d d' : TG.D} (e : env[i]? = some (Sl.io d)) : own (env.set i (.ow d')) j ↔ own env j := by
  unfold own
  by_cases q : i = j
  · subst q
    have l := (List.getElem?_eq_some_iff.mp e).1
    rw [List.getElem?_set_self l, e]
    exact ⟨fun _ => ⟨d, .inr rfl⟩, fun _ => ⟨d', .inl rfl⟩⟩
  · rw [List.getElem?_set_ne q]
theorem set_cases {env : Env} {i j : Nat} {s t : Sl} (e : (env.set i s)[j]? = some t) : (i = j ∧ s = t) ∨ (i ≠ j ∧ env[j]? = some t) := by
  by_cases q : i = j
  · subst q
    have l := (List.getElem?_eq_some_iff.mp e).1
    rw [List.length_set] at l
    rw [List.getElem?_set_self l] at e
    exact .inl ⟨rfl, Option.some.inj e⟩
  · rw [List.getElem?_set_ne q] at e
    exact .inr ⟨q, e⟩
theorem Rel.lend {σ : L2.St} {Z : Addr → Prop} {H : Hp} {env : Env} {i : Nat} {d : TG.D} {a : Addr} (Rl : Rel G σ Z H env) (e : env[i]? = some (Sl.ow d)) (es : σ[i]? = some (some (V.ref a))) (nz : ¬ Z a) (tp : Top G.K Z H a d) : Rel (G.lend i a) σ Z H (env.set i (.io d)) where
  len := by rw [List.length_set]; exact Rl.len
  im := fun j c hj => by
    rcases set_cases hj with ⟨_, z⟩ | ⟨_, z⟩
    · cases z
    · exact Rl.im j c z
  ow := fun j c hj => by
    rcases set_cases hj with ⟨_, z⟩ | ⟨_, z⟩
    · cases z
    · exact Rl.ow j c z
  io := fun j c hj => by
    rcases set_cases hj with ⟨rfl, z⟩ | ⟨n, z⟩
    · cases z
      have ea : (G.lend i a).ad i = a := if_pos rfl
      rw [ea]
      exact ⟨es, nz, .inr rfl, tp⟩
    · have ea : (G.lend i a).ad j = G.ad j := if_neg (Ne.symm n)
      rw [ea]
      obtain ⟨h1, h2, h3, h4⟩ := Rl.io j c z
      exact ⟨h1, h2, .inl h3, h4⟩
  lk := fun j c hj => by
    rcases set_cases hj with ⟨_, z⟩ | ⟨_, z⟩
    · cases z
    · exact Rl.lk j c z
  inj := fun j k b hj hk => by
    have cv : ∀ j, ownk (env.set i (.io d)) j → ownk env j := fun j hj => hj.elim (fun z => .inl ((own_lend e).mp z)) fun ⟨c, z⟩ => by
      rcases set_cases z with ⟨_, z⟩ | ⟨_, z⟩
      · cases z
      · exact .inr ⟨c, z⟩
    exact Rl.inj j k b (cv j hj) (cv k hk)
  z0 := Rl.z0
  z1 := Rl.z1
  zt := Rl.zt
  keep := fun b o h n => Rl.keep b o h fun z => n (.inl z)
  tr := Rl.tr
  xc := ⟨(fun j n f hj => by
    rcases set_cases hj with ⟨_, z⟩ | ⟨_, z⟩
    · cases z
    · exact Rl.xc.sl j n f z), Rl.xc.zb, Rl.xc.hb⟩
theorem Rel.back {σ : L2.St} {Z : Addr → Prop} {H : Hp} {env : Env} {i : Nat} {d : TG.D} {a : Addr} (Rl : Rel (G.lend i a) σ Z H env) (h0 : G.H0 a = none) (e : env[i]? = some (Sl.io d)) : Rel G σ Z H (env.set i (.ow d)) := by
  have ea : (G.lend i a).ad i = a := if_pos rfl
  obtain ⟨es, nz, _, tp⟩ := Rl.io i d e
  rw [ea] at es nz tp
  refine ⟨by rw [List.length_set]; exact Rl.len, fun j c hj => ?_, fun j c hj => ?_, fun j c hj => ?_, fun j c hj => ?_, fun j k b hj hk => ?_, Rl.z0, Rl.z1, Rl.zt, fun b o h n => ?_, Rl.tr, ⟨(fun j n f hj => by
    rcases set_cases hj with ⟨_, z⟩ | ⟨_, z⟩
    · cases z
    · exact Rl.xc.sl j n f z), Rl.xc.zb, Rl.xc.hb⟩⟩
  · rcases set_cases hj with ⟨_, z⟩ | ⟨_, z⟩
    · cases z
    · exact Rl.im j c z
  · rcases set_cases hj with ⟨rfl, z⟩ | ⟨_, z⟩
    · cases z
      exact ⟨a, es, nz, h0, tp⟩
    · exact Rl.ow j c z
  · rcases set_cases hj with ⟨_, z⟩ | ⟨n, z⟩
    · cases z
    · have eb : (G.lend i a).ad j = G.ad j := if_neg (Ne.symm n)
      have x := Rl.io j c z
      rw [eb] at x
      obtain ⟨h1, h2, h3, h4⟩ := x
      refine ⟨h1, h2, h3.resolve_right fun q => n ?_, h4⟩
      exact Rl.inj i j a (.inl ⟨d, .inr e⟩) (.inl ⟨c, .inr z⟩) es (by rw [h1, q])
  · rcases set_cases hj with ⟨_, z⟩ | ⟨_, z⟩
    · cases z
    · exact Rl.lk j c z
  · have cv : ∀ j, ownk (env.set i (.ow d)) j → ownk env j := fun j hj => hj.elim (fun z => .inl ((own_back e).mp z)) fun ⟨c, z⟩ => by
      rcases set_cases z with ⟨_, z⟩ | ⟨_, z⟩
      · cases z
      · exact .inr ⟨c, z⟩
    exact Rl.inj j k b (cv j hj) (cv k hk)
  · exact Rl.keep b o h fun z => z.elim n fun q => by rw [q, h0] at h; cases h
theorem lendE_out {i : Nat} {K : Env → Prop} {e : Env} (h : lendE i K e) : ∃ d, e[i]? = some (Sl.io d) ∧ K (e.set i (.ow d)) := by
  unfold lendE at h
  split at h
  · next d q => exact ⟨d, q, h⟩
  · exact h.elim
theorem PostOk.lend {Z : Addr → Prop} {H : Hp} {i : Nat} {a : Addr} {P : Post} {D : Ends} (hp : PostOk G Z H P D) (h0 : G.H0 a = none) : PostOk (G.lend i a) Z H (lendP i P) D where
  nx := fun σ' Z' H' env' R' m w => by
    obtain ⟨d, e, w⟩ := lendE_out w
    exact hp.nx _ _ _ _ (R'.back h0 e) m w
  rt := fun r v σ' Z' H' env' R' m rv nb w => by
    obtain ⟨d, e, w⟩ := lendE_out w
    refine hp.rt r v _ _ _ _ (R'.back h0 e) m ?_ nb w
    cases r with
    | im c => exact rv
    | fr c =>
      obtain ⟨b, rfl, h1, h2, h3, h4⟩ := rv
      exact ⟨b, rfl, h1, fun ⟨j, o, q⟩ => h2 ⟨j, (own_back e).mp o, q⟩, h3, h4⟩
    | bo j => exact (nb j rfl).elim
  bk := fun σ' Z' H' env' R' m w => by
    obtain ⟨d, e, w⟩ := lendE_out w
    exact hp.bk _ _ _ _ (R'.back h0 e) m w
  ct := fun σ' Z' H' env' R' m w => by
    obtain ⟨d, e, w⟩ := lendE_out w
    exact hp.ct _ _ _ _ (R'.back h0 e) m w
theorem cx_imp {P : Program} {w : World} {outer : List PySem.Env} {H : Hp} {s s' : Shared} {E E' : XK} {u : Value} (c : L2N.CX P w outer H s E u s') (i : ∀ cls d H', E cls d H' → E' cls d H') : L2N.CX P w outer H s E' u s' := by
  obtain ⟨a, B, H', cls, d, h1, h2, h3, h4, h5, h6, h7, h8⟩ := c
  exact ⟨a, B, H', cls, d, h1, h2, h3, h4, h5, h6, h7, i _ _ _ h8⟩
theorem SOk.lend (h : SOk Γ R G N sc ow bl X) {i : Nat} {a : Addr} (h0 : G.H0 a = none) : SOk Γ (fun x => lendE i (R x)) (G.lend i a) N sc ow bl X where
  hN := h.hN
  nd := h.nd
  hsc := h.hsc
  calm := h.calm
  hK := h.hK
  un := h.un
  gd := h.gd
  bl := h.bl
  cs := h.cs
  fn := h.fn
  px := fun σ pins H s e s' I c => h.px σ pins H s e s' I (by
    refine cx_imp c fun cls dd H' ⟨Z, env, x, Rl, xr, w⟩ => ?_
    obtain ⟨d, q, w⟩ := lendE_out w
    exact ⟨Z, _, x, Rl.back h0 q, xr, w⟩)
  cell := h.cell
  own := h.own
  kind := h.kind
  tk := h.tk.imp fun cls dd σ H ⟨Z, env, x, Rl, xr, w⟩ => by
    obtain ⟨d, q, w⟩ := lendE_out w
    exact ⟨Z, _, x, Rl.back h0 q, xr, w⟩
  gx := h.gx
  xk := h.xk
  xt := h.xt
  stk := h.stk
  frm := h.frm
  fx := h.fx
/-- the ghost at a try's start; with the refusal that is handled -/
def Gh.base (G : Gh) (Z : Addr → Prop) (H : Hp) : Gh := { G with Z0 := Z, Hb := H }
def Gh.hot (G : Gh) (g : XG) : Gh := { G with x := some g }
section
variable {σ : L2.St} {Z Z' Z2 : Addr → Prop} {H H' H2 : Hp} {env env' : Env} {P : Post} {D : Ends}
theorem Rel.toBase (Rl : Rel G σ Z H env) : Rel (G.base Z H) σ Z H env :=
  ⟨Rl.len, Rl.im, Rl.ow, Rl.io, Rl.lk, Rl.inj, fun _ z => z, fun _ z => .inl z, Rl.zt, Rl.keep, Rl.tr, ⟨Rl.xc.sl, fun _ z => z, fun _ _ _ e => e⟩⟩
theorem Rel.ofBase (R0 : Rel G σ Z H env) {σ' : L2.St} (Rl : Rel (G.base Z H) σ' Z' H' env') : Rel G σ' Z' H' env' ∧ Mon Z H Z' H' :=
  ⟨⟨Rl.len, Rl.im, Rl.ow, Rl.io, Rl.lk, Rl.inj, fun b z => Rl.z0 b (R0.z0 b z), fun b z => (Rl.z1 b z).elim (R0.z1 b) .inr, Rl.zt, Rl.keep, Rl.tr, ⟨Rl.xc.sl, fun b z => Rl.z0 b (R0.z0 b z), fun b o z e => Rl.xc.hb b o (R0.z0 b z) (R0.xc.hb b o z e)⟩⟩, fun b z => Rl.z0 b z, fun b o z e => Rl.xc.hb b o z e⟩
theorem PostOk.toBase (R0 : Rel G σ Z H env) (p : PostOk G Z H P D) : PostOk (G.base Z H) Z H P D :=
  ⟨fun s z h e r n q => p.nx s z h e (R0.ofBase r).1 n q, fun x v s z h e r n q y w => p.rt x v s z h e (R0.ofBase r).1 n (by
    cases x with
    | im c => exact q
    | fr c => exact q
    | bo j => exact (y j rfl).elim) y w, fun s z h e r n q => p.bk s z h e (R0.ofBase r).1 n q, fun s z h e r n q => p.ct s z h e (R0.ofBase r).1 n q⟩
theorem slX_of {e : Env} {i : Nat} (h : slX e i) : i < e.length ∧ (∀ d, e[i]? ≠ some (Sl.io d)) ∧ ∀ d, e[i]? ≠ some (Sl.lk d) := by
  unfold slX at h
  refine ⟨?_, fun d q => by rw [q] at h; exact h, fun d q => by rw [q] at h; exact h⟩
  by_cases l : i < e.length
  · exact l
  · rw [List.getElem?_eq_none (Nat.le_of_not_lt l)] at h
    exact h.elim
theorem get_set {α : Type} {l : List α} {i j : Nat} {x y : α} (h : (l.set i x)[j]? = some y) : (i = j ∧ i < l.length ∧ x = y) ∨ (i ≠ j ∧ l[j]? = some y) := by
  by_cases q : i = j
  · subst q
    by_cases m : i < l.length
    · rw [List.getElem?_set_self m] at h
      exact .inl ⟨rfl, m, Option.some.inj h⟩
    · rw [List.getElem?_eq_none (by rw [List.length_set]; omega)] at h; cases h
  · rw [List.getElem?_set_ne q] at h
    exact .inr ⟨q, h⟩
theorem ownk_set_off {e : Env} {i : Nat} {s : Sl} (hs : (∀ d, s ≠ .ow d) ∧ (∀ d, s ≠ .io d) ∧ ∀ d, s ≠ .lk d) {j : Nat} (h : ownk (e.set i s) j) : ownk e j ∧ i ≠ j := by
  rcases h with ⟨c, h | h⟩ | ⟨c, h⟩
  · rcases get_set h with ⟨_, _, q⟩ | ⟨n, q⟩
    · exact (hs.1 c q).elim
    · exact ⟨.inl ⟨c, .inl q⟩, n⟩
  · rcases get_set h with ⟨_, _, q⟩ | ⟨n, q⟩
    · exact (hs.2.1 c q).elim
    · exact ⟨.inl ⟨c, .inr q⟩, n⟩
  · rcases get_set h with ⟨_, _, q⟩ | ⟨n, q⟩
    · exact (hs.2.2 c q).elim
    · exact ⟨.inr ⟨c, q⟩, n⟩
/-- the refusal is caught -/
theorem Rel.toHot (gx : G.x = none) (Rl : Rel G σ Z H env) {i : Nat} (hs : slX env i) {a : Addr} {n : Str} {f : Option TG.D} {d : Option Addr} (xf : XFld G.K Z H d n f) : Rel (G.hot ⟨i, a, n, d, true⟩) (σ.set i (some (.ref a))) Z H (env.set i (.xc n f)) := by
  obtain ⟨l, ni, nl⟩ := slX_of hs
  have ne : ∀ {j : Nat}, i ≠ j → (σ.set i (some (V.ref a)))[j]? = σ[j]? := fun q => List.getElem?_set_ne q
  have no : (∀ d, Sl.xc n f ≠ .ow d) ∧ (∀ d, Sl.xc n f ≠ .io d) ∧ ∀ d, Sl.xc n f ≠ .lk d := ⟨(fun _ q => nomatch q), (fun _ q => nomatch q), (fun _ q => nomatch q)⟩
  refine ⟨by rw [List.length_set, List.length_set]; exact Rl.len, fun j c h => ?_, fun j c h => ?_, fun j c h => ?_, fun j c h => ?_, fun j k b hj hk e1 e2 => ?_, Rl.z0, Rl.z1, Rl.zt, Rl.keep, Rl.tr, ⟨fun j m f' h => ?_, Rl.xc.zb, Rl.xc.hb⟩⟩
  · rcases get_set h with ⟨_, _, q⟩ | ⟨q, h⟩
    · cases q
    · rw [ne q]; exact Rl.im j c h
  · rcases get_set h with ⟨_, _, q⟩ | ⟨q, h⟩
    · cases q
    · rw [ne q]; exact Rl.ow j c h
  · rcases get_set h with ⟨_, _, q⟩ | ⟨q, h⟩
    · cases q
    · rw [ne q]; exact Rl.io j c h
  · rcases get_set h with ⟨_, _, q⟩ | ⟨q, h⟩
    · cases q
    · rw [ne q]; exact Rl.lk j c h
  · obtain ⟨hj, q1⟩ := ownk_set_off no hj
    obtain ⟨hk, q2⟩ := ownk_set_off no hk
    rw [ne q1] at e1
    rw [ne q2] at e2
    exact Rl.inj j k b hj hk e1 e2
  · rcases get_set h with ⟨q, _, e⟩ | ⟨q, h⟩
    · subst q
      cases e
      exact ⟨_, rfl, ⟨rfl, rfl⟩, rfl, List.getElem?_set_self (by rw [← Rl.len]; exact l), xf⟩
    · obtain ⟨g, e, _⟩ := Rl.xc.sl j m f' h
      rw [gx] at e
      cases e
/-- its name is gone -/
theorem Rel.ofHot {i : Nat} {a : Addr} {n : Str} {d : Option Addr} {u : Bool} (Rl : Rel (G.hot ⟨i, a, n, d, u⟩) σ Z H env) : Rel G (σ.set i none) Z H (env.set i .un) ∧ Rel G σ Z H (env.set i .un) := by
  have no : (∀ d, Sl.un ≠ .ow d) ∧ (∀ d, Sl.un ≠ .io d) ∧ ∀ d, Sl.un ≠ .lk d := ⟨(fun _ q => nomatch q), (fun _ q => nomatch q), (fun _ q => nomatch q)⟩
  have main : ∀ σ' : L2.St, σ'.length = σ.length → (∀ j, i ≠ j → σ'[j]? = σ[j]?) → Rel G σ' Z H (env.set i .un) := fun σ' hl ne => by
    refine ⟨by rw [List.length_set, hl]; exact Rl.len, fun j c h => ?_, fun j c h => ?_, fun j c h => ?_, fun j c h => ?_, fun j k b hj hk e1 e2 => ?_, Rl.z0, Rl.z1, Rl.zt, Rl.keep, Rl.tr, ⟨fun j m f' h => ?_, Rl.xc.zb, Rl.xc.hb⟩⟩
    · rcases get_set h with ⟨_, _, q⟩ | ⟨q, h⟩
      · cases q
      · rw [ne j q]; exact Rl.im j c h
    · rcases get_set h with ⟨_, _, q⟩ | ⟨q, h⟩
      · cases q
      · rw [ne j q]; exact Rl.ow j c h
    · rcases get_set h with ⟨_, _, q⟩ | ⟨q, h⟩
      · cases q
      · rw [ne j q]; exact Rl.io j c h
    · rcases get_set h with ⟨_, _, q⟩ | ⟨q, h⟩
      · cases q
      · rw [ne j q]; exact Rl.lk j c h
    · obtain ⟨hj, q1⟩ := ownk_set_off no hj
      obtain ⟨hk, q2⟩ := ownk_set_off no hk
      rw [ne j q1] at e1
      rw [ne k q2] at e2
      exact Rl.inj j k b hj hk e1 e2
    · rcases get_set h with ⟨q, _, e⟩ | ⟨q, h⟩
      · cases e
      · obtain ⟨g, e, eq, _⟩ := Rl.xc.sl j m f' h
        cases e
        exact (q eq.2.symm).elim
  exact ⟨main _ List.length_set fun j q => List.getElem?_set_ne q, main _ rfl fun _ _ => rfl⟩
theorem Rel.toHotN (gx : G.x = none) (Rl : Rel G σ Z H env) {g : XG} : Rel (G.hot g) σ Z H env :=
  ⟨Rl.len, Rl.im, Rl.ow, Rl.io, Rl.lk, Rl.inj, Rl.z0, Rl.z1, Rl.zt, Rl.keep, Rl.tr, ⟨(fun j n f e => by
    obtain ⟨g, q, _⟩ := Rl.xc.sl j n f e
    rw [gx] at q
    cases q), Rl.xc.zb, Rl.xc.hb⟩⟩
theorem PostOk.hot {i : Nat} {a : Addr} {n : Str} {d : Option Addr} {u : Bool} (p : PostOk G Z H P D) (m : Mon Z H Z' H') :
    PostOk (G.hot ⟨i, a, n, d, u⟩) Z' H' (goneP i P) { nx := fun σ' H' => D.nx (σ'.set i none) H', rt := D.rt, bk := fun σ' H' => D.bk (σ'.set i none) H', ct := fun σ' H' => D.ct (σ'.set i none) H' } where
  nx := fun s z h e r k q => p.nx _ z h _ r.ofHot.1 (m.trans k) q
  rt := fun x v s z h e r k q y w => p.rt x v s z h _ r.ofHot.2 (m.trans k) (by
    cases x with
    | im c => exact q
    | fr c =>
      obtain ⟨b, rfl, h1, h2, h3, h4⟩ := q
      exact ⟨b, rfl, h1, fun ⟨j, o, e2⟩ => h2 ⟨j, (own_set o).elim id fun z => by
        subst z
        obtain ⟨c, o | o⟩ := o <;> (rcases get_set o with ⟨_, _, q⟩ | ⟨q, _⟩; · cases q
                                    · exact (q rfl).elim), e2⟩, h3, h4⟩
    | bo j => exact (y j rfl).elim) y w
  bk := fun s z h e r k q => p.bk _ z h _ r.ofHot.1 (m.trans k) q
  ct := fun s z h e r k q => p.ct _ z h _ r.ofHot.1 (m.trans k) q
theorem Rel.ofHotN {g : XG} (hu : g.u = false) (gx : G.x = none) (Rl : Rel (G.hot g) σ Z H env) : Rel G σ Z H env :=
  ⟨Rl.len, Rl.im, Rl.ow, Rl.io, Rl.lk, Rl.inj, Rl.z0, Rl.z1, Rl.zt, Rl.keep, Rl.tr, ⟨(fun j n f e => by
    obtain ⟨g', q, z, _⟩ := Rl.xc.sl j n f e
    cases q
    rw [hu] at z
    cases z.1), Rl.xc.zb, Rl.xc.hb⟩⟩
theorem PostOk.hotN {g : XG} (hu : g.u = false) (gx : G.x = none) (p : PostOk G Z H P D) (m : Mon Z H Z' H') : PostOk (G.hot g) Z' H' P D where
  nx := fun s z h e r k q => p.nx s z h e (r.ofHotN hu gx) (m.trans k) q
  rt := fun x v s z h e r k q y w => p.rt x v s z h e (r.ofHotN hu gx) (m.trans k) (by
    cases x with
    | im c => exact q
    | fr c => exact q
    | bo j => exact (y j rfl).elim) y w
  bk := fun s z h e r k q => p.bk s z h e (r.ofHotN hu gx) (m.trans k) q
  ct := fun s z h e r k q => p.ct s z h e (r.ofHotN hu gx) (m.trans k) q
end
/-- statements of an except suite -/
theorem hsok {Γ : Ga} {G : Gh} {N bl : List Str} {sc : Scope} {ow : Str → Bool} {X : Cx} {R : XP} (h : XHot Γ G N sc ow bl X) (sm : Sm) : (∀ st, (hms N bl sc ow sm).S st = true → PS X st (tS Γ R G sm)) ∧ ∀ ss, (hms N bl sc ow sm).B ss = true → PSs X ss (tS Γ R G sm) := by
  induction sm with
  | asg t e =>
    cases t with
    | nm j =>
      refine ⟨fun st m => ?_, fun ss m => by cases m⟩
      cases st <;> try cases m
      rename_i ts v spos
      rcases ts with _ | ⟨t, _ | ⟨_, _⟩⟩ <;> try first | cases m | (exfalso; simp [hms, oneS] at m; done)
      cases t <;> try cases m
      rename_i y py
      simp only [hms, oneS, Bool.and_eq_true, decide_eq_true_eq, Bool.not_eq_true'] at m
      obtain ⟨⟨⟨m1, m2⟩, m3⟩, m4⟩ := m
      have l := isLoc_of m2
      refine ps_imp (ps_set (by rw [h.hN]; exact h.nd) (by rw [h.hN]; exact m1) (by rw [h.hsc]; exact l.imp id And.left) ((hok Γ G N bl e).E h m3) (swapsWith_no m4) ?_) fun D σ H hx => t_asg hx
      rcases l with l | l
      · exact .inr (by rw [h.hsc]; exact l)
      · exact .inl (h.cell _ l.2)
    | _ => exact ⟨fun st m => (by cases m), fun ss m => (by cases m)⟩
  | expr e =>
    refine ⟨fun st m => ?_, fun ss m => by cases m⟩
    simp only [hms, oneS] at m
    split at m <;> try cases m
    simp only [Bool.and_eq_true, Bool.not_eq_true'] at m
    exact s_expr ((hok Γ G N bl e).E h m.2) (swapsWith_no m.1)
  | ret e =>
    refine ⟨fun st m => ?_, fun ss m => by cases m⟩
    simp only [hms, oneS] at m
    split at m <;> try cases m
    exact s_ret ((hok Γ G N bl e).E h m)
  | ifs c a b iha ihb =>
    refine ⟨fun st m => ?_, fun ss m => by cases m⟩
    simp only [hms, oneS] at m
    split at m <;> try cases m
    simp only [Bool.and_eq_true] at m
    exact s_if ((hok Γ G N bl c).T h m.1.1) (iha.2 _ m.1.2) (ihb.2 _ m.2)
  | pass =>
    refine ⟨fun st m => ?_, fun ss m => by cases m⟩
    simp only [hms, oneS] at m
    split at m <;> try cases m
    exact s_pass
  | nil =>
    refine ⟨fun st m => (by cases m), fun ss m => ?_⟩
    cases ss <;> try cases m
    exact s_nil
  | cons a b iha ihb =>
    refine ⟨fun st m => (by cases m), fun ss m => ?_⟩
    cases ss <;> try cases m
    have m' := m
    simp only [hms, Bool.and_eq_true] at m'
    exact s_cons (iha.1 _ m'.1) (ihb.2 _ m'.2)
  | _ => exact ⟨fun st m => (by cases m), fun ss m => (by cases m)⟩
theorem rsM_of {c : Str} {f : Option (Expr → Bool)} {st : Stmt} (h : rsM bl sc c f st = true) : ∃ p ae q r, st = .Raise (some (.Call (.Name c p) [ae] [] q)) none r ∧ isGl sc c = true ∧ rM c ∈ bl ∧ okN c = true ∧ (match f with
    | none => fldOf c = "" ∧ ∃ m k p, ae = .Constant (.str m) k p
    | some _ => False) := by
  unfold rsM at h
  split at h
  · simp only [Bool.and_eq_true, decide_eq_true_eq] at h
    obtain ⟨⟨⟨⟨m1, m2⟩, m3⟩, m4⟩, m5⟩ := h
    subst m1
    refine ⟨_, _, _, _, rfl, m2, m3, m4, ?_⟩
    cases f with
    | none =>
      simp only [Bool.and_eq_true, decide_eq_true_eq] at m5
      refine ⟨m5.1, ?_⟩
      have m5 := m5.2
      split at m5
      · exact ⟨_, _, _, rfl⟩
      · cases m5
    | some f =>
      simp only [Bool.and_false] at m5
      exact (Bool.false_ne_true m5).elim
  · cases h
theorem trM_of {fb fs : List Stmt → Bool} {c : Str} {i : Option Nat} {st : Stmt} (h : trM N bl sc fb fs c i st = true) : ∃ body np on b0 suite p1 p2, st = .Try body [.ExceptHandler (some (.Name c np)) on (b0 :: suite) p1] [] [] p2 ∧ isGl sc c = true ∧ okN c = true ∧ qM c ∈ bl ∧ fb body = true ∧ fs (b0 :: suite) = true ∧
    ((∃ j n, i = some j ∧ on = some n ∧ N[j]? = some n ∧ sc.names.lookup n = some .local) ∨ (i = none ∧ on = none)) := by
  unfold trM at h
  split at h
  · simp only [Bool.and_eq_true, decide_eq_true_eq] at h
    obtain ⟨⟨⟨⟨⟨⟨m1, m2⟩, m3⟩, m4⟩, m5⟩, m6⟩, m7⟩ := h
    subst m1
    refine ⟨_, _, _, _, _, _, _, rfl, m2, m3, m4, m5, m6, ?_⟩
    split at m7
    · simp only [Bool.and_eq_true, decide_eq_true_eq, isLocal] at m7
      exact .inl ⟨_, _, rfl, rfl, m7.1, m7.2⟩
    · exact .inr ⟨rfl, rfl⟩
    · cases m7
  · cases h
theorem SOk.inTry (h : SOk Γ R G N sc ow bl X) {R' : XP} {G' : Gh} (hG : G'.K = G.K) (gx : G'.x = none) {pn : List (Addr × Obj)} {xe : Value → Shared → Prop} (tk : L2N.Takes (X.tr pn xe) (fun cls d σ H => WR X.mg G' R' σ cls d H)) (ow' : PassesOwn (model X.prog X.w) X.A X.env xe) : SOk Γ R' G' N sc ow bl (X.tr pn xe) where
  hN := h.hN
  nd := h.nd
  hsc := h.hsc
  calm := h.calm
  hK := by rw [hG]; exact h.hK
  un := h.un
  gd := h.gd
  bl := h.bl
  cs := fun x d e => by rw [hG]; exact h.cs x d e
  fn := h.fn
  px := fun σ => L2N.passAt tk σ
  cell := h.cell
  own := ow'
  kind := h.kind
  tk := tk
  gx := gx
  xk := h.xk
  xt := h.xt
  stk := h.stk
  frm := h.frm
  fx := h.fx
theorem SOk.inSuite (h : SOk Γ R G N sc ow bl X) {u : Bool} {i : Nat} {a C : Addr} {oe : Obj} {n : Str} {d : Option Addr} {pn : List (Addr × Obj)} (hz : L2N.Zn (.ref C) d oe) (hf : ∃ vs, oe.data = .fields vs) (xc : XCls X.K X.mg n C) : XHot Γ (G.hot ⟨i, a, n, d, u⟩) N sc ow bl (X.suite a ((a, oe) :: pn)) where
  hN := h.hN
  nd := h.nd
  hsc := h.hsc
  hK := h.hK
  un := h.un
  gd := h.gd
  xt := h.xt
  bl := h.bl
  g := ⟨_, oe, C, rfl, List.mem_cons_self, hz, hf, xc, rfl⟩
  fx := fun f F e => by
    obtain ⟨k, r, q⟩ := h.fx f F e
    exact ⟨k, ⟨r.dp, r.un⟩, q⟩
  cell := h.cell
theorem sok (h : SOk Γ R G N sc ow bl X) (sm : Sm) : (∀ st, (ms N bl sc ow sm).S st = true → PS X st (tS Γ R G sm)) ∧ ∀ ss, (ms N bl sc ow sm).B ss = true → PSs X ss (tS Γ R G sm) := by
  induction sm generalizing R G X with
  | asg t e =>
    have hX := h.toXOk
    cases t with
    | nm j =>
      refine ⟨fun st m => ?_, fun ss m => by cases m⟩
      cases st <;> try cases m
      rename_i ts v spos
      rcases ts with _ | ⟨t, _ | ⟨_, _⟩⟩ <;> try first | cases m | (exfalso; simp [ms, oneS] at m; done)
      cases t <;> try cases m
      rename_i y py
      simp only [ms, oneS, Bool.and_eq_true, Bool.or_eq_true, decide_eq_true_eq, Bool.not_eq_true'] at m
      obtain ⟨⟨⟨m1, m2⟩, m3⟩, m4⟩ := m
      have l := isLoc_of m2
      by_cases q : swapC sc y py v = true ∧ isCompd e = false
      · obtain ⟨m4, m5⟩ := q
        obtain ⟨elt, gens, s, p, rfl, hyl, hsw⟩ := swapC_of (spos := spos) h m4
        have : ∃ vs tg it c e', e = .comp vs tg it c e' := by
          cases e <;> first | exact ⟨_, _, _, _, _, rfl⟩ | (exfalso; simp [mm, mkM, mkI, lrgM, srsM] at m3; done) | (cases m5; done)
        obtain ⟨vs, tg, it, c, e', rfl⟩ := this
        obtain ⟨tgE, iter, ifs, rfl, cp⟩ := comp_parts hX m3
        have base := ps_setLc (pos := p) (spos := spos) (py := py) h.calm (by rw [h.hN]; exact h.nd) (by rw [h.hN]; exact m1) hyl hsw cp.hi cp.ok cp.hg cp.ht cp.he cp.hs
        rw [ownN_snd] at base
        exact ps_imp base fun D σ H hx => comp_sem cp.nm (t_asg hx)
      · have hsw : swapsWith v (some (.Name y py)) spos.line X.env = pure false := by
          rcases m4 with (m4 | m4) | m4
          · exact swapsWith_no m4
          · exact absurd m4 q
          · exact swapsWith_cell (by rw [h.hsc]; exact of_decide_eq_true m4)
        refine ps_imp (ps_set (by rw [h.hN]; exact h.nd) (by rw [h.hN]; exact m1) (by rw [h.hsc]; exact l.imp id And.left) ((mok Γ G N bl e).E hX m3) hsw ?_) fun D σ H hx => t_asg hx
        rcases l with l | l
        · exact .inr (by rw [h.hsc]; exact l)
        · exact .inl (h.cell _ l.2)
    | tp ts =>
      refine ⟨fun st m => ?_, fun ss m => by cases m⟩
      cases st <;> try cases m
      rename_i tl v spos
      rcases tl with _ | ⟨t, _ | ⟨_, _⟩⟩ <;> try first | cases m | (exfalso; simp [ms, oneS] at m; done)
      cases t <;> try cases m
      simp only [ms, oneS, Bool.and_eq_true, Bool.not_eq_true'] at m
      obtain ⟨⟨m1, m3⟩, m4⟩ := m
      exact s_asgtp ((mok Γ G N bl e).E hX m4) (tgt_ok hX.tok (by simpa only [mT] using m1)) (by cases v <;> rfl) (((Bool.or_eq_true _ _).mp m3).elim (fun q => swapN_of q) fun q => swap_cell (by rw [h.hsc]; exact q)) rfl
    | sub _ _ => exact ⟨fun st m => (by cases m), fun ss m => (by cases m)⟩
    | nil => exact ⟨fun st m => (by cases m), fun ss m => (by cases m)⟩
    | cons _ _ => exact ⟨fun st m => (by cases m), fun ss m => (by cases m)⟩
  | par2 i j a b =>
    have hX := h.toXOk
    refine ⟨fun st m => ?_, fun ss m => by cases m⟩
    simp only [ms, oneS] at m
    split at m <;> try cases m
    rename_i x px y py kt pt ea eb k2 pt2 spos
    simp only [Bool.and_eq_true, decide_eq_true_eq, Bool.not_eq_true', isLocal] at m
    obtain ⟨⟨⟨⟨⟨⟨⟨⟨⟨m1, m2⟩, m3⟩, m4⟩, m5⟩, m6⟩, m7⟩, m8⟩, m9⟩, m10⟩ := m
    refine s_par2 h.calm (by rw [h.hN]; exact h.nd) (by rw [h.hN]; exact m1) (by rw [h.hN]; exact m2) m3 (by rw [h.hsc]; exact m4) (by rw [h.hsc]; exact m5)
      (s_acons (star_cons (mm_star m9)) ((mok Γ G N bl a).E hX m9) (s_acons (star_cons (mm_star m10)) ((mok Γ G N bl b).E hX m10) s_anil)) (swap2 (by rw [h.hsc]; exact h.kind) (by rw [h.hsc]; exact m4) (by rw [h.hsc]; exact m5) m6 (nd_ne h m1 m2 m3) (mm_star m9) (mm_star m10) m7 m8)
  | pak2 i j a b =>
    have hX := h.toXOk
    refine ⟨fun st m => ?_, fun ss m => by cases m⟩
    simp only [ms, oneS] at m
    split at m <;> try cases m
    rename_i x px y py kt pt ea eb k2 pt2 spos
    simp only [Bool.and_eq_true, decide_eq_true_eq, Bool.not_eq_true', isLocal] at m
    obtain ⟨⟨⟨⟨⟨⟨⟨⟨⟨m1, m2⟩, m3⟩, m4⟩, m5⟩, m6⟩, m7⟩, m8⟩, m9⟩, m10⟩ := m
    exact s_pak2 h.calm (by rw [h.hN]; exact h.nd) (by rw [h.hN]; exact m1) (by rw [h.hN]; exact m2) m3 (by rw [h.hsc]; exact m4) (by rw [h.hsc]; exact m5)
      ((mok Γ G N bl a).E hX m9) ((mok Γ G N bl b).E hX m10) (star_cons (mm_star m9)) (star_cons (mm_star m10)) (swap2 (by rw [h.hsc]; exact h.kind) (by rw [h.hsc]; exact m4) (by rw [h.hsc]; exact m5) m6 (nd_ne h m1 m2 m3) (mm_star m9) (mm_star m10) m7 m8)
  | pak3 i j k a b c =>
    have hX := h.toXOk
    refine ⟨fun st m => ?_, fun ss m => by cases m⟩
    simp only [ms, oneS] at m
    split at m <;> try cases m
    simp only [Bool.and_eq_true, decide_eq_true_eq, Bool.not_eq_true'] at m
    obtain ⟨⟨⟨⟨⟨⟨⟨⟨⟨m1, m2⟩, m3⟩, m7⟩, m8⟩, m9⟩, m10⟩, n1⟩, n2⟩, n3⟩ := m
    have gn : ∀ {l : Nat} {u : Str} {p : Pos}, N[l]? = some u → isLoc sc ow u = true → PG X (.Name u p) (gName l) := fun {l u p} hu hl => by
      have q := isLoc_of hl
      refine pg_name (by rw [h.hN]; exact h.nd) (by rw [h.hN]; exact hu) (by rw [h.hsc]; exact q.imp id And.left) ?_
      rcases q with q | q
      · exact .inr (by rw [h.hsc]; exact q)
      · exact .inl (h.cell _ q.2)
    refine s_pak3c h.calm h.hK (gn m1 m8) (gn m2 m9) (gn m3 m10) ((mok Γ G N bl a).E hX n1) ((mok Γ G N bl b).E hX n2) ((mok Γ G N bl c).E hX n3) (star_cons (mm_star n1)) (star_cons (mm_star n2)) (star_cons (mm_star n3)) (swap_cell (by
      rw [h.hsc]
      simp only [Bool.or_eq_true] at m7
      simp only [cellT, Bool.or_eq_true]
      rcases m7 with m7 | m7 | m7
      · exact .inl m7
      · exact .inr (.inl m7)
      · exact .inr (.inr (.inl m7))))
  | new2 i j =>
    have hX := h.toXOk
    refine ⟨fun st m => ?_, fun ss m => by cases m⟩
    simp only [ms, oneS] at m
    split at m <;> try cases m
    rename_i x px y py kt pt pa pb k2 pt2 spos
    simp only [Bool.and_eq_true, decide_eq_true_eq, Bool.not_eq_true', isLocal] at m
    obtain ⟨⟨⟨⟨⟨⟨⟨m1, m2⟩, m3⟩, m4⟩, m5⟩, m6⟩, m7⟩, m8⟩ := m
    exact s_new2 h.calm (by rw [h.hN]; exact h.nd) (by rw [h.hN]; exact m1) (by rw [h.hN]; exact m2) m3 (by rw [h.hsc]; exact m4) (by rw [h.hsc]; exact m5)
      (swap2 (by rw [h.hsc]; exact h.kind) (by rw [h.hsc]; exact m4) (by rw [h.hsc]; exact m5) m6 (nd_ne h m1 m2 m3) rfl rfl m7 m8)
  | new3 i j k =>
    have hX := h.toXOk
    refine ⟨fun st m => ?_, fun ss m => by cases m⟩
    simp only [ms, oneS] at m
    split at m <;> try cases m
    simp only [Bool.and_eq_true, decide_eq_true_eq, Bool.not_eq_true', isLocal] at m
    simp only [Bool.or_eq_true, Bool.and_eq_true, decide_eq_true_eq, Bool.not_eq_true'] at m
    obtain ⟨⟨⟨⟨⟨⟨m1, m2⟩, m3⟩, m4⟩, m5⟩, m6⟩, m⟩ := m
    rcases m with ⟨⟨⟨⟨⟨⟨m7, m8⟩, m9⟩, m10⟩, m11⟩, m12⟩, m13⟩ | ⟨⟨⟨m7, m8⟩, m9⟩, m10⟩
    · exact s_new3 h.calm (by rw [h.hN]; exact h.nd) (by rw [h.hN]; exact m1) (by rw [h.hN]; exact m2) (by rw [h.hN]; exact m3) m4 m5 m6 (by rw [h.hsc]; exact m7) (by rw [h.hsc]; exact m8) (by rw [h.hsc]; exact m9)
        (swap3 (by rw [h.hsc]; exact h.kind) (by rw [h.hsc]; exact m7) (by rw [h.hsc]; exact m8) (by rw [h.hsc]; exact m9) m10 m11 (nd_ne h m1 m2 m4) (nd_ne h m1 m3 m5) (nd_ne h m2 m3 m6) rfl rfl rfl m12 m13)
    · have gn : ∀ {l : Nat} {u : Str} {p : Pos}, N[l]? = some u → isLoc sc ow u = true → PG X (.Name u p) (gName l) := fun {l u p} hu hl => by
        have q := isLoc_of hl
        refine pg_name (by rw [h.hN]; exact h.nd) (by rw [h.hN]; exact hu) (by rw [h.hsc]; exact q.imp id And.left) ?_
        rcases q with q | q
        · exact .inr (by rw [h.hsc]; exact q)
        · exact .inl (h.cell _ q.2)
      refine s_new3c h.calm h.hK (gn m1 m8) (gn m2 m9) (gn m3 m10) (swap_cell (by
        rw [h.hsc]
        simp only [cellT, Bool.or_eq_true]
        rcases m7 with (m7 | m7) | m7
        · exact .inl m7
        · exact .inr (.inl m7)
        · exact .inr (.inr (.inl m7))))
  | par3 i j k a b c =>
    have hX := h.toXOk
    refine ⟨fun st m => ?_, fun ss m => by cases m⟩
    simp only [ms, oneS] at m
    split at m <;> try cases m
    simp only [Bool.and_eq_true, decide_eq_true_eq, Bool.not_eq_true', isLocal] at m
    obtain ⟨⟨⟨⟨⟨⟨⟨⟨⟨⟨⟨⟨⟨⟨⟨m1, m2⟩, m3⟩, m4⟩, m5⟩, m6⟩, m7⟩, m8⟩, m9⟩, m10⟩, m11⟩, m12⟩, m13⟩, m14⟩, m15⟩, m16⟩ := m
    refine s_par3 h.calm (by rw [h.hN]; exact h.nd) (by rw [h.hN]; exact m1) (by rw [h.hN]; exact m2) (by rw [h.hN]; exact m3) m4 m5 m6 (by rw [h.hsc]; exact m7) (by rw [h.hsc]; exact m8) (by rw [h.hsc]; exact m9)
      (s_acons (star_cons (mm_star m14)) ((mok Γ G N bl a).E hX m14) (s_acons (star_cons (mm_star m15)) ((mok Γ G N bl b).E hX m15) (s_acons (star_cons (mm_star m16)) ((mok Γ G N bl c).E hX m16) s_anil)))
      (swap3 (by rw [h.hsc]; exact h.kind) (by rw [h.hsc]; exact m7) (by rw [h.hsc]; exact m8) (by rw [h.hsc]; exact m9) m10 m11 (nd_ne h m1 m2 m4) (nd_ne h m1 m3 m5) (nd_ne h m2 m3 m6) (mm_star m14) (mm_star m15) (mm_star m16) m12 m13)
  | sub i k e =>
    have hX := h.toXOk
    refine ⟨fun st m => ?_, fun ss m => by cases m⟩
    simp only [ms, oneS] at m
    split at m <;> try cases m
    simp only [Bool.and_eq_true, decide_eq_true_eq] at m
    obtain ⟨⟨⟨⟨⟨m1, m2⟩, m3⟩, m4⟩, m5⟩, m6⟩ := m
    obtain ⟨d1, d2⟩ := okN_of m3
    by_cases q : ∃ as, k = .tupn as
    · obtain ⟨as, rfl⟩ := q
      rename_i ke _ _ _
      have : ∃ es kk p3, ke = .Tuple es kk p3 ∧ (mm N bl as).L sc ow es = true := by
        cases ke <;> try cases m5
        exact ⟨_, _, _, rfl, m5⟩
      obtain ⟨es, kk, p3, rfl, m5'⟩ := this
      exact s_subT h.un h.hK (by rw [h.hN]; exact m1) (by rw [h.hsc]; exact isVis_of m2) d1 d2 ((mok Γ G N bl e).E hX m6) ((mok Γ G N bl as).A hX m5')
    · exact s_subE m4 (fun as z => q ⟨as, z⟩) h.un h.hK (by rw [h.hN]; exact m1) (by rw [h.hsc]; exact isVis_of m2) d1 d2 ((mok Γ G N bl e).E hX m6) ((mok Γ G N bl k).E hX m5)
  | expr e =>
    have hX := h.toXOk
    refine ⟨fun st m => ?_, fun ss m => by cases m⟩
    simp only [ms, oneS] at m
    split at m <;> try cases m
    simp only [Bool.and_eq_true, Bool.not_eq_true'] at m
    exact s_expr ((mok Γ G N bl e).E hX m.2) (swapsWith_no m.1)
  | ret e =>
    have hX := h.toXOk
    refine ⟨fun st m => ?_, fun ss m => by cases m⟩
    simp only [ms, oneS] at m
    split at m <;> try cases m
    exact s_ret ((mok Γ G N bl e).E hX m)
  | retN =>
    have hX := h.toXOk
    refine ⟨fun st m => ?_, fun ss m => by cases m⟩
    simp only [ms, oneS] at m
    split at m <;> try cases m
    exact s_retN
  | ifs c a b iha ihb =>
    have hX := h.toXOk
    refine ⟨fun st m => ?_, fun ss m => by cases m⟩
    simp only [ms, oneS] at m
    split at m <;> try cases m
    simp only [Bool.and_eq_true] at m
    exact s_if ((mok Γ G N bl c).T hX m.1.1) ((iha h).2 _ m.1.2) ((ihb h).2 _ m.2)
  | whl c b ih =>
    have hX := h.toXOk
    refine ⟨fun st m => ?_, fun ss m => by cases m⟩
    simp only [ms, oneS] at m
    split at m <;> try cases m
    simp only [Bool.and_eq_true] at m
    exact s_while h.own ((mok Γ G N bl c).T hX m.1) ((ih h).2 _ m.2)
  | forr t it b ih =>
    have hX := h.toXOk
    refine ⟨fun st m => ?_, fun ss m => by cases m⟩
    simp only [ms, oneS] at m
    split at m <;> try cases m
    simp only [Bool.and_eq_true] at m
    exact s_for h.own h.calm ((mok Γ G N bl it).I hX m.1.1.2) (tg_ok hX.tok t _ m.1.1.1) ((ih h).2 _ m.2) (notSet_of m.1.2)
  | pass =>
    have hX := h.toXOk
    refine ⟨fun st m => ?_, fun ss m => by cases m⟩
    simp only [ms, oneS] at m
    split at m <;> try cases m
    exact s_pass
  | brk =>
    have hX := h.toXOk
    refine ⟨fun st m => ?_, fun ss m => by cases m⟩
    simp only [ms, oneS] at m
    split at m <;> try cases m
    exact s_brk
  | cont =>
    have hX := h.toXOk
    refine ⟨fun st m => ?_, fun ss m => by cases m⟩
    simp only [ms, oneS] at m
    split at m <;> try cases m
    exact s_cont
  | lend i s ih =>
    refine ⟨fun st m => ?_, fun ss m => by cases m⟩
    refine ⟨fun pins s0 σ H D I ⟨Z, env, P, hR, hw, hp⟩ => ?_⟩
    have hw : (match env[i]? with
      | some (.ow d) => wpS Γ (fun x => lendE i (R x)) s (env.set i (.io d)) (lendP i P)
      | _ => False) := hw
    split at hw
    · next d e =>
      obtain ⟨a, es, nz, h0, tp⟩ := hR.ow i d e
      have hX' := h.lend (i := i) h0
      exact ((ih hX').1 st m).run pins s0 σ H D I ⟨Z, _, _, hR.lend e es nz tp, hw, hp.lend h0⟩
    · exact hw.elim
  | raise c as =>
    refine ⟨fun st m => ?_, fun ss m => by cases as <;> first | (cases m; done) | (rename_i a as; cases as <;> cases m)⟩
    cases as <;> try (cases m; done)
    · obtain ⟨p, ae, q, r, rfl, m1, m2, m3, m4, k, mm, p', rfl⟩ := rsM_of (f := none) m
      obtain ⟨C, cm⟩ := h.xk c m2
      refine ps_imp (L2N.ps_raise h.calm h.tk (L2N.pmk_own PySem.F.excBase_ValueError cm.ein cm.xc.gC cm.kp (raises_own cm.sb cm.ty) (h.toXOk.gl m1) (okN_of m3).1)) fun D σ H ⟨Z, env, P, hR, hw, hp⟩ => ?_
      exact ⟨Z, env, (c, none), hR, ⟨C, rfl, by rw [← h.hK]; exact cm.xc, rfl⟩, hw⟩
    · rename_i a as
      cases as
      case nil =>
        obtain ⟨p, ae, q, r, _, _, _, _, z⟩ := rsM_of (f := some _) m
        exact z.elim
      all_goals (exfalso; simp [ms, oneS] at m; done)
  | tryx b c i s ihb ihs =>
    refine ⟨fun st m => ?_, fun ss m => by cases m⟩
    obtain ⟨body, np, on, b0, suite, p1, p2, rfl, m1, m2, m3, m4, m5, m6⟩ := trM_of m
    obtain ⟨cA, cv, hcv⟩ := h.xt c m3
    have names : Names X c (.ref cv) := ⟨h.toXOk.gl m1, (okN_of m2).1, .inl hcv⟩
    rcases m6 with ⟨j, n, rfl, rfl, hj, hn⟩ | ⟨rfl, rfl⟩
    · have base := L2N.ps_try_as (X := X) (np := np) (pos := p2) (pos' := p1) (tb := fun W D σ H => ∃ Z0 R', (∀ cls d σ' H', WR X.mg (G.base Z0 H) R' σ' cls d H' → W cls d σ' H') ∧ tS Γ R' (G.base Z0 H) b D σ H)
        (ts := fun a cls d D σ H => ∃ n C, cls = .ref C ∧ XCls X.K X.mg n C ∧ tS Γ noX (G.hot ⟨j, a, n, d, true⟩) s D σ H) h.stk h.frm (by rw [h.hN]; exact h.nd) (by rw [h.hN]; exact hj) (by show X.env.scope.names.lookup n = _; rw [h.hsc]; exact hn) names h.tk
        (fun W pn xe tk po => ⟨fun pins st σ H D I ⟨Z0, R', hW, ht⟩ => ((ihb (h.inTry (G' := G.base Z0 H) rfl h.gx (tk.imp fun cls d σ H q => hW cls d σ H q) po)).2 body m4).run pins st σ H D I ht⟩)
        (fun a oe cls d pn hz hf => ⟨fun pins st σ H D I ⟨n, C, e, xc, ht⟩ => ((hsok (h.inSuite (i := j) (a := a) (pn := pn) (by rw [← e]; exact hz) hf xc) s).2 _ m5).run pins st σ H D I ht⟩)
      refine ps_imp base fun D σ H ⟨Z, env, P, hR, hw, hp⟩ => ?_
      refine ⟨Z, fun x e => (isaX x.1 c = true → slX e j ∧ wpS Γ noX s (e.set j (.xc x.1 x.2)) (goneP j P)) ∧ (isaX x.1 c = false → R x e), fun cls d σ' H' ⟨Z', env', x, Rl, ⟨C, ec, xc, xf⟩, w1, w2⟩ => ?_, Z, env, P, hR.toBase, hw, hp.toBase hR⟩
      obtain ⟨R2, mo⟩ := hR.ofBase Rl
      subst ec
      have xc0 : XCls X.K X.mg x.1 C := by rw [h.hK]; exact xc
      refine ⟨isaX x.1 c, xc0.ex c cv hcv cA, fun e a na => ?_, fun e => ⟨Z', env', x, R2, ⟨C, rfl, xc, xf⟩, w2 e⟩⟩
      obtain ⟨sl, w⟩ := w1 e
      exact ⟨x.1, C, rfl, xc0, Z', _, _, R2.toHot h.gx sl xf, w, hp.hot mo⟩
    · have base := L2N.ps_try_many (X := X) (pos := p2) (tb := fun W D σ H => ∃ Z0 R', (∀ cls d σ' H', WR X.mg (G.base Z0 H) R' σ' cls d H' → W cls d σ' H') ∧ tS Γ R' (G.base Z0 H) b D σ H) h.stk h.frm h.tk
        (fun W pn xe tk po => ⟨fun pins st σ H D I ⟨Z0, R', hW, ht⟩ => ((ihb (h.inTry (G' := G.base Z0 H) rfl h.gx (tk.imp fun cls d σ H q => hW cls d σ H q) po)).2 body m4).run pins st σ H D I ht⟩)
        (.cons (np := np) (pos' := p1) (ts := fun a cls d D σ H => ∃ n C, cls = .ref C ∧ XCls X.K X.mg n C ∧ tS Γ noX (G.hot ⟨0, a, n, d, false⟩) s D σ H) names
          (fun a oe cls d pn hz hf => ⟨fun pins st σ H D I ⟨n, C, e, xc, ht⟩ => ((hsok (h.inSuite (i := 0) (a := a) (pn := pn) (by rw [← e]; exact hz) hf xc) s).2 _ m5).run pins st σ H D I ht⟩) .nil)
      refine ps_imp base fun D σ H ⟨Z, env, P, hR, hw, hp⟩ => ?_
      refine ⟨Z, fun x e => (isaX x.1 c = true → wpS Γ noX s e P) ∧ (isaX x.1 c = false → R x e), fun cls d σ' H' ⟨Z', env', x, Rl, ⟨C, ec, xc, xf⟩, w1, w2⟩ => ?_, Z, env, P, hR.toBase, hw, hp.toBase hR⟩
      obtain ⟨R2, mo⟩ := hR.ofBase Rl
      subst ec
      have xc0 : XCls X.K X.mg x.1 C := by rw [h.hK]; exact xc
      refine ⟨isaX x.1 c, xc0.ex c cv hcv cA, fun e a na => ?_, fun e => ⟨Z', env', x, R2, ⟨C, rfl, xc, xf⟩, w2 e⟩⟩
      refine ⟨x.1, C, rfl, xc0, Z', _, _, R2.toHotN h.gx, w1 e, hp.hotN rfl h.gx mo⟩
  | nil =>
    have hX := h.toXOk
    refine ⟨fun st m => (by cases m), fun ss m => ?_⟩
    cases ss <;> try cases m
    exact s_nil
  | cons a b iha ihb =>
    have hX := h.toXOk
    refine ⟨fun st m => (by cases m), fun ss m => ?_⟩
    cases ss <;> try cases m
    have m' := m
    simp only [ms, Bool.and_eq_true] at m'
    exact s_cons ((iha h).1 _ m'.1) ((ihb h).2 _ m'.2)
end
end TG
end
section
namespace TG
open PySem PySem.Spec PyProof.Rows L2 L2N
abbrev St2 := L2.St

def env0 : List Bool → List D → Env
  | true :: ms, d :: ds => .io d :: env0 ms ds
  | false :: ms, d :: ds => .im d :: env0 ms ds
  | _, _ => []
/-- the things to be changed, at the end -/
def finsE : List Bool → Env → Option (List D)
  | [], _ => some []
  | true :: ms, .io d :: e => (finsE ms e).map (d :: ·)
  | false :: ms, _ :: e => finsE ms e
  | _, _ => none
def PostF (io : List Bool) (Q : Rv → List D → Prop) : Post where
  nx := fun e => ∃ fs, finsE io e = some fs ∧ Q (.im .non) fs
  rt := fun r e => ∃ fs, finsE io e = some fs ∧ Q r fs
  bk := fun _ => False
  ct := fun _ => False
def XF (io : List Bool) (E : XD → List D → Prop) : XP := fun x e => ∃ fs, finsE io e = some fs ∧ E x fs
/-- the promise fi is kept by the body sm -/
def Keeps (Γ : Ga) (n : Nat) (sm : Sm) (fi : FI) : Prop := ∀ ds Q E, fi.sp ds Q E → ds.length = fi.io.length ∧ fi.io.length ≤ n ∧ wpS Γ (XF fi.io E) sm (env0 fi.io ds ++ List.replicate (n - fi.io.length) .un) (PostF fi.io Q)

section
variable {K : PySem.W.Frag} {Z Z' : Addr → Prop} {H H' : Hp} {ms : List Bool} {vs : List V} {ds : List D} {as : List Addr}
theorem ArgsOk.lens : ∀ {ms : List Bool} {vs : List V} {ds : List D} {as : List Addr}, ArgsOk K Z H ms vs ds as → vs.length = ms.length ∧ ds.length = ms.length ∧ (env0 ms ds).length = ms.length
  | _, _, _, _, .nil => ⟨rfl, rfl, rfl⟩
  | _, _, _, _, .im h r => by obtain ⟨h1, h2, h3⟩ := r.lens; exact ⟨by simp [h1], by simp [h2], by simp [env0, h3]⟩
  | _, _, _, _, .io _ _ _ r => by obtain ⟨h1, h2, h3⟩ := r.lens; exact ⟨by simp [h1], by simp [h2], by simp [env0, h3]⟩
theorem ArgsOk.slots : ∀ {ms : List Bool} {vs : List V} {ds : List D} {as : List Addr}, ArgsOk K Z H ms vs ds as → ∀ (i : Nat) (s : Sl), (env0 ms ds)[i]? = some s →
    (∃ d v, s = .im d ∧ vs[i]? = some v ∧ Rep K Z H v d) ∨ ∃ d a, s = .io d ∧ vs[i]? = some (V.ref a) ∧ ¬ Z a ∧ a ∈ as ∧ Top K Z H a d
  | _, _, _, _, .nil, i, s, e => by simp [env0] at e
  | _, _, _, _, .im h r, 0, s, e => by simp [env0] at e; subst e; exact .inl ⟨_, _, rfl, rfl, h⟩
  | _, _, _, _, .im (ms := ms) (ds := ds) h r, i + 1, s, e => by
    have e : (env0 ms ds)[i]? = some s := by simpa [env0] using e
    simpa using r.slots i s e
  | _, _, _, _, .io nz n h r, 0, s, e => by simp [env0] at e; subst e; exact .inr ⟨_, _, rfl, rfl, nz, by simp, h⟩
  | _, _, _, _, .io (ms := ms) (ds := ds) nz n h r, i + 1, s, e => by
    have e : (env0 ms ds)[i]? = some s := by simpa [env0] using e
    rcases r.slots i s e with ⟨d, v, q⟩ | ⟨d, a, q1, q2, q3, q4, q5⟩
    · exact .inl ⟨d, v, by simpa using q⟩
    · exact .inr ⟨d, a, q1, by simpa using q2, q3, by simp [q4], q5⟩
theorem ArgsOk.inj : ∀ {ms : List Bool} {vs : List V} {ds : List D} {as : List Addr}, ArgsOk K Z H ms vs ds as → ∀ (i j : Nat) (d d' : D) (a : Addr), (env0 ms ds)[i]? = some (.io d) → (env0 ms ds)[j]? = some (.io d') → vs[i]? = some (V.ref a) → vs[j]? = some (V.ref a) → i = j
  | _, _, _, _, .nil, i, j, d, d', a, e, _, _, _ => by simp [env0] at e
  | _, _, _, _, .im h r, 0, j, d, d', a, e, _, _, _ => by simp [env0] at e
  | _, _, _, _, .im h r, i + 1, 0, d, d', a, _, e, _, _ => by simp [env0] at e
  | _, _, _, _, .im h r, i + 1, j + 1, d, d', a, e1, e2, e3, e4 => by
    rw [r.inj i j d d' a (by simpa [env0] using e1) (by simpa [env0] using e2) (by simpa using e3) (by simpa using e4)]
  | _, _, _, _, .io nz n h r, 0, 0, d, d', a, _, _, _, _ => rfl
  | _, _, _, _, .io (ms := ms) (ds := ds) nz n h r, 0, j + 1, d, d', a, e1, e2, e3, e4 => by
    have e2 : (env0 ms ds)[j]? = some (Sl.io d') := by simpa [env0] using e2
    simp at e3 e4
    subst e3
    rcases r.slots j _ e2 with ⟨c, v, q, _⟩ | ⟨c, b, _, q2, _, q4, _⟩
    · cases q
    · rw [e4] at q2; cases q2; exact (n q4).elim
  | _, _, _, _, .io (ms := ms) (ds := ds) nz n h r, i + 1, 0, d, d', a, e1, e2, e3, e4 => by
    have e1 : (env0 ms ds)[i]? = some (Sl.io d) := by simpa [env0] using e1
    simp at e3 e4
    subst e4
    rcases r.slots i _ e1 with ⟨c, v, q, _⟩ | ⟨c, b, _, q2, _, q4, _⟩
    · cases q
    · rw [e3] at q2; cases q2; exact (n q4).elim
  | _, _, _, _, .io nz n h r, i + 1, j + 1, d, d', a, e1, e2, e3, e4 => by
    rw [r.inj i j d d' a (by simpa [env0] using e1) (by simpa [env0] using e2) (by simpa using e3) (by simpa using e4)]
theorem ArgsOk.fin : ∀ {ms : List Bool} {vs : List V} {ds : List D} {as : List Addr}, ArgsOk K Z H ms vs ds as → ∀ (e : Env) (f : Nat → Addr) (fs : List D), (∀ i a, ms[i]? = some true → vs[i]? = some (V.ref a) → f i = a) →
    (∀ (i : Nat) d, e[i]? = some (Sl.io d) → Top K Z' H' (f i) d) → finsE ms e = some fs → FinOk K Z' H' as fs
  | _, _, _, _, .nil, e, f, fs, _, _, h => by simp [finsE] at h; subst h; exact .nil
  | _, _, _, _, .im _ r, e, f, fs, hf, ht, h => by
    cases e with
    | nil => simp [finsE] at h
    | cons s e => exact r.fin e (fun i => f (i + 1)) fs (fun i a h1 h2 => hf (i + 1) a (by simpa using h1) (by simpa using h2)) (fun i d h => ht (i + 1) d (by simpa using h)) (by simpa [finsE] using h)
  | _, _, _, _, .io (a := a) _ _ _ r, e, f, fs, hf, ht, h => by
    cases e with
    | nil => simp [finsE] at h
    | cons s e =>
      cases s <;> simp only [finsE] at h <;> try cases h
      rename_i d
      cases q : finsE _ e with
      | none => rw [q] at h; cases h
      | some gs =>
        rw [q] at h; cases h
        have fa : f 0 = a := hf 0 a rfl rfl
        exact .cons (by have := ht 0 d rfl; rwa [fa] at this) (r.fin e (fun i => f (i + 1)) gs (fun i a h1 h2 => hf (i + 1) a (by simpa using h1) (by simpa using h2)) (fun i d h => ht (i + 1) d (by simpa using h)) q)
end
/-- the ghost of a def's run -/
def ghF (K : PySem.W.Frag) (H : Hp) (Z : Addr → Prop) (vs : List V) (as : List Addr) : Gh := ⟨K, H, fun a => a ∈ as, Z, (fun i => match vs[i]? with
  | some (.ref a) => a
  | _ => 0), none, H⟩
section
variable {P : Program} {w : World} {K : PySem.W.Frag} {mg : Str → Option Value} {base : Heap} {Γ : Ga} {N bl : List Str}
theorem start_get {N : List Str} {vs : List V} {i : Nat} {v : V} (h : vs[i]? = some v) : (L2.start N vs)[i]? = some (some v) := by
  unfold L2.start
  rw [List.getElem?_append_left (by rw [List.length_map]; exact (List.getElem?_eq_some_iff.mp h).1), List.getElem?_map, h]
  rfl
theorem rel_start {H : Hp} {Z : Addr → Prop} {ms : List Bool} {vs : List V} {ds : List D} {as : List Addr} (A : ArgsOk K Z H ms vs ds as) (zt : ∀ b, Z b → ∃ o, H b = some o) (hl : ms.length ≤ N.length) :
    Rel (ghF K H Z vs as) (L2.start N vs) Z H (env0 ms ds ++ List.replicate (N.length - ms.length) .un) := by
  obtain ⟨l1, l2, l3⟩ := A.lens
  have get : ∀ (i : Nat) (s : Sl), (env0 ms ds ++ List.replicate (N.length - ms.length) Sl.un)[i]? = some s → s ≠ .un → (env0 ms ds)[i]? = some s := fun i s e n => by
    by_cases q : i < (env0 ms ds).length
    · rwa [List.getElem?_append_left q] at e
    · rw [List.getElem?_append_right (by omega), List.getElem?_replicate] at e
      split at e
      · cases e; exact (n rfl).elim
      · cases e
  refine ⟨by simp [L2.start, l1, l3], fun i d h => ?_, fun i d h => ?_, fun i d h => ?_, fun i d h => ?_, fun i j a hi hj e1 e2 => ?_, fun b z => z, fun b z => .inl z, zt, fun b o h _ => h, fun b u h => ⟨u, h⟩, ⟨(fun j n f h => ?_), fun _ z => z, fun _ _ _ e => e⟩⟩
  · rcases A.slots i _ (get i _ h (fun q => nomatch q)) with ⟨c, v, q, e, r⟩ | ⟨c, a, q, _⟩
    · cases q; exact ⟨v, start_get e, r⟩
    · cases q
  · rcases A.slots i _ (get i _ h (fun q => nomatch q)) with ⟨c, v, q, e, r⟩ | ⟨c, a, q, _⟩ <;> cases q
  · rcases A.slots i _ (get i _ h (fun q => nomatch q)) with ⟨c, v, q, e, r⟩ | ⟨c, a, q, e, nz, ha, t⟩
    · cases q
    · cases q
      have ea : (ghF K H Z vs as).ad i = a := by show (match vs[i]? with | some (.ref a) => a | _ => 0) = a; rw [e]
      rw [ea]
      exact ⟨start_get e, nz, ha, t⟩
  · rcases A.slots i _ (get i _ h (fun q => nomatch q)) with ⟨c, v, q, e, r⟩ | ⟨c, a, q, _⟩ <;> cases q
  · have io : ∀ i, ownk (env0 ms ds ++ List.replicate (N.length - ms.length) Sl.un) i → (L2.start N vs)[i]? = some (some (V.ref a)) → ∃ d, (env0 ms ds)[i]? = some (.io d) ∧ vs[i]? = some (V.ref a) := fun i hi e => by
      rcases hi with ⟨d, hi | hi⟩ | ⟨d, hi⟩
      · rcases A.slots i _ (get i _ hi (fun q => nomatch q)) with ⟨c, v, q, _⟩ | ⟨c, a, q, _⟩ <;> cases q
      · have g := get i _ hi (fun q => nomatch q)
        rcases A.slots i _ g with ⟨c, v, q, _⟩ | ⟨c, b, q, eb, _⟩
        · cases q
        · rw [start_get eb] at e; cases e
          exact ⟨d, g, eb⟩
      · rcases A.slots i _ (get i _ hi (fun q => nomatch q)) with ⟨c, v, q, _⟩ | ⟨c, a, q, _⟩ <;> cases q
    obtain ⟨d, g1, f1⟩ := io i hi e1
    obtain ⟨d', g2, f2⟩ := io j hj e2
    exact A.inj i j d d' a g1 g2 f1 f2
  · rcases A.slots j _ (get j _ h (fun q => nomatch q)) with ⟨c, v, q, _⟩ | ⟨c, a, q, _⟩ <;> cases q
/-- behind the body -/
theorem end_ok {H : Hp} {Z : Addr → Prop} {ms : List Bool} {vs : List V} {ds : List D} {as : List Addr} {σ' : L2.St} {Z' : Addr → Prop} {H' : Hp} {e : Env} {fs : List D} (A : ArgsOk K Z H ms vs ds as) (R : Rel (ghF K H Z vs as) σ' Z' H' e) (h : finsE ms e = some fs) :
    Aft Z H as Z' H' ∧ FinOk K Z' H' as fs := by
  refine ⟨⟨R.z0, R.z1, R.zt, fun b o hb n => R.keep b o hb n⟩, A.fin e (ghF K H Z vs as).ad fs (fun i a _ ev => ?_) (fun i d hi => (R.io i d hi).2.2.2) h⟩
  show (match vs[i]? with | some (.ref a) => a | _ => 0) = a
  rw [ev]
/-- what is known of the classes of refusals -/
structure ClsAll (K : PySem.W.Frag) (mg : Str → Option Value) (bl : List Str) : Prop where
  xk : ∀ c, rM c ∈ bl → ∃ C, ClsMk K mg c C
  xt : ∀ c, qM c ∈ bl → c ∈ xAll ∧ ∃ C, mg c = some (.ref C)
theorem fn_keepsE {x qual : Str} {st : Stmt} {f : Addr} {fd : FuncData} {ps : List Str} {k : Nat} {sm : Sm} {fi : FI} (F : L2.Fun K x qual st f fd) (S : FnScope N ps (defScope st)) (hps : ps.length = fi.io.length)
    (mB : (TG.ms N bl (defScope st) (fun _ => true) sm).B (defBody st) = true) (hbl : ∀ y ∈ bl, mg y = none) (hcs : ∀ y d, Γ.cs y = some d → ∃ v u, mg y = some u ∧ RelV v u ∧ ∀ Z H, Rep K Z H v d)
    (hfn : ∀ g gi, Γ.fn g = some gi → FnIs P w K mg base k g gi) (hx : ClsAll K mg bl) (hfx : ∀ g h, Γ.fx g = some h → 1 ≤ k ∧ FxIs P w K mg base 1 g h) (kp : Keeps Γ N.length sm fi) : FnG P w K mg base (k + 1) f fd ps (lift mg K fi) := by
  refine FnG.body F S (fun {vs H Q E} h => ?_) (fun cdv A outer s H vs Q E hr h => ?_)
  · obtain ⟨Z, ds, as, Qd, Rd, a1, _⟩ := h
    rw [a1.lens.1, hps]
  · obtain ⟨Z, ds, as, Qd, Rd, a1, zt, sp, hQ, hE⟩ := h
    obtain ⟨dl, nl, wp⟩ := kp ds Qd Rd sp
    have R0 := rel_start (N := N) a1 zt nl
    have tk0 : L2N.Takes (cxOf (L2N.CX P w) P w K mg base N qual (defScope st) f cdv A outer s H E) (fun cls d _ H => E cls d H) := L2N.takes_of rfl rfl rfl rfl
    have tk : L2N.Takes (cxOf (L2N.CX P w) P w K mg base N qual (defScope st) f cdv A outer s H E) (fun cls d σ H' => WR mg (ghF K H Z vs as) (XF fi.io Rd) σ cls d H') := tk0.imp fun cls d σ' H' ⟨Z', env, x, R', xr, fs, hfs, q⟩ => by
      obtain ⟨af, fo⟩ := end_ok a1 R' hfs
      exact hE x fs cls d H' Z' af fo xr q
    refine ⟨_, (sok (Γ := Γ) (R := XF fi.io Rd) (G := ghF K H Z vs as) (N := N) (bl := bl) (sc := defScope st) (ow := fun _ => true) ⟨⟨rfl, S.nd, rfl, rfl, rfl, hr.rm.units, hr.gd, hbl, hcs, fun g gi hg => ⟨k, hr, hfn g gi hg⟩, fun σ => L2N.passAt tk σ, fun _ _ => rfl⟩, passes_of rfl, S.kind, tk, rfl, hx.xk, hx.xt, rfl, rfl, fun g h e => ?_⟩ sm).2 _ mB, Z, _, _, R0, wp, ?_⟩
    · obtain ⟨k1, fx⟩ := hfx g h e
      exact ⟨1, (L2H.roomH_of hr.rm).mono k1, fx⟩
    · refine ⟨fun σ' Z' H' env' R' _ ⟨fs, hfs, q⟩ => ?_, fun r v σ' Z' H' env' R' _ V1 nb ⟨fs, hfs, q⟩ => ?_, fun _ _ _ _ _ _ q => q.elim, fun _ _ _ _ _ _ q => q.elim⟩
      · obtain ⟨af, fo⟩ := end_ok a1 R' hfs
        exact hQ (.im .non) fs .non H' Z' af fo Rep.non q
      · obtain ⟨af, fo⟩ := end_ok a1 R' hfs
        refine hQ r fs v H' Z' af fo ?_ q
        cases r with
        | im d => exact V1
        | fr d => obtain ⟨a, e, nz, _, h0, t⟩ := V1; exact ⟨a, e, nz, h0, t⟩
        | bo i => exact (nb i rfl).elim
theorem fn_keeps {x qual : Str} {st : Stmt} {f : Addr} {fd : FuncData} {ps : List Str} {k : Nat} {sm : Sm} {fi : FI} (F : L2.Fun K x qual st f fd) (S : FnScope N ps (defScope st)) (hps : ps.length = fi.io.length) (hm : mg x = some (.ref f)) (hb : Binds K fd ps [])
    (mB : (TG.ms N bl (defScope st) (fun _ => true) sm).B (defBody st) = true) (hbl : ∀ y ∈ bl, mg y = none) (hcs : ∀ y d, Γ.cs y = some d → ∃ v u, mg y = some u ∧ RelV v u ∧ ∀ Z H, Rep K Z H v d)
    (hfn : ∀ g gi, Γ.fn g = some gi → FnIs P w K mg base k g gi) (hx : ClsAll K mg bl) (hfx : ∀ g h, Γ.fx g = some h → 1 ≤ k ∧ FxIs P w K mg base 1 g h) (kp : Keeps Γ N.length sm fi) : FnIs P w K mg base (k + 1) x fi :=
  ⟨f, fd, ps, fn_keepsE F S hps mB hbl hcs hfn hx hfx kp, hm, F.kp, hb⟩
/-- a def of the program -/
structure Df where
  x : Str
  qual : Str
  st : Stmt
  N : List Str
  ps : List Str
  sm : Sm
  fi : FI
structure Cf where
  cs : Str → Option D
  fx : Str → Option FX
def gam (cs : Cf) (l : List Df) : Ga := ⟨fun x => (l.find? fun d => d.x == x).map (·.fi), cs.cs, cs.fx⟩
/-- a def that is handed the refusal -/
structure Dh where
  x : Str
  qual : Str
  st : Stmt
  N : List Str
  q : Str
  sm : Sm
  h : FX
def ga0 : Ga := ⟨fun _ => none, fun _ => none, fun _ => none⟩
def KeepsH (n : Nat) (sm : Sm) (h : FX) : Prop := ∀ nm f r, h nm f = some r → 1 ≤ n ∧ wpS ga0 noX sm (.xc nm f :: List.replicate (n - 1) .un) ⟨fun _ => False, fun r' _ => r' = r, fun _ => False, fun _ => False⟩
theorem rel_startX {H : Hp} {Z : Addr → Prop} {a : Addr} {nm : Str} {f : Option D} {dd : Option Addr} (zt : ∀ b, Z b → ∃ o, H b = some o) (xf : XFld K Z H dd nm f) (hl : 1 ≤ N.length) :
    Rel (ghX K H Z ⟨0, a, nm, dd, true⟩) (L2.start N [.ref a]) Z H (.xc nm f :: List.replicate (N.length - 1) .un) := by
  have un : ∀ {i : Nat} {s : Sl}, (Sl.xc nm f :: List.replicate (N.length - 1) Sl.un)[i]? = some s → (i = 0 ∧ s = .xc nm f) ∨ s = .un := fun {i s} e => by
    cases i with
    | zero => exact .inl ⟨rfl, by simpa using e.symm⟩
    | succ i =>
      rw [List.getElem?_cons_succ, List.getElem?_replicate] at e
      split at e
      · exact .inr (Option.some.inj e).symm
      · cases e
  have no : ∀ {i : Nat} {s : Sl}, (Sl.xc nm f :: List.replicate (N.length - 1) Sl.un)[i]? = some s → (∀ n f, s ≠ .xc n f) → s ≠ .un → False := fun e h1 h2 => by
    rcases un e with ⟨_, q⟩ | q
    · exact h1 _ _ q
    · exact h2 q
  refine ⟨by simp [L2.start], fun i d h => ?_, fun i d h => ?_, fun i d h => ?_, fun i d h => ?_, fun i j a hi hj e1 e2 => ?_, fun b z => z, fun b z => .inl z, zt, fun b o h _ => h, fun b u h => ⟨u, h⟩, ⟨(fun j n f' h => ?_), fun _ z => z, fun _ _ _ e => e⟩⟩
  · exact (no h (fun _ _ q => nomatch q) (fun q => nomatch q)).elim
  · exact (no h (fun _ _ q => nomatch q) (fun q => nomatch q)).elim
  · exact (no h (fun _ _ q => nomatch q) (fun q => nomatch q)).elim
  · exact (no h (fun _ _ q => nomatch q) (fun q => nomatch q)).elim
  · rcases hi with ⟨c, q | q⟩ | ⟨c, q⟩ <;> exact (no q (fun _ _ q => nomatch q) (fun q => nomatch q)).elim
  · rcases un h with ⟨rfl, q⟩ | q
    · cases q
      exact ⟨_, rfl, ⟨rfl, rfl⟩, rfl, start_get rfl, xf⟩
    · cases q
theorem un64 {k : Nat} {A : Around} (r : L2H.RoomH k A) : A.units + 64 < cLine := by have := r.un; omega
theorem fnx_keeps {x qual q : Str} {st : Stmt} {f : Addr} {fd : FuncData} {k : Nat} {sm : Sm} {h : FX} (F : L2.Fun K x qual st f fd) (S : FnScope N [q] (defScope st)) (hm : mg x = some (.ref f)) (hb : Binds K fd [q] []) (mB : (TG.hms N bl (defScope st) (fun _ => true) sm).B (defBody st) = true) (hbl : ∀ y ∈ bl, mg y = none) (hx : ClsAll K mg bl)
    (kp : KeepsH N.length sm h) : FxIs P w K mg base (k + 1) x h := by
  refine ⟨f, fd, q, FnX.body F S fun cdv Ar out s Hh Qv a C oe nm f' dd Z r hr gd hh hz hf xc xf zt e hq => ?_, hm, F.kp, hb⟩
  obtain ⟨hl, wp⟩ := kp nm f' r e
  refine ⟨_, (hsok (Γ := ga0) (R := noX) (G := ghX K Hh Z ⟨0, a, nm, dd, true⟩) (N := N) (bl := bl) (sc := defScope st) (ow := fun _ => true) ⟨rfl, S.nd, rfl, rfl, un64 hr, gd, hx.xt, hbl, ⟨_, oe, C, rfl, List.mem_singleton.mpr rfl, hz, hf, xc, hh⟩, (fun _ _ e => nomatch e), fun _ _ => rfl⟩ sm).2 _ mB, Z, _, _, rel_startX (N := N) zt xf hl, wp, ?_⟩
  refine ⟨fun _ _ _ _ _ _ q => q.elim, fun r' v σ' Z' H' env' R' _ V1 nb q => ?_, fun _ _ _ _ _ _ q => q.elim, fun _ _ _ _ _ _ q => q.elim⟩
  have q : r' = r := q
  subst q
  refine hq v H' Z' ⟨R'.z0, R'.z1, R'.zt, fun b o hb _ => R'.keep b o hb fun z => z⟩ ?_
  cases r' with
  | im d => exact V1
  | fr d => obtain ⟨a, e, nz, _, h0, t⟩ := V1; exact ⟨a, e, nz, h0, t⟩
  | bo i => exact (nb i rfl).elim
/-- what is shown of its text; what the top has made of it -/
structure DhTxt (bl : List Str) (d : Dh) : Prop where
  sc : FnScope d.N [d.q] (defScope d.st)
  mB : (TG.hms d.N bl (defScope d.st) (fun _ => true) d.sm).B (defBody d.st) = true
  kp : KeepsH d.N.length d.sm d.h
structure DhIn (K : PySem.W.Frag) (mg : Str → Option Value) (d : Dh) : Prop where
  ex : ∃ f fd, L2.Fun K d.x d.qual d.st f fd ∧ mg d.x = some (.ref f) ∧ ∀ us : List Value, us.length = [d.q].length → bindArgs fd ⟨us, []⟩ = pure ([d.q].zip us)
def fxOf (l : List Dh) (x : Str) : Option FX := (l.find? fun d => d.x == x).map (·.h)
theorem hot_ok (hbl : ∀ y ∈ bl, mg y = none) (hx : ClsAll K mg bl) {l : List Dh} (ht : ∀ d ∈ l, DhTxt bl d) (hi : ∀ d ∈ l, DhIn K mg d) : ∀ g h, fxOf l g = some h → FxIs P w K mg base 1 g h := fun g h e => by
  obtain ⟨c, e1, e2⟩ := Option.map_eq_some_iff.mp e
  have hc := List.mem_of_find?_eq_some e1
  have hx' := List.find?_some e1
  have hx' : c.x = g := by simpa using hx'
  subst hx' e2
  obtain ⟨f, fd, F, hm, hb⟩ := (hi c hc).ex
  have t := ht c hc
  exact fnx_keeps (k := 0) F t.sc hm (.all hb) t.mB hbl hx t.kp
/-- what is shown of a def's text -/
structure DfTxt (bl : List Str) (d : Df) : Prop where
  sc : FnScope d.N d.ps (defScope d.st)
  len : d.ps.length = d.fi.io.length
  mB : (TG.ms d.N bl (defScope d.st) (fun _ => true) d.sm).B (defBody d.st) = true
/-- what the top has made of it -/
structure DfIn (K : PySem.W.Frag) (mg : Str → Option Value) (d : Df) : Prop where
  ex : ∃ f fd, L2.Fun K d.x d.qual d.st f fd ∧ mg d.x = some (.ref f) ∧ ∀ us : List Value, us.length = d.ps.length → bindArgs fd ⟨us, []⟩ = pure (d.ps.zip us)
theorem prog_ok {cs : Cf} (hbl : ∀ y ∈ bl, mg y = none) (hx : ClsAll K mg bl) (hfx : ∀ g h, cs.fx g = some h → FxIs P w K mg base 1 g h) (hcs : ∀ y d, cs.cs y = some d → ∃ v u, mg y = some u ∧ RelV v u ∧ ∀ Z H, Rep K Z H v d) :
    ∀ l : List Df, (∀ d ∈ l, DfTxt bl d) → (∀ d ∈ l, DfIn K mg d) → (∀ (a : List Df) (d : Df) (b : List Df), l = a ++ d :: b → Keeps (gam cs b) d.N.length d.sm d.fi) → ∀ d ∈ l, FnIs P w K mg base (l.length + 1) d.x d.fi
  | [], _, _, _, d, h => by cases h
  | d0 :: l, ht, hi, hk, d, h => by
    have ih := prog_ok hbl hx hfx hcs l (fun d h => ht d (List.mem_cons_of_mem _ h)) (fun d h => hi d (List.mem_cons_of_mem _ h)) (fun a d b e => hk (d0 :: a) d b (by rw [e]; rfl))
    rcases List.mem_cons.mp h with rfl | h
    · obtain ⟨f, fd, F, hm, hb⟩ := (hi d List.mem_cons_self).ex
      have t := ht d List.mem_cons_self
      refine fn_keeps (Γ := gam cs l) F t.sc t.len hm (.all hb) t.mB hbl hcs (fun g gi e => ?_) hx (fun g h e => ⟨Nat.le_add_left _ _, hfx g h e⟩) (hk [] d l rfl)
      obtain ⟨c, e1, e2⟩ := Option.map_eq_some_iff.mp e
      have hc := List.mem_of_find?_eq_some e1
      have hx := List.find?_some e1
      have hx : c.x = g := by simpa using hx
      rw [← hx, ← e2]
      exact ih c hc
    · obtain ⟨adr, fd, ps, F, q⟩ := (ih d h).ex
      exact ⟨adr, fd, ps, F.mono (Nat.le_succ _), q⟩
end
end TG
end
section
namespace TG
open PySem PySem.Spec PyProof.Rows L2

def spL (n : Nat) (K : PySem.W.Frag) : Sp := fun vs H Q _ => ∃ (a : Addr) (ns : List Int), vs = [.ref a] ∧ Only H ∧ SqL K H a (ns.map V.int) ∧ ns.length ≤ n ∧ ∀ H', Q (.bl true) H'
theorem law_sp {mg : Str → Option Value} {K : PySem.W.Frag} {fi : FI} {n : Nat} (hio : fi.io = [false]) (h : ∀ ns : List Int, ns.length ≤ n → fi.sp [.scr (ns.map .int)] (fun r _ => r = .im (.bl true)) (fun _ _ => False)) :
    ∀ vs H Q E, spL n K vs H Q E → lift mg K fi vs H Q E := by
  intro vs H Q E ⟨a, ns, e, ho, hS, hl, q⟩
  subst e
  have ri : ∀ (Z : Addr → Prop) (l : List Int), Reps K Z H (l.map V.int) (l.map D.int) := fun Z l => by
    induction l with
    | nil => exact .nil
    | cons i l ih => exact .cons (.int i) ih
  have done : ∀ Z : Addr → Prop, SAt K Z H a (ns.map V.int) → (∀ b, Z b → ∃ o, H b = some o) → lift mg K fi [.ref a] H Q E := fun Z sa zt => by
    refine ⟨Z, [.scr (ns.map .int)], [], _, _, by rw [hio]; exact .im (.scr sa (ri Z ns)) .nil, zt, h ns hl, fun r fins v H' Z' _ _ V1 e => ?_, fun _ _ _ _ _ _ _ _ _ z => z.elim⟩
    subst e
    cases (show Rep K Z' H' v (.bl true) from V1)
    exact q H'
  rcases hS with hS | hS
  · rcases hS with hS | ⟨o, hS⟩
    · rcases ho a with z | ⟨o, xs, z⟩
      · rw [hS] at z; cases z
      · rw [hS] at z; cases z
    · exact done (fun b => b = a) (.inl ⟨rfl, o, hS⟩) fun b e => by rw [e]; exact ⟨_, hS⟩
  · exact done (fun _ => False) (.inr hS) fun b z => z.elim
/-- what the top has made of a def, as found in the written part -/
def DfF (K : PySem.W.Frag) (x : Str) (st : Stmt) : Prop := ∃ (f : Addr) (oc : Value) (od an : Option Addr) (sl : Array (Option Value)) (kV dc pm cd ct : Value),
  PySem.W.nsIn K mainGlobals x = some (some (.ref f)) ∧ K.lookup f = some ⟨oc, od, .func (PySem.W.fnOf x x (defArgs st) (defBody st) (defScope st) .none kV dc pm an cd ct), sl⟩ ∧ PySem.W.codeIn K cd x = true ∧ PySem.W.keepIn K (.ref f) = true
theorem dff_mk {K : PySem.W.Frag} {x : Str} {st : Stmt} {f : Addr} {oc : Value} {od an : Option Addr} {sl : Array (Option Value)} {kV dc pm cd ct : Value} (a : PySem.W.nsIn K mainGlobals x = some (some (.ref f)))
    (l : K.lookup f = some ⟨oc, od, .func (PySem.W.fnOf x x (defArgs st) (defBody st) (defScope st) .none kV dc pm an cd ct), sl⟩) (c : PySem.W.codeIn K cd x = true) (k : PySem.W.keepIn K (.ref f) = true) : DfF K x st := ⟨f, oc, od, an, sl, kV, dc, pm, cd, ct, a, l, c, k⟩
/-- its parameters are bound one by one -/
def BindsA (x : Str) (st : Stmt) (ps : List Str) : Prop := ∀ (kV dc pm : Value) (an : Option Addr) (cd ct : Value) (us : List Value), us.length = ps.length → bindArgs (PySem.W.fnOf x x (defArgs st) (defBody st) (defScope st) .none kV dc pm an cd ct) ⟨us, []⟩ = pure (ps.zip us)
def KeepsAll (cs : Cf) : List Df → Prop
  | [] => True
  | d :: rest => Keeps (gam cs rest) d.N.length d.sm d.fi ∧ KeepsAll cs rest
theorem keeps_all {cs : Cf} : ∀ {l : List Df}, KeepsAll cs l → ∀ (a : List Df) (e : Df) (b : List Df), l = a ++ e :: b → Keeps (gam cs b) e.N.length e.sm e.fi
  | [], _, a, e, b, h => by cases a <;> cases h
  | d :: rest, k, [], e, b, h => by cases h; exact k.1
  | d :: rest, k, c :: a, e, b, h => keeps_all k.2 a e b (List.cons.inj h).2
def AllD (P : Df → Prop) : List Df → Prop
  | [] => True
  | d :: rest => P d ∧ AllD P rest
theorem all_d {P : Df → Prop} : ∀ {l : List Df}, AllD P l → ∀ e ∈ l, P e
  | [], _, e, h => nomatch h
  | d :: rest, k, e, h => (List.mem_cons.mp h).elim (fun q => by rw [q]; exact k.1) fun q => all_d k.2 e q
def AllS (P : Str → Prop) : List Str → Prop
  | [] => True
  | d :: rest => P d ∧ AllS P rest
theorem all_s {P : Str → Prop} : ∀ {l : List Str}, AllS P l → ∀ e ∈ l, P e
  | [], _, e, h => nomatch h
  | d :: rest, k, e, h => (List.mem_cons.mp h).elim (fun q => by rw [q]; exact k.1) fun q => all_s k.2 e q
def AllC (P : Str → D → Prop) : List (Str × D) → Prop
  | [] => True
  | d :: rest => P d.1 d.2 ∧ AllC P rest
def csFn (l : List (Str × D)) (x : Str) : Option D := (l.find? fun p => p.1 == x).map (·.2)
def csOf (l : List (Str × D)) : Cf := ⟨csFn l, fun _ => none⟩
def csX (l : List (Str × D)) (hl : List Dh) : Cf := ⟨csFn l, fxOf hl⟩
theorem all_c {P : Str → D → Prop} {l : List (Str × D)} (k : AllC P l) {y : Str} {c : D} (h : csFn l y = some c) : P y c := by
  obtain ⟨p, e1, e2⟩ := Option.map_eq_some_iff.mp h
  have hc := List.mem_of_find?_eq_some e1
  have hx := List.find?_some e1
  have hx : p.1 = y := by simpa using hx
  subst hx e2
  clear h e1
  induction l with
  | nil => exact nomatch hc
  | cons d rest ih =>
    rcases List.mem_cons.mp hc with rfl | hc
    · exact k.1
    · exact ih k.2 hc
def CsF (K : PySem.W.Frag) (y : Str) (c : D) : Prop := ∃ v u, PySem.W.nsIn K mainGlobals y = some (some u) ∧ RelV v u ∧ ∀ Z H, Rep K Z H v c
def BlF (K : PySem.W.Frag) (y : Str) : Prop := PySem.W.nsIn K mainGlobals y = some none
theorem bl_mk {K : PySem.W.Frag} {y : Str} (s : PySem.W.nsIn K mainGlobals y = some none) : BlF K y := s
theorem cs_int {K : PySem.W.Frag} {x : Str} {n : Int} {t : Tok} (s : PySem.W.nsIn K mainGlobals x = some (some (.int n t))) : CsF K x (.int n) := ⟨.int n, _, s, ⟨_, rfl⟩, fun _ _ => .int n⟩
theorem cs_str {K : PySem.W.Frag} {x n : Str} {t : Tok} (s : PySem.W.nsIn K mainGlobals x = some (some (.str n t))) : CsF K x (.str n) := ⟨.str n, _, s, ⟨_, rfl⟩, fun _ _ => .str n⟩
/-- a global that is a tuple of plain data, looked at in the frozen part of the heap -/
def allB (f : Value → D → Bool) : List Value → List D → Bool
  | [], [] => true
  | u :: us, d :: ds => f u d && allB f us ds
  | _, _ => false
def repB (K : PySem.W.Frag) : Nat → Value → D → Bool
  | 0, _, _ => false
  | _ + 1, .int i _, .int j => decide (i = j)
  | _ + 1, .str x _, .str y => decide (x = y)
  | n + 1, .ref a, .tup ds => match K.lookup a with
    | some ⟨.type c, _, .seq its _, _⟩ => decide (c = "tuple") && (decide (its.size ≤ 1000) && allB (repB K n) its.toList ds)
    | _ => false
  | _, _, _ => false
theorem allB_ok {K : PySem.W.Frag} {f : Value → D → Bool} (h : ∀ u d, f u d = true → ∃ v, RelV v u ∧ ∀ Z H, Rep K Z H v d) : ∀ us ds, allB f us ds = true → ∃ vs, Vals vs us ∧ ∀ Z H, Reps K Z H vs ds
  | [], [], _ => ⟨[], .nil, fun _ _ => .nil⟩
  | u :: us, d :: ds, e => by
    rw [allB, Bool.and_eq_true] at e
    obtain ⟨v, r, k⟩ := h u d e.1
    obtain ⟨vs, rs, ks⟩ := allB_ok h us ds e.2
    exact ⟨v :: vs, .cons r rs, fun Z H => .cons (k Z H) (ks Z H)⟩
  | [], _ :: _, e => nomatch e
  | _ :: _, [], e => nomatch e
theorem repB_ok {K : PySem.W.Frag} : ∀ n u d, repB K n u d = true → ∃ v, RelV v u ∧ ∀ Z H, Rep K Z H v d := by
  intro n
  induction n with
  | zero => intro u d e; cases e
  | succ n ih =>
    intro u d e
    unfold repB at e
    split at e
    · exact absurd ‹_› (Nat.succ_ne_zero _)
    · next i t j _ =>
      have := of_decide_eq_true e
      subst this
      exact ⟨.int _, ⟨_, rfl⟩, fun _ _ => .int _⟩
    · next x t y _ =>
      have := of_decide_eq_true e
      subst this
      exact ⟨.str _, ⟨_, rfl⟩, fun _ _ => .str _⟩
    · next m a ds hm =>
      have hm := Nat.succ.inj hm
      subst hm
      split at e
      · next c od its k sl hl =>
        rw [Bool.and_eq_true, Bool.and_eq_true] at e
        obtain ⟨e1, e2, e3⟩ := e
        have e1 := of_decide_eq_true e1
        have e2 := of_decide_eq_true e2
        subst e1
        obtain ⟨vs, rs, ks⟩ := allB_ok ih _ _ e3
        exact ⟨.ref a, rfl, fun Z H => .tup (.inr (.inl ⟨_, its, k, hl, rfl, rfl, by rw [PySem.sizeLine_eq]; omega, rs⟩)) (ks Z H)⟩
      · cases e
    · cases e
def csB (K : PySem.W.Frag) (x : Str) (d : D) : Bool := match PySem.W.nsIn K mainGlobals x with
  | some (some u) => repB K 20 u d
  | _ => false
theorem cs_dat {K : PySem.W.Frag} {x : Str} {d : D} (s : csB K x d = true) : CsF K x d := by
  unfold csB at s
  split at s
  · next u h =>
    obtain ⟨v, r, k⟩ := repB_ok _ _ _ s
    exact ⟨v, u, h, r, k⟩
  · cases s
/-- what a class of refusals must be, looked at in the frozen part of the heap -/
def clsB (K : PySem.W.Frag) (n : Str) : Bool := match PySem.W.nsIn K mainGlobals n with
  | some (some (.ref C)) => (xAll.all fun d => match PySem.W.nsIn K mainGlobals d with
      | some none => true
      | some (some (.ref D)) => decide (PySem.W.kitOne K (.ref C) (.ref D) = some (isaX n d)) && decide (PySem.W.exmOne K (.ref C) (.ref D) = some (isaX n d))
      | some (some _) => true
      | none => false) && (decide (PySem.W.kitOne K (.ref C) (.type "ValueError") = some true) && (decide (PySem.W.findIn K (.ref C) "__getattribute__" = some (some (.builtin "BaseException.__getattribute__"))) && (decide (PySem.W.findIn K (.ref C) "__getattr__" = some none) &&
      (decide (PySem.W.subIn K (.ref C) (.type "BaseException") = some true) && (PySem.W.hasDictIn K C && (decide (PySem.W.findIn K (.ref C) "__class__" = some (some (.builtin "object.__class__"))) && (decide (PySem.W.specialIn K (.builtin "object.__class__") "__get__" = some (some (.builtin "getset_descriptor.__get__"))) &&
      (decide (PySem.W.takesIn K (.builtin "object.__class__") = some true) && (decide (PySem.W.mroIn K C (.type "object") = some true) && ((decide (fldOf n = "") || decide (PySem.W.findIn K (.ref C) (fldOf n) = some none)) &&
      (PySem.W.keepIn K (.ref C) && (decide (PySem.W.typeIn K (.ref C) = some (.type "type")) && PySem.W.excIn K C [.type "ValueError", .type "Exception", .type "BaseException", .type "object"] "ValueError.__new__"))))))))))))
  | _ => false
def xtB (K : PySem.W.Frag) (d : Str) : Bool := decide (d ∈ xAll) && match PySem.W.nsIn K mainGlobals d with
  | some (some (.ref _)) => true
  | _ => false
def unM (y : Str) : Option (Bool × Str) := match y.cps.toList with
  | [] => none
  | a :: l => if a = 33 then some (true, ⟨l.toArray⟩) else if a = 63 then some (false, ⟨l.toArray⟩) else none
def okM (xkl xtl : List Str) (y : Str) : Bool := match unM y with
  | some (true, c) => decide (c ∈ xkl)
  | some (false, c) => decide (c ∈ xtl)
  | none => true
theorem unM_r (c : Str) : unM (rM c) = some (true, c) := by
  unfold unM rM
  simp
theorem unM_q (c : Str) : unM (qM c) = some (false, c) := by
  unfold unM qM
  simp
section
variable {K : PySem.W.Frag} {mg : Str → Option Value} {h : Heap}
theorem ns_ref (X : K.In h) (G : h.Ns mainGlobals mg) {d : Str} {D : Addr} (e : mg d = some (.ref D)) : PySem.W.nsIn K mainGlobals d = none ∨ PySem.W.nsIn K mainGlobals d = some (some (.ref D)) := by
  cases q : PySem.W.nsIn K mainGlobals d with
  | none => exact .inl rfl
  | some u =>
    cases u with
    | none => rw [PySem.W.mg_none_of X G q] at e; cases e
    | some v =>
      rw [PySem.W.mg_of X G q] at e
      rw [Option.some.inj e]
      exact .inr rfl
theorem cls_ok (X : K.In h) (G : h.Ns mainGlobals mg) {n : Str} (e : clsB K n = true) : ∃ C, ClsMk K mg n C := by
  unfold clsB at e
  split at e
  · next C hC =>
    simp only [Bool.and_eq_true, Bool.or_eq_true, decide_eq_true_eq] at e
    obtain ⟨e1, e2, e3, e4, e5, e6, e7, e8, e9, e10, e11, e12, e13, e14⟩ := e
    rw [List.all_eq_true] at e1
    have one : ∀ d D, mg d = some (.ref D) → d ∈ xAll → PySem.W.kitOne K (.ref C) (.ref D) = some (isaX n d) ∧ PySem.W.exmOne K (.ref C) (.ref D) = some (isaX n d) := fun d D hd hm => by
      have q := e1 d hm
      rcases ns_ref X G hd with z | z
      · rw [z] at q; cases q
      · rw [z] at q
        simpa only [Bool.and_eq_true, decide_eq_true_eq] using q
    exact ⟨C, ⟨PySem.W.mg_of X G hC, fun d D hd hm => (one d D hd hm).1, e2, fun d D hd hm => (one d D hd hm).2, ⟨e3, e4, e5, e6, e7, e8, e9, e10⟩, ⟨e3, e4, e5, e6⟩, fun q => e11.resolve_left q⟩, e14, e12, e5, e13⟩
  · cases e
theorem xt_ok (X : K.In h) (G : h.Ns mainGlobals mg) {d : Str} (e : xtB K d = true) : d ∈ xAll ∧ ∃ C, mg d = some (.ref C) := by
  unfold xtB at e
  simp only [Bool.and_eq_true, decide_eq_true_eq] at e
  refine ⟨e.1, ?_⟩
  have e2 := e.2
  split at e2
  · next C hC => exact ⟨C, PySem.W.mg_of X G hC⟩
  · cases e2
theorem clsAll_of (X : K.In h) (G : h.Ns mainGlobals mg) {bl xkl xtl : List Str} (hm : bl.all (okM xkl xtl) = true) (hk : AllS (fun c => clsB K c = true) xkl) (ht : AllS (fun c => xtB K c = true) xtl) : ClsAll K mg bl := by
  rw [List.all_eq_true] at hm
  refine ⟨fun c hc => cls_ok X G ?_, fun c hc => xt_ok X G ?_⟩
  · have := hm _ hc
    unfold okM at this
    rw [unM_r] at this
    exact all_s hk c (by simpa using this)
  · have := hm _ hc
    unfold okM at this
    rw [unM_q] at this
    exact all_s ht c (by simpa using this)
def AllH (P : Dh → Prop) : List Dh → Prop
  | [] => True
  | d :: rest => P d ∧ AllH P rest
theorem all_h {P : Dh → Prop} : ∀ {l : List Dh}, AllH P l → ∀ e ∈ l, P e
  | [], _, e, h => nomatch h
  | d :: rest, k, e, h => (List.mem_cons.mp h).elim (fun q => by rw [q]; exact k.1) fun q => all_h k.2 e q
theorem df_in {d : Df} (X : K.In h) (G : h.Ns mainGlobals mg) (hq : d.qual = d.x) (F : DfF K d.x d.st) (B : BindsA d.x d.st d.ps) : DfIn K mg d := by
  obtain ⟨f, oc, od, an, sl, kV, dc, pm, cd, ct, a, l, c, k⟩ := F
  refine ⟨f, _, ?_, PySem.W.mg_of X G a, B kV dc pm an cd ct⟩
  rw [hq]
  exact fun_mk l c k
theorem dh_in {d : Dh} (X : K.In h) (G : h.Ns mainGlobals mg) (hq : d.qual = d.x) (F : DfF K d.x d.st) (B : BindsA d.x d.st [d.q]) : DhIn K mg d := by
  obtain ⟨f, oc, od, an, sl, kV, dc, pm, cd, ct, a, l, c, k⟩ := F
  refine ⟨f, _, ?_, PySem.W.mg_of X G a, B kV dc pm an cd ct⟩
  rw [hq]
  exact fun_mk l c k
/-- the goal ahead of walk_of's case F -/
theorem law_F {l : PySem.W.OpenLaw} {w : World} {fa : Addr} {n : Nat} {bl xkl xtl : List Str} {csl : List (Str × D)} {hl : List Dh} {d : Df} {rest : List Df} (X : K.In h) (G : h.Ns mainGlobals mg) (hfa : mg d.x = some (.ref fa)) (x : Str) (hps : d.ps = [x]) (hio : d.fi.io = [false]) (hq : AllD (fun e => e.qual = e.x) (d :: rest))
    (hF : AllD (fun e => DfF K e.x e.st) (d :: rest)) (hB : AllD (fun e => BindsA e.x e.st e.ps) (d :: rest)) (ht : AllD (DfTxt bl) (d :: rest))
    (hbl : AllS (BlF K) bl) (hcs : AllC (CsF K) csl) (hk : KeepsAll (csX csl hl) (d :: rest))
    (hm : bl.all (okM xkl xtl) = true) (hxk : AllS (fun c => clsB K c = true) xkl) (hxt : AllS (fun c => xtB K c = true) xtl)
    (hhq : AllH (fun e => e.qual = e.x) hl) (hhF : AllH (fun e => DfF K e.x e.st) hl) (hhB : AllH (fun e => BindsA e.x e.st [e.q]) hl) (hht : AllH (DhTxt bl) hl)
    (hlaw : ∀ ns : List Int, ns.length ≤ n → d.fi.sp [.scr (ns.map .int)] (fun r _ => r = .im (.bl true)) (fun _ _ => False)) :
    ∃ fd : FuncData, (∀ (s : Shared) (v : Value), BindsTo s fd ⟨[v], []⟩ [(x, v)]) ∧ ∀ base : Heap, K.In base → base.Ns mainGlobals mg → FnG l.prog w K mg base (rest.length + 2) fa fd [x] (spL n K) := by
  have hq := all_d hq
  have hF := all_d hF
  have hB := all_d hB
  have ht := all_d ht
  have hbl := all_s hbl
  have hk := keeps_all hk
  have hcs : ∀ y c, csFn csl y = some c → CsF K y c := fun y c e => all_c hcs e
  have hca := clsAll_of X G hm hxk hxt
  obtain ⟨f, fd, F, hmg, hb⟩ := (df_in X G (hq d List.mem_cons_self) (hF d List.mem_cons_self) (hB d List.mem_cons_self)).ex
  rw [hmg] at hfa
  cases hfa
  rw [hps] at hb
  refine ⟨fd, fun s v => .of_eq (hb [v] rfl), fun base _ _ => ?_⟩
  have hbl' : ∀ y ∈ bl, mg y = none := fun y hy => PySem.W.mg_none_of X G (hbl y hy)
  have hfx := hot_ok (P := l.prog) (w := w) (base := base) hbl' hca (all_h hht) fun e he => dh_in X G (all_h hhq e he) (all_h hhF e he) (all_h hhB e he)
  have hcs' : ∀ y c, (csX csl hl).cs y = some c → ∃ v u, mg y = some u ∧ RelV v u ∧ ∀ Z H, Rep K Z H v c := fun y c e => by
    obtain ⟨v, u, q1, q2, q3⟩ := hcs y c e
    exact ⟨v, u, PySem.W.mg_of X G q1, q2, q3⟩
  have hfx' : ∀ g F, (csX csl hl).fx g = some F → FxIs l.prog w K mg base 1 g F := hfx
  generalize csX csl hl = cs at hcs' hk hfx'
  have ih := prog_ok (P := l.prog) (w := w) (base := base) hbl' hca hfx' hcs' rest (fun e he => ht e (List.mem_cons_of_mem _ he)) (fun e he => df_in X G (hq e (List.mem_cons_of_mem _ he)) (hF e (List.mem_cons_of_mem _ he)) (hB e (List.mem_cons_of_mem _ he))) fun a e b q => hk (d :: a) e b (by rw [q]; rfl)
  have t := ht d List.mem_cons_self
  have := fn_keepsE (P := l.prog) (w := w) (base := base) (Γ := gam cs rest) (k := rest.length + 1) F t.sc t.len t.mB hbl' hcs' (fun g gi e => by
    obtain ⟨c, e1, e2⟩ := Option.map_eq_some_iff.mp e
    have hc := List.mem_of_find?_eq_some e1
    have hx := List.find?_some e1
    have hx : c.x = g := by simpa using hx
    rw [← hx, ← e2]
    exact ih c hc) hca (fun g F e => ⟨Nat.le_add_left _ _, hfx' g F e⟩) (hk [] d rest rfl)
  rw [hps] at this
  exact this.imp (law_sp hio hlaw)
/-- what is tracked at the start: the script, or nothing -/
structure StartH (P : Program) (w : World) (K : PySem.W.Frag) (a : Addr) (ns : List Int) (st : Shared) (Hh : Hp) : Prop where
  only : Only Hh
  sq : SqL K Hh a (ns.map V.int)
  ok : HOk P w Hh st.heap
  one : ∀ {b}, Hh b ≠ none → b = a
  out : Hh a ≠ none → K.lookup a = none
theorem start_tracked {P : Program} {w : World} {K : PySem.W.Frag} {a : Addr} {st : Shared} {vs : List Value} {ns : List Int} (inK : K.In st.heap) (sa : st.heap.get? a = some { cls := .type "list", data := .seq vs.toArray }) (ii : IntsAre vs ns) (hl : ns.length ≤ sizeLine) :
    ∃ Hh, StartH P w K a ns st Hh := by
  have rv := L2.vals_ints ii
  have lv := ii.length
  by_cases hk : K.lookup a = none
  · let u : HO := .frz { cls := .type "list", data := .seq vs.toArray } (.lst (ns.map V.int))
    have at_a : ∀ {b : Addr} {z : HO}, (fun c => if c = a then some u else none : Hp) b = some z → b = a ∧ z = u := fun {b z} h => by
      by_cases q : b = a
      · exact ⟨q, by simpa [q] using h.symm⟩
      · simp [q] at h
    refine ⟨fun c => if c = a then some u else none, fun b => ?_, .inl (.inr ⟨_, by simp only [if_true]; rfl⟩), fun b z h => ?_, fun {b} h => ?_, fun _ => hk⟩
    · by_cases q : b = a
      · exact .inr ⟨_, _, by simp only [q, if_true]; rfl⟩
      · exact .inl (by simp only [q, if_false])
    · obtain ⟨rfl, rfl⟩ := at_a h
      exact ⟨sa, by rw [List.length_map]; exact hl, vs, _, rv, sa⟩
    · refine Classical.byContradiction fun q => h ?_
      show (if b = a then some u else none) = none
      rw [if_neg q]
  · obtain ⟨o, ho⟩ := Option.ne_none_iff_exists'.mp hk
    have e := inK a o ho
    rw [sa] at e
    cases e
    refine ⟨fun _ => none, fun _ => .inl rfl, .inr ⟨_, vs.toArray, _, ho, rfl, rfl, rfl, ?_, ?_⟩, fun b z h => (nomatch (show (none : Option HO) = some z from h)), fun h => (h rfl).elim, fun h => (h rfl).elim⟩
    · rw [List.size_toArray, lv]; exact hl
    · simpa using rv
theorem law_run {P : Program} {w : World} {K : PySem.W.Frag} {gl mb : Str → Option Value} {n : Nat} {fa a : Addr} {fd : FuncData} {x : Str} {sp : Sp} {st : Shared} {vs : List Value} {ns : List Int} (inK : K.In st.heap) (g1 : st.heap.Ns mainGlobals gl) (g2 : st.heap.Ns builtinsNs mb)
    (g3 : ∀ y : Str, y ≠ "__name__" → mb y = bootBuiltins y) (g4 : st.heap.NoLimit) (g5 : st.gens = #[]) (sa : st.heap.get? a = some { cls := .type "list", data := .seq vs.toArray }) (ii : IntsAre vs ns) (hl : ns.length ≤ sizeLine) (room : RoomG n callerA)
    (F : ∀ bs : Heap, K.In bs → bs.Ns mainGlobals gl → FnG P w K gl bs n fa fd [x] sp) (bind : ∀ (s : Shared) (u : Value), BindsTo s fd ⟨[u], []⟩ [(x, u)])
    (yes : ∀ Hh : Hp, Only Hh → SqL K Hh a (ns.map V.int) → sp [.ref a] Hh (fun v _ => v = .bl true) fun _ _ _ => False) (no : ∀ {Hh e s'}, L2N.CX P w [] Hh st (fun _ _ _ => False) e s' → False) :
    codeAny (model P w) callerA (.call (.ref fa) ⟨[.ref a], []⟩) (fun r s' => r = .ok (.ret (.bool true)) ∧ OldK st.heap s'.heap ∧ s'.os = st.os ∧ AllBare s'.gens) st := by
  obtain ⟨Hh, T⟩ := start_tracked (P := P) (w := w) inK sa ii hl
  have hid : ∀ {b : Addr} {o : Obj}, st.heap.get? b = some o → Hh b = none → (hidT st.heap Hh).get? b = some o := fun e q => hidT_get e q
  have free : ∀ {b : Addr} {o : Obj}, st.heap.get? b = some o → (∀ xs m, o.data ≠ .seq xs m) → Hh b = none := fun {b o} e nd => Classical.byContradiction fun q => by
    obtain rfl := T.one q
    rw [sa] at e; cases e
    exact nd _ _ rfl
  have names : ∀ {b : Addr} {m : Str → Option Value}, st.heap.Ns b m → (hidT st.heap Hh).Ns b m := by
    rintro b m ⟨o, es, ep, e, d, r⟩
    exact ⟨o, es, ep, hid e (free e fun xs k z => by rw [d] at z; cases z), d, r⟩
  have kin : K.In (hidT st.heap Hh) := fun b o e => hid (inK b o e) (Classical.byContradiction fun q => by
    have e2 := T.one q
    subst e2
    rw [T.out q] at e; cases e)
  obtain ⟨mc, l1, l2⟩ := g4
  have e0 : Env0 P w K gl (hidT st.heap Hh) callerA [] st Hh := {
    frames := rfl
    mod := ⟨kin, names g1, ⟨mb, names g2, g3⟩, ⟨mc, names l1, l2⟩⟩
    bs := fun _ _ e => of_hidT e
    bsz := Nat.le_of_eq (hidT_size _ _)
    funs := trivial
    frf := fun b z => (List.not_mem_nil (show b ∈ ([] : List Addr) from z)).elim
    hok := T.ok
    bare := .of_eq g5 }
  refine codeAny_mono ((F _ kin (names g1)).go room e0 (ys := [.ref a]) (xs := [.ref a]) (bind st (.ref a)) (.cons rfl .nil) (yes Hh T.only T.sq)) ?_
  rintro (e | fl) s' h
  · exact (no h).elim
  · cases fl with
    | ret u =>
      obtain ⟨v, H2, q1, q2, un, ok2, rv, q3⟩ := h
      have q3 : v = .bl true := q3
      subst q3
      have q4 : u = Value.bool true := rv
      refine ⟨by rw [q4], OldK.of_keep fun b o e => ?_, q1, q2⟩
      rcases T.only b with z | ⟨ob, xs, z⟩
      · exact un.keep b o e z (fun c => (List.not_mem_nil (show b ∈ ([] : List Addr) from c)).elim) (by simp)
      · have z2 := un.frzs b ob _ z
        have e1 := (T.ok b _ z).1
        have e2 := (ok2 b _ z2).1
        rw [e] at e1; cases e1
        exact e2
    | next => exact False.elim h
    | brk => exact False.elim h
    | cont => exact False.elim h
/-- the goal that k_head leaves, from the law's promise where nothing is being shown -/
theorem walk_ofG {l : PySem.W.OpenLaw} {n k : Nat} {q : Program} {loose : List Str} {XP : (Str → Option Value) → Heap → Prop} {YP : World → Heap → Prop} {d : DefRec} {K : Params → PySem.W.Frag} {sp : World → Sp} {x : Str} (hn : l.most = some n) (hn2 : n ≤ sizeLine) (hdf : d.params.defaults = []) (hr : RoomG k callerA)
    (hY : ∀ (w : World) (h : Heap), YP w h → (K w.params).In h)
    (F : ∀ (w : World) (gl : Str → Option Value) (fa : Addr) (h : Heap), (K w.params).In h → h.Ns mainGlobals gl → gl d.name = some (.ref fa) →
      ∃ fd : FuncData, (∀ (s : Shared) (u : Value), BindsTo s fd ⟨[u], []⟩ [(x, u)]) ∧ ∀ bs : Heap, (K w.params).In bs → bs.Ns mainGlobals gl → FnG l.prog w (K w.params) gl bs k fa fd [x] (sp w))
    (yes : ∀ (w : World) (Hh : Hp) (a : Addr) (ns : List Int), ns.length ≤ n → Only Hh → SqL (K w.params) Hh a (ns.map V.int) → sp w [.ref a] Hh (fun v _ => v = .bl true) fun _ _ _ => False)
    (no : ∀ {w : World} {Hh : Hp} {s : Shared} {e : Value} {s' : Shared}, L2N.CX l.prog w [] Hh s (fun _ _ _ => False) e s' → False) :
    PySem.W.WalkO q loose XP YP l.row.toRowW d [] (fun f vs => PySem.call f vs) :=
  Att.attach_call hn hdf fun w _ st gl mb fa _ _ _ _ a vs ns G Y _ _ _ hm sa ii hl g5 => by
    obtain ⟨fd, hb, hF⟩ := F w gl fa _ (hY w _ Y) G.T.g hm
    exact law_run (hY w _ Y) G.T.g G.T.b G.T.builtins G.T.nolimit g5 sa ii (Nat.le_trans hl hn2) hr hF hb (fun Hh ho hs => yes w Hh a ns hl ho hs) no
theorem no_exc {P : Program} {w : World} {H : Hp} {s : Shared} {e : Value} {s' : Shared} (h : L2N.CX P w [] H s (fun _ _ _ => False) e s') : False := by
  obtain ⟨_, _, _, _, _, _, _, _, _, _, _, _, z⟩ := h
  exact z
end
end TG
end
section
namespace TG
open PySem
section
variable {Γ : Ga} {R : XP} {env : Env} {Q : Rv → Env → Prop} {T : Bool → Env → Prop} {A : List D → Env → Prop} {B : List Rv → Env → Prop} {O : Option Int → Env → Prop} {I : List Nat → List D → Env → Prop}
theorem E_var {i : Nat} : (sem Γ (.var i)).E R env Q = (match env[i]? with
    | some (.im d) => Q (.im d) env
    | some .un => False
    | some _ => Q (.bo i) env
    | none => False) := rfl
theorem E_cint {i : Int} : (sem Γ (.cint i)).E R env Q = (Q (.im (.int i)) env) := rfl
theorem E_cstr {i : Str} : (sem Γ (.cstr i)).E R env Q = (Q (.im (.str i)) env) := rfl
theorem E_cbl {i : Bool} : (sem Γ (.cbl i)).E R env Q = (Q (.im (.bl i)) env) := rfl
theorem E_cnon  : (sem Γ (.cnon)).E R env Q = (Q (.im .non) env) := rfl
theorem E_glob {x : Str} : (sem Γ (.glob x)).E R env Q = (∃ d, Γ.cs x = some d ∧ Q (.im d) env) := rfl
theorem E_bin {op : Operator} {a b : Ex} : (sem Γ (.bin op a b)).E R env Q = ((sem Γ a).E R env fun r e1 => (sem Γ b).E R e1 fun r2 e2 => rd r e2 fun x => rd r2 e2 fun y => dBin op x y fun z => Q z e2) := rfl
theorem E_neg {a : Ex} : (sem Γ (.neg a)).E R env Q = ((sem Γ a).E R env fun r e1 => rd r e1 fun x => ∃ i, x = .int i ∧ Q (.im (.int (-i))) e1) := rfl
theorem E_cmp {op : CmpOp} {a b : Ex} : (sem Γ (.cmp op a b)).E R env Q = ((sem Γ a).E R env fun r e1 => (sem Γ b).E R e1 fun r2 e2 => rd r e2 fun x => rd r2 e2 fun y => dCmp op x y fun z => Q (.im (.bl z)) e2) := rfl
theorem E_chain {op op' : CmpOp} {a b c : Ex} : (sem Γ (.chain op op' a b c)).E R env Q = ((sem Γ a).E R env fun r e1 => (sem Γ b).E R e1 fun r2 e2 => rd r e2 fun x => rd r2 e2 fun y => dCmp op x y fun k =>
      if k = true then (sem Γ c).E R e2 fun r3 e3 => rd r2 e3 fun y => rd r3 e3 fun z => dCmp op' y z fun k => Q (.im (.bl k)) e3 else Q (.im (.bl false)) e2) := rfl
theorem E_andn {a b : Ex} : (sem Γ (.andn a b)).E R env Q = ((sem Γ a).E R env fun r e1 => rd r e1 fun d => ∃ k, dTru d = some k ∧ if k = true then (sem Γ b).E R e1 Q else Q r e1) := rfl
theorem E_orn {a b : Ex} : (sem Γ (.orn a b)).E R env Q = ((sem Γ a).E R env fun r e1 => rd r e1 fun d => ∃ k, dTru d = some k ∧ if k = true then Q r e1 else (sem Γ b).E R e1 Q) := rfl
theorem E_notn {a : Ex} : (sem Γ (.notn a)).E R env Q = ((sem Γ a).E R env fun r e1 => rd r e1 fun d => ∃ k, dTru d = some k ∧ Q (.im (.bl (!k))) e1) := rfl
theorem E_ife {c a b : Ex} : (sem Γ (.ife c a b)).E R env Q = ((sem Γ c).T R env fun k e1 => if k = true then (sem Γ a).E R e1 Q else (sem Γ b).E R e1 Q) := rfl
theorem E_tupn {as : Ex} : (sem Γ (.tupn as)).E R env Q = ((sem Γ as).A R env fun ds e1 => ds.length ≤ sizeLine ∧ Q (.im (.tup ds)) e1) := rfl
theorem E_lstn {as : Ex} : (sem Γ (.lstn as)).E R env Q = ((sem Γ as).A R env fun ds e1 => ds.length ≤ sizeLine ∧ Q (.fr (.lst ds)) e1) := rfl
theorem E_dnew {t : Bool} : (sem Γ (.dnew t)).E R env Q = (Q (.fr (if t = true then .dtt [] else .dct [])) env) := rfl
theorem E_dctn {k v : Ex} : (sem Γ (.dctn k v)).E R env Q = ((sem Γ k).E R env fun r e1 => fz r e1 fun x e2 => (sem Γ v).E R e2 fun r2 e3 => fz r2 e3 fun y e4 => ∃ kk, keyD x = some kk ∧ Q (.fr (.dct (dmerge [] [(kk, y)]))) e4) := rfl
theorem E_dctw {k v k' v' : Ex} : (sem Γ (.dctw k v k' v')).E R env Q = ((sem Γ k).E R env fun r e1 => fz r e1 fun x e2 => (sem Γ v).E R e2 fun r2 e3 => fz r2 e3 fun y e4 =>
      (sem Γ k').E R e4 fun r e1 => fz r e1 fun x' e2 => (sem Γ v').E R e2 fun r2 e3 => fz r2 e3 fun y' e4 => ∃ kk kk', keyD x = some kk ∧ keyD x' = some kk' ∧ Q (.fr (.dct (dmerge [] [(kk, y), (kk', y')]))) e4) := rfl
theorem E_lrg {a b : Ex} : (sem Γ (.lrg a b)).E R env Q = ((sem Γ a).E R env fun r e1 => (sem Γ b).E R e1 fun r2 e2 => rd r e2 fun x => rd r2 e2 fun y => ∃ m n, x = .int m ∧ y = .int n ∧ RgS m n ∧ Q (.fr (.lst ((List.range (n - m).toNat).map fun (k : Nat) => .int (m + k)))) e2) := rfl
theorem I_lrg {a b : Ex} : (sem Γ (.lrg a b)).I R env I = ((sem Γ (.lrg a b)).E R env fun r e1 => srcR r e1 fun is x => ∃ xs, itD x = some xs ∧ I is xs e1) := rfl
theorem E_srs {a : Ex} : (sem Γ (.srs a)).E R env Q = ((sem Γ a).E R env fun r e1 => rd r e1 fun x => ∃ ds, seqD x = some ds ∧ ∃ xs, strsD ds = some xs ∧ xs.length < 64 ∧ ∀ ys : List Str, ys.Perm (uniq xs) → PyProof.Rows.sortedS ys = true → Q (.fr (.lst (ys.map .str))) e1) := rfl
theorem E_ptn {as : Ex} : (sem Γ (.ptn as)).E R env Q = ((sem Γ as).A R env fun ds e1 => ds.length ≤ sizeLine ∧ Q (.im (.ptp ds)) e1) := rfl
theorem E_fgt {a : Ex} : (sem Γ (.fgt a)).E R env Q = ((sem Γ a).E R env fun r e1 => rd r e1 fun x => ∃ ds, x = .ptp ds ∧ Q (.im (.tup ds)) e1) := rfl
theorem T_fgt {a : Ex} : (sem Γ (.fgt a)).T R env Qt = (sem Γ (.fgt a)).E R env fun r e1 => rd r e1 fun d => ∃ k, dTru d = some k ∧ Qt k e1 := rfl
theorem I_fgt {a : Ex} : (sem Γ (.fgt a)).I R env Qi = (sem Γ (.fgt a)).E R env fun r e1 => srcR r e1 fun is x => ∃ xs, itD x = some xs ∧ Qi is xs e1 := rfl
theorem E_kept {i : Nat} {a : Ex} : (sem Γ (.kept i a)).E R env Q = (∃ d, env[i]? = some (.im d) ∧ (sem Γ a).E R env fun r e1 => e1[i]? = some .un ∧ ∃ x, r = .fr x ∧ Q (.fr x) (e1.set i (.im d))) := rfl
theorem I_kept {i : Nat} {a : Ex} : (sem Γ (.kept i a)).I R env Qi = (sem Γ (.kept i a)).E R env fun r e1 => srcR r e1 fun is x => ∃ xs, itD x = some xs ∧ Qi is xs e1 := rfl
theorem ex_fr {x : D} {K : D → Prop} : (∃ y, Rv.fr x = .fr y ∧ K y) = K x := propext ⟨fun ⟨_, e, k⟩ => by cases e; exact k, fun k => ⟨x, rfl, k⟩⟩
theorem ex_ptp {x : List D} {K : List D → Prop} : (∃ ds, D.ptp x = .ptp ds ∧ K ds) = K x := propext ⟨fun ⟨_, e, k⟩ => by cases e; exact k, fun k => ⟨x, rfl, k⟩⟩
theorem E_call {f : Str} {as : Ex} : (sem Γ (.call f as)).E R env Q = (∃ fi, Γ.fn f = some fi ∧ (sem Γ as).C R fi.io env fun rs e1 => (bos rs).Nodup ∧ rdC fi.io rs e1 fun ds => fi.sp ds (fun r fins => Q r (putB fi.io rs fins e1)) (fun x fins => R x (putB fi.io rs fins e1))) := rfl
theorem E_blt {b : Bt} {as : Ex} : (sem Γ (.blt b as)).E R env Q = ((sem Γ as).B R env fun rs e1 => rds rs e1 fun ds => dBlt b ds fun r => Q r e1) := rfl
theorem E_meth {m : Mt} {o as : Ex} : (sem Γ (.meth m o as)).E R env Q = ((sem Γ o).E R env fun r e1 => rd r e1 fun x0 => tyM m x0 = true ∧ (sem Γ as).B R e1 fun rs e2 => rd r e2 fun x => rds rs e2 fun ds => dMt m x ds fun r => Q r e2) := rfl
theorem E_mut {m : Mm} {i : Nat} {as : Ex} : (sem Γ (.mut m i as)).E R env Q = ((match env[i]? with
    | some (.ow d) => tyMm m d = true
    | some (.io d) => tyMm m d = true
    | _ => False) ∧ (sem Γ as).A R env fun ds e1 => match e1[i]? with
    | some (.ow d) => dMm m d ds fun d' x => Q (.im x) (e1.set i (.ow d'))
    | some (.io d) => dMm m d ds fun d' x => Q (.im x) (e1.set i (.io d'))
    | _ => False) := rfl
theorem E_idx {a i : Ex} : (sem Γ (.idx a i)).E R env Q = ((sem Γ a).E R env fun r e1 => (sem Γ i).E R e1 fun r2 e2 => rd r e2 fun x => rd r2 e2 fun y => dIdx x y fun z => Q (.im z) e2) := rfl
theorem E_sls {a lo hi st : Ex} : (sem Γ (.sls a lo hi st)).E R env Q = ((sem Γ a).E R env fun r e1 => (sem Γ lo).O R e1 fun l e2 => (sem Γ hi).O R e2 fun h e3 => (sem Γ st).O R e3 fun c e4 => ∃ c', c = some c' ∧ rd r e4 fun x => dSls x l h c' fun z => Q z e4) := rfl
theorem T_sls {a lo hi st : Ex} : (sem Γ (.sls a lo hi st)).T R env T = ((sem Γ (.sls a lo hi st)).E R env fun r e1 => rd r e1 fun d => ∃ k, dTru d = some k ∧ T k e1) := rfl
theorem I_sls {a lo hi st : Ex} : (sem Γ (.sls a lo hi st)).I R env I = ((sem Γ (.sls a lo hi st)).E R env fun r e1 => srcR r e1 fun is x => ∃ xs, itD x = some xs ∧ I is xs e1) := rfl
theorem E_slc {a lo hi : Ex} : (sem Γ (.slc a lo hi)).E R env Q = ((sem Γ a).E R env fun r e1 => (sem Γ lo).O R e1 fun l e2 => (sem Γ hi).O R e2 fun h e3 => rd r e3 fun x => dSlc x l h fun z => Q z e3) := rfl
theorem E_isi {a : Ex} {t : Tn} : (sem Γ (.isi a t)).E R env Q = ((sem Γ a).E R env fun r e1 => rd r e1 fun x => Q (.im (.bl (dIsi x t))) e1) := rfl
/-- one turn of a comprehension -/
def cturn (Γ : Ga) (vs : List Nat) (tg : Tg) (c e : Ex) : D → Env → (Option D → Env → Prop) → Prop := fun d e2 k => bindT tg d (wipeE e2 vs) fun e3 => (sem Γ c).T noX e3 fun b e4 => if b = true then (sem Γ e).E noX e4 fun r e5 => fz r e5 fun y e6 => k (some y) e6 else k none e4
theorem E_comp {vs : List Nat} {tg : Tg} {it c e : Ex} : (sem Γ (.comp vs tg it c e)).E R env Q = ((sem Γ it).I R env fun is its e1 => its.length ≤ sizeLine ∧ compW (cturn Γ vs tg c e) (fun e2 => stays is e1 (wipeE e2 vs)) its [] e1 fun acc e7 => Q (.fr (.lst acc)) (wipeE e7 vs)) := rfl
theorem E_compd {k : Bool} {vs : List Nat} {tg : Tg} {i : Nat} {c e : Ex} : (sem Γ (.compd k vs tg i c e)).E R env Q = (∃ s kvs, env[i]? = some s ∧ (s = .ow (.dct kvs) ∨ s = .io (.dct kvs)) ∧ i ∉ vs ∧ kvs.length ≤ sizeLine ∧ compW (cturn Γ vs tg c e) (fun e2 => (wipeE e2 vs)[i]? = some (.lk (.dct kvs))) (dwalk k kvs) [] (env.set i (.lk (.dct kvs))) fun acc e7 => Q (.fr (.lst acc)) ((wipeE e7 vs).set i s)) := rfl
theorem T_compd {k : Bool} {vs : List Nat} {tg : Tg} {i : Nat} {c e : Ex} : (sem Γ (.compd k vs tg i c e)).T R env T = ((sem Γ (.compd k vs tg i c e)).E R env fun r e1 => rd r e1 fun d => ∃ k, dTru d = some k ∧ T k e1) := rfl
theorem I_compd {k : Bool} {vs : List Nat} {tg : Tg} {i : Nat} {c e : Ex} : (sem Γ (.compd k vs tg i c e)).I R env I = ((sem Γ (.compd k vs tg i c e)).E R env fun r e1 => srcR r e1 fun is x => ∃ xs, itD x = some xs ∧ I is xs e1) := rfl
theorem T_var {i : Nat} : (sem Γ (.var i)).T R env T = ((sem Γ (.var i)).E R env fun r e1 => rd r e1 fun d => ∃ k, dTru d = some k ∧ T k e1) := rfl
theorem O_var {i : Nat} : (sem Γ (.var i)).O R env O = ((sem Γ (.var i)).E R env fun r e1 => rd r e1 fun x => ∃ i, x = .int i ∧ O (some i) e1) := rfl
theorem I_var {i : Nat} : (sem Γ (.var i)).I R env I = ((sem Γ (.var i)).E R env fun r e1 => srcR r e1 fun is x => ∃ xs, itD x = some xs ∧ I is xs e1) := rfl
theorem T_cint {i : Int} : (sem Γ (.cint i)).T R env T = ((sem Γ (.cint i)).E R env fun r e1 => rd r e1 fun d => ∃ k, dTru d = some k ∧ T k e1) := rfl
theorem O_cint {i : Int} : (sem Γ (.cint i)).O R env O = ((sem Γ (.cint i)).E R env fun r e1 => rd r e1 fun x => ∃ i, x = .int i ∧ O (some i) e1) := rfl
theorem I_cint {i : Int} : (sem Γ (.cint i)).I R env I = ((sem Γ (.cint i)).E R env fun r e1 => srcR r e1 fun is x => ∃ xs, itD x = some xs ∧ I is xs e1) := rfl
theorem T_cstr {i : Str} : (sem Γ (.cstr i)).T R env T = ((sem Γ (.cstr i)).E R env fun r e1 => rd r e1 fun d => ∃ k, dTru d = some k ∧ T k e1) := rfl
theorem O_cstr {i : Str} : (sem Γ (.cstr i)).O R env O = ((sem Γ (.cstr i)).E R env fun r e1 => rd r e1 fun x => ∃ i, x = .int i ∧ O (some i) e1) := rfl
theorem I_cstr {i : Str} : (sem Γ (.cstr i)).I R env I = ((sem Γ (.cstr i)).E R env fun r e1 => srcR r e1 fun is x => ∃ xs, itD x = some xs ∧ I is xs e1) := rfl
theorem T_cbl {i : Bool} : (sem Γ (.cbl i)).T R env T = ((sem Γ (.cbl i)).E R env fun r e1 => rd r e1 fun d => ∃ k, dTru d = some k ∧ T k e1) := rfl
theorem O_cbl {i : Bool} : (sem Γ (.cbl i)).O R env O = ((sem Γ (.cbl i)).E R env fun r e1 => rd r e1 fun x => ∃ i, x = .int i ∧ O (some i) e1) := rfl
theorem I_cbl {i : Bool} : (sem Γ (.cbl i)).I R env I = ((sem Γ (.cbl i)).E R env fun r e1 => srcR r e1 fun is x => ∃ xs, itD x = some xs ∧ I is xs e1) := rfl
theorem T_glob {x : Str} : (sem Γ (.glob x)).T R env T = ((sem Γ (.glob x)).E R env fun r e1 => rd r e1 fun d => ∃ k, dTru d = some k ∧ T k e1) := rfl
theorem O_glob {x : Str} : (sem Γ (.glob x)).O R env O = ((sem Γ (.glob x)).E R env fun r e1 => rd r e1 fun x => ∃ i, x = .int i ∧ O (some i) e1) := rfl
theorem I_glob {x : Str} : (sem Γ (.glob x)).I R env I = ((sem Γ (.glob x)).E R env fun r e1 => srcR r e1 fun is x => ∃ xs, itD x = some xs ∧ I is xs e1) := rfl
theorem T_bin {op : Operator} {a b : Ex} : (sem Γ (.bin op a b)).T R env T = ((sem Γ (.bin op a b)).E R env fun r e1 => rd r e1 fun d => ∃ k, dTru d = some k ∧ T k e1) := rfl
theorem O_bin {op : Operator} {a b : Ex} : (sem Γ (.bin op a b)).O R env O = ((sem Γ (.bin op a b)).E R env fun r e1 => rd r e1 fun x => ∃ i, x = .int i ∧ O (some i) e1) := rfl
theorem I_bin {op : Operator} {a b : Ex} : (sem Γ (.bin op a b)).I R env I = ((sem Γ (.bin op a b)).E R env fun r e1 => srcR r e1 fun is x => ∃ xs, itD x = some xs ∧ I is xs e1) := rfl
theorem T_cmp {op : CmpOp} {a b : Ex} : (sem Γ (.cmp op a b)).T R env T = ((sem Γ (.cmp op a b)).E R env fun r e1 => rd r e1 fun d => ∃ k, dTru d = some k ∧ T k e1) := rfl
theorem O_cmp {op : CmpOp} {a b : Ex} : (sem Γ (.cmp op a b)).O R env O = ((sem Γ (.cmp op a b)).E R env fun r e1 => rd r e1 fun x => ∃ i, x = .int i ∧ O (some i) e1) := rfl
theorem I_cmp {op : CmpOp} {a b : Ex} : (sem Γ (.cmp op a b)).I R env I = ((sem Γ (.cmp op a b)).E R env fun r e1 => srcR r e1 fun is x => ∃ xs, itD x = some xs ∧ I is xs e1) := rfl
theorem T_neg {a : Ex} : (sem Γ (.neg a)).T R env T = ((sem Γ (.neg a)).E R env fun r e1 => rd r e1 fun d => ∃ k, dTru d = some k ∧ T k e1) := rfl
theorem O_neg {a : Ex} : (sem Γ (.neg a)).O R env O = ((sem Γ (.neg a)).E R env fun r e1 => rd r e1 fun x => ∃ i, x = .int i ∧ O (some i) e1) := rfl
theorem I_neg {a : Ex} : (sem Γ (.neg a)).I R env I = ((sem Γ (.neg a)).E R env fun r e1 => srcR r e1 fun is x => ∃ xs, itD x = some xs ∧ I is xs e1) := rfl
theorem T_chain {op op' : CmpOp} {a b c : Ex} : (sem Γ (.chain op op' a b c)).T R env T = ((sem Γ (.chain op op' a b c)).E R env fun r e1 => rd r e1 fun d => ∃ k, dTru d = some k ∧ T k e1) := rfl
theorem O_chain {op op' : CmpOp} {a b c : Ex} : (sem Γ (.chain op op' a b c)).O R env O = ((sem Γ (.chain op op' a b c)).E R env fun r e1 => rd r e1 fun x => ∃ i, x = .int i ∧ O (some i) e1) := rfl
theorem I_chain {op op' : CmpOp} {a b c : Ex} : (sem Γ (.chain op op' a b c)).I R env I = ((sem Γ (.chain op op' a b c)).E R env fun r e1 => srcR r e1 fun is x => ∃ xs, itD x = some xs ∧ I is xs e1) := rfl
theorem T_call {f : Str} {as : Ex} : (sem Γ (.call f as)).T R env T = ((sem Γ (.call f as)).E R env fun r e1 => rd r e1 fun d => ∃ k, dTru d = some k ∧ T k e1) := rfl
theorem O_call {f : Str} {as : Ex} : (sem Γ (.call f as)).O R env O = ((sem Γ (.call f as)).E R env fun r e1 => rd r e1 fun x => ∃ i, x = .int i ∧ O (some i) e1) := rfl
theorem I_call {f : Str} {as : Ex} : (sem Γ (.call f as)).I R env I = ((sem Γ (.call f as)).E R env fun r e1 => srcR r e1 fun is x => ∃ xs, itD x = some xs ∧ I is xs e1) := rfl
theorem T_blt {b : Bt} {as : Ex} : (sem Γ (.blt b as)).T R env T = ((sem Γ (.blt b as)).E R env fun r e1 => rd r e1 fun d => ∃ k, dTru d = some k ∧ T k e1) := rfl
theorem O_blt {b : Bt} {as : Ex} : (sem Γ (.blt b as)).O R env O = ((sem Γ (.blt b as)).E R env fun r e1 => rd r e1 fun x => ∃ i, x = .int i ∧ O (some i) e1) := rfl
theorem I_blt {b : Bt} {as : Ex} : (sem Γ (.blt b as)).I R env I = ((sem Γ (.blt b as)).E R env fun r e1 => srcR r e1 fun is x => ∃ xs, itD x = some xs ∧ I is xs e1) := rfl
theorem T_meth {m : Mt} {o as : Ex} : (sem Γ (.meth m o as)).T R env T = ((sem Γ (.meth m o as)).E R env fun r e1 => rd r e1 fun d => ∃ k, dTru d = some k ∧ T k e1) := rfl
theorem O_meth {m : Mt} {o as : Ex} : (sem Γ (.meth m o as)).O R env O = ((sem Γ (.meth m o as)).E R env fun r e1 => rd r e1 fun x => ∃ i, x = .int i ∧ O (some i) e1) := rfl
theorem I_meth {m : Mt} {o as : Ex} : (sem Γ (.meth m o as)).I R env I = ((sem Γ (.meth m o as)).E R env fun r e1 => srcR r e1 fun is x => ∃ xs, itD x = some xs ∧ I is xs e1) := rfl
theorem T_idx {a i : Ex} : (sem Γ (.idx a i)).T R env T = ((sem Γ (.idx a i)).E R env fun r e1 => rd r e1 fun d => ∃ k, dTru d = some k ∧ T k e1) := rfl
theorem O_idx {a i : Ex} : (sem Γ (.idx a i)).O R env O = ((sem Γ (.idx a i)).E R env fun r e1 => rd r e1 fun x => ∃ i, x = .int i ∧ O (some i) e1) := rfl
theorem I_idx {a i : Ex} : (sem Γ (.idx a i)).I R env I = ((sem Γ (.idx a i)).E R env fun r e1 => srcR r e1 fun is x => ∃ xs, itD x = some xs ∧ I is xs e1) := rfl
theorem T_slc {a lo hi : Ex} : (sem Γ (.slc a lo hi)).T R env T = ((sem Γ (.slc a lo hi)).E R env fun r e1 => rd r e1 fun d => ∃ k, dTru d = some k ∧ T k e1) := rfl
theorem O_slc {a lo hi : Ex} : (sem Γ (.slc a lo hi)).O R env O = ((sem Γ (.slc a lo hi)).E R env fun r e1 => rd r e1 fun x => ∃ i, x = .int i ∧ O (some i) e1) := rfl
theorem I_slc {a lo hi : Ex} : (sem Γ (.slc a lo hi)).I R env I = ((sem Γ (.slc a lo hi)).E R env fun r e1 => srcR r e1 fun is x => ∃ xs, itD x = some xs ∧ I is xs e1) := rfl
theorem E_isx {i : Nat} {cs : List Str} : (sem Γ (.isx i cs)).E R env Q = (match env[i]? with
    | some (.xc n f) => Q (.im (.bl (cs.any (isaX n)))) env
    | _ => False) := by
  show (∃ n f, env[i]? = some (.xc n f) ∧ Q (.im (.bl (cs.any (isaX n)))) env) = _
  split
  · next n f e => exact propext ⟨fun ⟨n', f', e', q⟩ => by rw [e] at e'; cases e'; exact q, fun q => ⟨n, f, e, q⟩⟩
  · next h => exact propext ⟨fun ⟨n', f', e', q⟩ => h n' f' e', fun q => q.elim⟩
theorem E_fld {i : Nat} {x : Str} : (sem Γ (.fld i x)).E R env Q = (match env[i]? with
    | some (.xc n (some d)) => fldOf n = x ∧ Q (.im d) env
    | _ => False) := by
  show (∃ n d, env[i]? = some (.xc n (some d)) ∧ fldOf n = x ∧ Q (.im d) env) = _
  split
  · next n d e => exact propext ⟨fun ⟨n', f', e', q⟩ => by rw [e] at e'; cases e'; exact q, fun q => ⟨n, d, e, q⟩⟩
  · next h => exact propext ⟨fun ⟨n', f', e', q⟩ => h n' f' e', fun q => q.elim⟩
theorem E_callx {x : Str} {i : Nat} : (sem Γ (.callx x i)).E R env Q = (match env[i]? with
    | some (.xc n f) => ∃ h r, Γ.fx x = some h ∧ h n f = some r ∧ Q r env
    | _ => False) := by
  show (∃ h n f r, Γ.fx x = some h ∧ env[i]? = some (.xc n f) ∧ h n f = some r ∧ Q r env) = _
  split
  · next n f e => exact propext ⟨fun ⟨h, n', f', r, e1, e', e2, q⟩ => by rw [e] at e'; cases e'; exact ⟨h, r, e1, e2, q⟩, fun ⟨h, r, e1, e2, q⟩ => ⟨h, n, f, r, e1, e, e2, q⟩⟩
  · next h => exact propext ⟨fun ⟨h', n', f', r, e1, e', e2, q⟩ => h n' f' e', fun q => q.elim⟩
theorem T_isx {i : Nat} {cs : List Str} : (sem Γ (.isx i cs)).T R env T = ((sem Γ (.isx i cs)).E R env fun r e1 => rd r e1 fun d => ∃ k, dTru d = some k ∧ T k e1) := rfl
theorem T_fld {i : Nat} {x : Str} : (sem Γ (.fld i x)).T R env T = ((sem Γ (.fld i x)).E R env fun r e1 => rd r e1 fun d => ∃ k, dTru d = some k ∧ T k e1) := rfl
theorem T_callx {x : Str} {i : Nat} : (sem Γ (.callx x i)).T R env T = ((sem Γ (.callx x i)).E R env fun r e1 => rd r e1 fun d => ∃ k, dTru d = some k ∧ T k e1) := rfl
theorem T_isi {a : Ex} {t : Tn} : (sem Γ (.isi a t)).T R env T = ((sem Γ (.isi a t)).E R env fun r e1 => rd r e1 fun d => ∃ k, dTru d = some k ∧ T k e1) := rfl
theorem O_isi {a : Ex} {t : Tn} : (sem Γ (.isi a t)).O R env O = ((sem Γ (.isi a t)).E R env fun r e1 => rd r e1 fun x => ∃ i, x = .int i ∧ O (some i) e1) := rfl
theorem I_isi {a : Ex} {t : Tn} : (sem Γ (.isi a t)).I R env I = ((sem Γ (.isi a t)).E R env fun r e1 => srcR r e1 fun is x => ∃ xs, itD x = some xs ∧ I is xs e1) := rfl
theorem T_comp {vs : List Nat} {tg : Tg} {it c e : Ex} : (sem Γ (.comp vs tg it c e)).T R env T = ((sem Γ (.comp vs tg it c e)).E R env fun r e1 => rd r e1 fun d => ∃ k, dTru d = some k ∧ T k e1) := rfl
theorem O_comp {vs : List Nat} {tg : Tg} {it c e : Ex} : (sem Γ (.comp vs tg it c e)).O R env O = ((sem Γ (.comp vs tg it c e)).E R env fun r e1 => rd r e1 fun x => ∃ i, x = .int i ∧ O (some i) e1) := rfl
theorem I_comp {vs : List Nat} {tg : Tg} {it c e : Ex} : (sem Γ (.comp vs tg it c e)).I R env I = ((sem Γ (.comp vs tg it c e)).E R env fun r e1 => srcR r e1 fun is x => ∃ xs, itD x = some xs ∧ I is xs e1) := rfl
theorem T_tupn {as : Ex} : (sem Γ (.tupn as)).T R env T = ((sem Γ (.tupn as)).E R env fun r e1 => rd r e1 fun d => ∃ k, dTru d = some k ∧ T k e1) := rfl
theorem O_tupn {as : Ex} : (sem Γ (.tupn as)).O R env O = ((sem Γ (.tupn as)).E R env fun r e1 => rd r e1 fun x => ∃ i, x = .int i ∧ O (some i) e1) := rfl
theorem I_tupn {as : Ex} : (sem Γ (.tupn as)).I R env I = ((sem Γ (.tupn as)).E R env fun r e1 => srcR r e1 fun is x => ∃ xs, itD x = some xs ∧ I is xs e1) := rfl
theorem T_lstn {as : Ex} : (sem Γ (.lstn as)).T R env T = ((sem Γ (.lstn as)).E R env fun r e1 => rd r e1 fun d => ∃ k, dTru d = some k ∧ T k e1) := rfl
theorem O_lstn {as : Ex} : (sem Γ (.lstn as)).O R env O = ((sem Γ (.lstn as)).E R env fun r e1 => rd r e1 fun x => ∃ i, x = .int i ∧ O (some i) e1) := rfl
theorem I_lstn {as : Ex} : (sem Γ (.lstn as)).I R env I = ((sem Γ (.lstn as)).E R env fun r e1 => srcR r e1 fun is x => ∃ xs, itD x = some xs ∧ I is xs e1) := rfl
theorem T_andn {a b : Ex} : (sem Γ (.andn a b)).T R env T = ((sem Γ a).T R env fun k e1 => if k = true then (sem Γ b).T R e1 T else T false e1) := rfl
theorem T_orn {a b : Ex} : (sem Γ (.orn a b)).T R env T = ((sem Γ a).T R env fun k e1 => if k = true then T true e1 else (sem Γ b).T R e1 T) := rfl
theorem T_notn {a : Ex} : (sem Γ (.notn a)).T R env T = ((sem Γ a).T R env fun k e1 => T (!k) e1) := rfl
theorem T_ife {c a b : Ex} : (sem Γ (.ife c a b)).T R env T = ((sem Γ c).T R env fun k e1 => if k = true then (sem Γ a).T R e1 T else (sem Γ b).T R e1 T) := rfl
theorem T_nil : (sem Γ .nil).T R env T = T true env := rfl
theorem O_nil : (sem Γ .nil).O R env O = O none env := rfl
theorem A_nil : (sem Γ .nil).A R env A = A [] env := rfl
theorem A_cons {a as : Ex} : (sem Γ (.cons a as)).A R env A = ((sem Γ a).E R env fun r e1 => fz r e1 fun d e2 => (sem Γ as).A R e2 fun ds e3 => A (d :: ds) e3) := rfl
theorem B_nil : (sem Γ .nil).B R env B = B [] env := rfl
theorem B_cons {a as : Ex} : (sem Γ (.cons a as)).B R env B = ((sem Γ a).E R env fun r e1 => (sem Γ as).B R e1 fun rs e2 => B (r :: rs) e2) := rfl
theorem C_nil : (sem Γ .nil).C R [] env B = B [] env := rfl
theorem C_io {a as : Ex} {ms : List Bool} : (sem Γ (.cons a as)).C R (true :: ms) env B = ((sem Γ a).E R env fun r e1 => isOwnR e1 r ∧ (sem Γ as).C R ms e1 fun rs e2 => B (r :: rs) e2) := rfl
theorem C_im {a as : Ex} {ms : List Bool} : (sem Γ (.cons a as)).C R (false :: ms) env B = ((sem Γ a).E R env fun r e1 => fz r e1 fun d e2 => (sem Γ as).C R ms e2 fun rs e3 => B (.im d :: rs) e3) := rfl
theorem I_zip2 {a b : Ex} : (sem Γ (.zip2 a b)).I R env I = ((sem Γ a).E R env fun r e1 => (sem Γ b).E R e1 fun r2 e2 => srcR r e2 fun is x => srcR r2 e2 fun js y => ∃ xs ys, seqD x = some xs ∧ seqD y = some ys ∧ I (is ++ js) (zipD xs ys) e2) := rfl
theorem I_zip3 {a b c : Ex} : (sem Γ (.zip3 a b c)).I R env I = ((sem Γ a).E R env fun r e1 => (sem Γ b).E R e1 fun r2 e2 => (sem Γ c).E R e2 fun r3 e3 => srcR r e3 fun is x => srcR r2 e3 fun js y => srcR r3 e3 fun ks z =>
      ∃ xs ys zs, seqD x = some xs ∧ seqD y = some ys ∧ seqD z = some zs ∧ I (is ++ js ++ ks) (zipD3 xs ys zs) e3) := rfl
theorem I_enum {a : Ex} : (sem Γ (.enum a)).I R env I = ((sem Γ a).E R env fun r e1 => srcR r e1 fun is x => ∃ xs, seqD x = some xs ∧ I is (enumD 0 xs) e1) := rfl
theorem I_rng1 {a : Ex} : (sem Γ (.rng1 a)).I R env I = ((sem Γ a).E R env fun r e1 => rd r e1 fun x => ∃ n, x = .int n ∧ (-(2 ^ 62) ≤ n ∧ n < 2 ^ 62) ∧ I [] ((List.range n.toNat).map fun (k : Nat) => .int k) e1) := rfl
theorem I_rng3 {a b c : Ex} : (sem Γ (.rng3 a b c)).I R env I = ((sem Γ a).E R env fun r e1 => (sem Γ b).E R e1 fun r2 e2 => (sem Γ c).E R e2 fun r3 e3 => rd r e3 fun x => rd r2 e3 fun y => rd r3 e3 fun z => ∃ m n, x = .int m ∧ y = .int n ∧ z = .int (-1) ∧ (-(2 ^ 62) ≤ m ∧ m < 2 ^ 62 ∧ -(2 ^ 62) ≤ n ∧ n < 2 ^ 62) ∧
    I [] ((List.range (m - n).toNat).map fun (k : Nat) => .int (m - k)) e3) := rfl
theorem I_vals {a : Ex} : (sem Γ (.vals a)).I R env I = ((sem Γ a).E R env fun r e1 => ∃ kvs, r = .fr (.dct kvs) ∧ I [] (kvs.map (·.2)) e1) := rfl
theorem I_rng2 {a b : Ex} : (sem Γ (.rng2 a b)).I R env I = ((sem Γ a).E R env fun r e1 => (sem Γ b).E R e1 fun r2 e2 => rd r e2 fun x => rd r2 e2 fun y => ∃ m n, x = .int m ∧ y = .int n ∧ (-(2 ^ 62) ≤ m ∧ m < 2 ^ 62 ∧ -(2 ^ 62) ≤ n ∧ n < 2 ^ 62) ∧
      I [] ((List.range (n - m).toNat).map fun (k : Nat) => .int (m + k)) e2) := rfl
end
section
variable {Γ : Ga} {R : XP} {env : Env} {P : Post}
theorem S_nil : wpS Γ R .nil env P = P.nx env := rfl
theorem S_cons {a b : Sm} : wpS Γ R (.cons a b) env P = wpS Γ R a env { P with nx := fun e => wpS Γ R b e P } := rfl
theorem S_seq {a b : Sm} (h : ∀ nx : Env → Prop, (nx = fun e => wpS Γ R b e P) → wpS Γ R a env { P with nx := nx }) : wpS Γ R (.cons a b) env P := h _ rfl
theorem S_pass : wpS Γ R .pass env P = P.nx env := rfl
theorem S_brk : wpS Γ R .brk env P = P.bk env := rfl
theorem S_cont : wpS Γ R .cont env P = P.ct env := rfl
theorem S_asg {j : Nat} {e : Ex} : wpS Γ R (.asg (.nm j) e) env P = ((sem Γ e).E R env fun r e1 => stS j r e1 P.nx) := rfl
theorem S_asgt {ts : Tg} {e : Ex} : wpS Γ R (.asg (.tp ts) e) env P = ((sem Γ e).E R env fun r e1 => rd r e1 fun d => bindT (.tp ts) d e1 P.nx) := rfl
theorem S_par2 {i j : Nat} {a b : Ex} : wpS Γ R (.par2 i j a b) env P = ((sem Γ (.cons a (.cons b .nil))).A R env fun ds e1 => match ds with
    | [x, y] => stS i (.im x) e1 fun e2 => stS j (.im y) e2 P.nx
    | _ => False) := rfl
theorem S_pak2 {i j : Nat} {a b : Ex} : wpS Γ R (.pak2 i j a b) env P = ((sem Γ a).E R env fun r e1 => (sem Γ b).E R e1 fun r2 e2 => match r, r2 with
    | .fr x, .fr y => stS i (.fr x) e2 fun e3 => stS j (.fr y) e3 P.nx
    | _, _ => False) := rfl
theorem S_pak3 {i j k : Nat} {a b c : Ex} : wpS Γ R (.pak3 i j k a b c) env P = ((sem Γ a).E R env fun r e1 => (sem Γ b).E R e1 fun r2 e2 => (sem Γ c).E R e2 fun r3 e3 => match r, r2, r3 with
    | .fr x, .fr y, .im z => stS i (.fr x) e3 fun e4 => stS j (.fr y) e4 fun e5 => stS k (.im z) e5 P.nx
    | _, _, _ => False) := rfl
theorem S_new2 {i j : Nat} : wpS Γ R (.new2 i j) env P = stS i (.fr (.lst [])) env fun e2 => stS j (.fr (.lst [])) e2 P.nx := rfl
theorem S_new3 {i j k : Nat} : wpS Γ R (.new3 i j k) env P = stS i (.fr (.lst [])) env fun e2 => stS j (.fr (.lst [])) e2 fun e3 => stS k (.fr (.lst [])) e3 P.nx := rfl
theorem S_par3 {i j k : Nat} {a b c : Ex} : wpS Γ R (.par3 i j k a b c) env P = ((sem Γ (.cons a (.cons b (.cons c .nil)))).A R env fun ds e1 => match ds with
    | [x, y, z] => stS i (.im x) e1 fun e2 => stS j (.im y) e2 fun e3 => stS k (.im z) e3 P.nx
    | _ => False) := rfl
theorem S_subT {i : Nat} {as e : Ex} : wpS Γ R (.sub i (.tupn as) e) env P = ((sem Γ e).E R env fun r e1 => fz r e1 fun v e2 => isOwn e2 i ∧ (sem Γ as).A R e2 fun ds e3 => ds.length ≤ sizeLine ∧ wrS i e3 (fun x f => x.isDtt = true ∧ dSet x (.tup ds) v f) P.nx) := rfl
theorem S_sub {i : Nat} {k e : Ex} (h : isTupX k = false) : wpS Γ R (.sub i k e) env P = ((sem Γ e).E R env fun r e1 => fz r e1 fun v e2 => isOwn e2 i ∧ (sem Γ k).E R e2 fun r2 e3 => rd r2 e3 fun y => wrS i e3 (fun x f => x.isDtt = false ∧ dSet x y v f) P.nx) := by
  cases k <;> first | rfl | cases h
theorem S_expr {e : Ex} : wpS Γ R (.expr e) env P = ((sem Γ e).E R env fun _ e1 => P.nx e1) := rfl
/-- what is handed back -/
def retR (P : Post) (r : Rv) (e1 : Env) : Prop := match r with
    | .im d => P.rt (.im d) e1
    | .fr d => P.rt (.fr d) e1
    | .bo i => match e1[i]? with
      | some (.ow d) => P.rt (.fr d) (e1.set i .un)
      | some (.im d) => P.rt (.im d) e1
      | _ => False
theorem S_ret {e : Ex} : wpS Γ R (.ret e) env P = ((sem Γ e).E R env (retR P)) := rfl
theorem S_retN : wpS Γ R .retN env P = P.rt (.im .non) env := rfl
theorem S_ifs {c : Ex} {a b : Sm} : wpS Γ R (.ifs c a b) env P = ((sem Γ c).T R env fun k e1 => if k = true then wpS Γ R a e1 P else wpS Γ R b e1 P) := rfl
theorem S_whl {c : Ex} {b : Sm} : wpS Γ R (.whl c b) env P = (∃ I : Nat → Env → Prop, (∃ m, I m env) ∧ ∀ m e, I m e → (sem Γ c).T R e fun k e1 =>
      if k = true then wpS Γ R b e1 { nx := fun e2 => ∃ m', m' < m ∧ I m' e2, rt := P.rt, bk := P.nx, ct := fun e2 => ∃ m', m' < m ∧ I m' e2 } else P.nx e1) := rfl
/-- one turn of a for -/
def fturn (Γ : Ga) (R : XP) (t : Tg) (b : Sm) (rt : Rv → Env → Prop) : D → Env → (Env → Prop) → (Env → Prop) → Prop := fun d e2 next brk => bindT t d e2 fun e3 => wpS Γ R b e3 { nx := next, rt := rt, bk := brk, ct := next }
theorem S_for {t : Tg} {it : Ex} {b : Sm} : wpS Γ R (.forr t it b) env P = ((sem Γ it).I R env fun is its e1 => forW (fturn Γ R t b P.rt) (staysIo is (frzL is e1)) P.nx its (frzL is e1)) := rfl
theorem S_lend {i : Nat} {s : Sm} : wpS Γ R (.lend i s) env P = (match env[i]? with
    | some (.ow d) => wpS Γ (fun x => lendE i (R x)) s (env.set i (.io d)) (lendP i P)
    | _ => False) := rfl
theorem S_raise0 {c : Str} : wpS Γ R (.raise c .nil) env P = R (c, none) env := rfl
theorem S_raise1 {c : Str} {a : Ex} : wpS Γ R (.raise c (.cons a .nil)) env P = ((sem Γ a).E R env fun r e1 => fz r e1 fun d e2 => R (c, some d) e2) := rfl
/-- what a clause does -/
def hdlX (Γ : Ga) (R : XP) (c : Str) (i : Nat) (s : Sm) (P : Post) : XP := fun x e => (isaX x.1 c = true → slX e i ∧ wpS Γ noX s (e.set i (.xc x.1 x.2)) (goneP i P)) ∧ (isaX x.1 c = false → R x e)
def hdl0 (Γ : Ga) (R : XP) (c : Str) (s : Sm) (P : Post) : XP := fun x e => (isaX x.1 c = true → wpS Γ noX s e P) ∧ (isaX x.1 c = false → R x e)
theorem S_tryn {b s : Sm} {c : Str} {i : Nat} : wpS Γ R (.tryx b c (some i) s) env P = wpS Γ (hdlX Γ R c i s P) b env P := rfl
theorem S_try0 {b s : Sm} {c : Str} : wpS Γ R (.tryx b c none s) env P = wpS Γ (hdl0 Γ R c s P) b env P := rfl
end
section
variable {env : Env} {d : D} {i : Nat} {K : D → Prop} {F : D → Env → Prop} {J : List Nat → D → Prop} {P : Post} {r : Rv} {rs : List Rv} {L : List D → Prop}
theorem rd_im : rd (.im d) env K = K d := rfl
theorem rd_fr : rd (.fr d) env K = K d := rfl
theorem rd_bo : rd (.bo i) env K = (match env[i]? with
    | some (.ow d) => K d
    | some (.io d) => K d
    | some (.im d) => K d
    | some (.lk d) => K d
    | _ => False) := rfl
theorem fz_im : fz (.im d) env F = F d env := rfl
theorem fz_fr : fz (.fr d) env F = F d env := rfl
theorem fz_bo : fz (.bo i) env F = (match env[i]? with
    | some (.ow d) => F d (env.set i (.im d))
    | some (.im d) => F d env
    | _ => False) := rfl
theorem srcR_im : srcR (.im d) env J = J [] d := rfl
theorem srcR_fr : srcR (.fr d) env J = J [] d := rfl
theorem srcR_bo : srcR (.bo i) env J = (match env[i]? with
    | some (.ow d) => J [i] d
    | some (.io d) => J [i] d
    | some (.im d) => J [] d
    | _ => False) := rfl
theorem rds_nil : rds [] env L = L [] := rfl
theorem rds_cons : rds (r :: rs) env L = rd r env fun d => rds rs env fun ds => L (d :: ds) := rfl
theorem ret_im : retR P (.im d) env = P.rt (.im d) env := rfl
theorem ret_fr : retR P (.fr d) env = P.rt (.fr d) env := rfl
theorem ret_bo : retR P (.bo i) env = (match env[i]? with
      | some (.ow d) => P.rt (.fr d) (env.set i .un)
      | some (.im d) => P.rt (.im d) env
      | _ => False) := rfl
end
section
variable {env : Env} {d : D} {ms : List Bool} {rs : List Rv} {L : List D → Prop} {i : Nat} {ds : List D}
theorem rdC_nil : rdC [] [] env L = L [] := rfl
theorem rdC_im : rdC (false :: ms) (.im d :: rs) env L = rdC ms rs env fun ds => L (d :: ds) := rfl
theorem rdC_fr : rdC (true :: ms) (.fr d :: rs) env L = (noFr rs = true ∧ rdC ms rs env fun ds => L (d :: ds)) := rfl
theorem rdC_bo : rdC (true :: ms) (.bo i :: rs) env L = (match env[i]? with
    | some (.ow d) => rdC ms rs env fun ds => L (d :: ds)
    | some (.io d) => rdC ms rs env fun ds => L (d :: ds)
    | _ => False) := rfl
theorem bos_nil : bos [] = [] := rfl
theorem bos_im : bos (.im d :: rs) = bos rs := rfl
theorem bos_fr : bos (.fr d :: rs) = bos rs := rfl
theorem bos_bo : bos (.bo i :: rs) = i :: bos rs := rfl
theorem nd_nil : ([] : List Nat).Nodup := List.nodup_nil
theorem nd_one : [i].Nodup := by simp
theorem putB_nil : putB [] [] ds env = env := rfl
theorem putB_im : putB (false :: ms) (.im d :: rs) ds env = putB ms rs ds env := rfl
theorem putB_fr {c : D} : putB (true :: ms) (.fr d :: rs) (c :: ds) env = putB ms rs ds env := rfl
theorem putB_bo {c : D} : putB (true :: ms) (.bo i :: rs) (c :: ds) env = putB ms rs ds (putS env i c) := rfl
theorem E_call' {Γ : Ga} {R : XP} {Q : Rv → Env → Prop} {f : Str} {as : Ex} {fi : FI} (h : Γ.fn f = some fi) : (sem Γ (.call f as)).E R env Q = ((sem Γ as).C R fi.io env fun rs e1 => (bos rs).Nodup ∧ rdC fi.io rs e1 fun ds => fi.sp ds (fun r fins => Q r (putB fi.io rs fins e1)) (fun x fins => R x (putB fi.io rs fins e1))) := by
  refine propext ⟨fun h' => ?_, fun h' => ⟨fi, h, h'⟩⟩
  obtain ⟨fi', e, h'⟩ := (show ∃ fi, Γ.fn f = some fi ∧ _ from h')
  rw [h] at e; cases e
  exact h'
end
theorem ex_some {α : Type} {a : α} {F : α → Prop} : (∃ k, some a = some k ∧ F k) ↔ F a := ⟨fun ⟨k, e, h⟩ => by cases e; exact h, fun h => ⟨a, rfl, h⟩⟩
theorem ex_eq {α : Type} {a : α} {F : α → Prop} : (∃ k, a = k ∧ F k) ↔ F a := ⟨fun ⟨k, e, h⟩ => by cases e; exact h, fun h => ⟨a, rfl, h⟩⟩
theorem ex_int {i : Int} {F : Int → Prop} : (∃ k, D.int i = .int k ∧ F k) ↔ F i := ⟨fun ⟨k, e, h⟩ => by cases e; exact h, fun h => ⟨i, rfl, h⟩⟩
theorem post_nx {io : List Bool} {Q : Rv → List D → Prop} {e : Env} : (PostF io Q).nx e = ∃ fs, finsE io e = some fs ∧ Q (.im .non) fs := rfl
theorem post_rt {io : List Bool} {Q : Rv → List D → Prop} {e : Env} {r : Rv} : (PostF io Q).rt r e = ∃ fs, finsE io e = some fs ∧ Q r fs := rfl
theorem tru_bl {b : Bool} : dTru (.bl b) = some b := rfl
theorem tru_int {i : Int} : dTru (.int i) = some (i != 0) := rfl
theorem tru_lst {l : List D} : dTru (.lst l) = some (!l.isEmpty) := rfl
theorem tru_tup {l : List D} : dTru (.tup l) = some (!l.isEmpty) := rfl
theorem tru_non : dTru .non = some false := rfl
theorem st_some {j : Nat} {d : D} {env : Env} {K : Env → Prop} {s : Sl} (h : env[j]? = some s) (h1 : ∀ d, s ≠ .io d) (h2 : ∀ d, s ≠ .lk d) : stS j (.im d) env K = K (env.set j (.im d)) := by
  unfold stS
  rw [h]
  cases s <;> first | rfl | exact absurd rfl (h1 _) | exact absurd rfl (h2 _)
section
variable {i j : Int} {x y : Str} {K : Bool → Prop}
theorem shp_int : D.shp2 (.int i) (.int j) := ⟨rfl, rfl, .inl (Nat.zero_le _)⟩
theorem cmp_eq_int : dCmp .Eq (.int i) (.int j) K = K (i == j) := propext ⟨fun h => h.2, fun h => ⟨shp_int, h⟩⟩
theorem cmp_ne_int : dCmp .NotEq (.int i) (.int j) K = K (!(i == j)) := propext ⟨fun h => h.2, fun h => ⟨shp_int, h⟩⟩
theorem cmp_lt_int : dCmp .Lt (.int i) (.int j) K = K (decide (i < j)) := rfl
theorem cmp_le_int : dCmp .LtE (.int i) (.int j) K = K (decide (i ≤ j)) := rfl
theorem cmp_gt_int : dCmp .Gt (.int i) (.int j) K = K (decide (j < i)) := rfl
theorem cmp_ge_int : dCmp .GtE (.int i) (.int j) K = K (decide (j ≤ i)) := rfl
theorem cmp_lt_str : dCmp .Lt (.str x) (.str y) K = K (decide (x.cps.toList < y.cps.toList)) := rfl
end
/-- a comprehension whose turns each do f: Iv is what holds of the environment at each turn -/
theorem compW_map {turn : D → Env → (Option D → Env → Prop) → Prop} {ok : Env → Prop} (f : D → Option D) (Iv : Env → Prop) (hok : ∀ e, Iv e → ok e) : ∀ {ds : List D} {acc : List D} {e : Env} {K : List D → Env → Prop},
    (∀ d ∈ ds, ∀ e k, Iv e → (∀ e', Iv e' → k (f d) e') → turn d e k) → Iv e → (∀ e', Iv e' → K (acc ++ ds.filterMap f) e') → compW turn ok ds acc e K
  | [], acc, e, K, _, i, k => ⟨hok e i, by simpa using k e i⟩
  | d :: ds, acc, e, K, ht, i, k => by
    refine ⟨hok e i, ht d List.mem_cons_self e _ i fun e' i' => compW_map f Iv hok (fun d' h => ht d' (List.mem_cons_of_mem _ h)) i' fun e2 i2 => ?_⟩
    have := k e2 i2
    cases h : f d with
    | none => simpa [List.filterMap_cons, h] using this
    | some y => simpa [List.filterMap_cons, h] using this
/-- a comprehension with a state: after the items before, S holds of what is made and of the environment -/
theorem compW_state {turn : D → Env → (Option D → Env → Prop) → Prop} {ok : Env → Prop} (S : List D → List D → Env → Prop) (hok : ∀ r acc e, S r acc e → ok e) : ∀ {ds : List D} {acc : List D} {e : Env} {K : List D → Env → Prop},
    (∀ d r acc e k, S (d :: r) acc e → (∀ o e', S r (match o with | some y => acc ++ [y] | none => acc) e' → k o e') → turn d e k) → S ds acc e → (∀ acc' e', S [] acc' e' → K acc' e') → compW turn ok ds acc e K
  | [], acc, e, K, _, i, k => ⟨hok _ _ e i, k acc e i⟩
  | d :: ds, acc, e, K, ht, i, k => ⟨hok _ _ e i, ht d ds acc e _ i fun o e' i' => compW_state S hok ht i' k⟩
/-- a for: S holds of the items to come and of the environment -/
theorem forW_state {turn : D → Env → (Env → Prop) → (Env → Prop) → Prop} {ok K : Env → Prop} (S : List D → Env → Prop) (hok : ∀ r e, S r e → ok e) : ∀ {ds : List D} {e : Env},
    (∀ d r e nx, S (d :: r) e → (∀ e', S r e' → nx e') → turn d e nx K) → S ds e → (∀ e', S [] e' → K e') → forW turn ok K ds e
  | [], e, _, i, k => ⟨hok _ e i, k e i⟩
  | d :: ds, e, ht, i, k => ⟨hok _ e i, ht d ds e _ i fun e' i' => forW_state S hok ht i' k⟩
end TG
end
section
namespace TG
open PySem
theorem find_at {α : Type} {p : α → Bool} : ∀ {l : List α} {i : Nat} {a : α}, l.findIdx? p = some i → l[i]? = some a → l.find? p = some a
  | [], _, _, h, _ => by simp at h
  | x :: l, i, a, h, e => by
    rw [List.findIdx?_cons] at h
    rw [List.find?_cons]
    cases hx : p x with
    | true =>
      rw [hx] at h
      simp at h
      subst h
      simpa using e
    | false =>
      rw [hx] at h
      simp at h
      obtain ⟨j, hj, rfl⟩ := h
      exact find_at hj (by simpa using e)
theorem gam_fn {cs : Cf} {l : List Df} {x : Str} {d : Df} (i : Nat) (h : (l.findIdx? fun d => d.x == x) = some i) (e : l[i]? = some d) : (gam cs l).fn x = some d.fi := by
  show (l.find? fun d => d.x == x).map (·.fi) = _
  rw [find_at h e]; rfl
theorem cs_of {l : List (Str × D)} {m : List Df} {x : Str} {d : Str × D} (i : Nat) (h : (l.findIdx? fun p => p.1 == x) = some i) (e : l[i]? = some d) : (gam (csOf l) m).cs x = some d.2 := by
  show (l.find? fun p => p.1 == x).map (·.2) = _
  rw [find_at h e]; rfl
/-- a slot into which anything may be stored -/
def Jn (s : Sl) : Prop := (∀ d, s ≠ .io d) ∧ ∀ d, s ≠ .lk d
theorem ju : Jn .un := ⟨(fun _ h => nomatch h), (fun _ h => nomatch h)⟩
theorem ji {d : D} : Jn (.im d) := ⟨(fun _ h => nomatch h), (fun _ h => nomatch h)⟩
theorem jo {d : D} : Jn (.ow d) := ⟨(fun _ h => nomatch h), (fun _ h => nomatch h)⟩
theorem st_j {j : Nat} {d : D} {env : Env} {K : Env → Prop} {s : Sl} (h : env[j]? = some s) (g : Jn s) : stS j (.im d) env K = K (env.set j (.im d)) := st_some h g.1 g.2
theorem st_jf {j : Nat} {d : D} {env : Env} {K : Env → Prop} {s : Sl} (h : env[j]? = some s) (g : Jn s) : stS j (.fr d) env K = K (env.set j (.ow d)) := by
  unfold stS
  rw [h]
  cases s <;> first | rfl | exact absurd rfl (g.1 _) | exact absurd rfl (g.2 _)
theorem sl_0 : (0 ≤ sizeLine) = True := eq_true (Nat.zero_le _)
theorem sl_1 : (0 + 1 ≤ sizeLine) = True := eq_true (by rw [PySem.sizeLine_eq]; decide)
theorem sl_2 : (0 + 1 + 1 ≤ sizeLine) = True := eq_true (by rw [PySem.sizeLine_eq]; decide)
theorem sl_3 : (0 + 1 + 1 + 1 ≤ sizeLine) = True := eq_true (by rw [PySem.sizeLine_eq]; decide)
theorem sl_4 : (0 + 1 + 1 + 1 + 1 ≤ sizeLine) = True := eq_true (by rw [PySem.sizeLine_eq]; decide)
theorem sl_5 : (0 + 1 + 1 + 1 + 1 + 1 ≤ sizeLine) = True := eq_true (by rw [PySem.sizeLine_eq]; decide)
theorem sl_6 : (0 + 1 + 1 + 1 + 1 + 1 + 1 ≤ sizeLine) = True := eq_true (by rw [PySem.sizeLine_eq]; decide)
theorem sl_7 : (0 + 1 + 1 + 1 + 1 + 1 + 1 + 1 ≤ sizeLine) = True := eq_true (by rw [PySem.sizeLine_eq]; decide)
theorem sl_8 : (0 + 1 + 1 + 1 + 1 + 1 + 1 + 1 + 1 ≤ sizeLine) = True := eq_true (by rw [PySem.sizeLine_eq]; decide)
theorem sl_9 : (0 + 1 + 1 + 1 + 1 + 1 + 1 + 1 + 1 + 1 ≤ sizeLine) = True := eq_true (by rw [PySem.sizeLine_eq]; decide)
theorem sl_10 : (0 + 1 + 1 + 1 + 1 + 1 + 1 + 1 + 1 + 1 + 1 ≤ sizeLine) = True := eq_true (by rw [PySem.sizeLine_eq]; decide)
theorem sl_11 : (0 + 1 + 1 + 1 + 1 + 1 + 1 + 1 + 1 + 1 + 1 + 1 ≤ sizeLine) = True := eq_true (by rw [PySem.sizeLine_eq]; decide)
theorem sl_12 : (0 + 1 + 1 + 1 + 1 + 1 + 1 + 1 + 1 + 1 + 1 + 1 + 1 ≤ sizeLine) = True := eq_true (by rw [PySem.sizeLine_eq]; decide)
theorem sl_13 : (0 + 1 + 1 + 1 + 1 + 1 + 1 + 1 + 1 + 1 + 1 + 1 + 1 + 1 ≤ sizeLine) = True := eq_true (by rw [PySem.sizeLine_eq]; decide)
theorem sl_14 : (0 + 1 + 1 + 1 + 1 + 1 + 1 + 1 + 1 + 1 + 1 + 1 + 1 + 1 + 1 ≤ sizeLine) = True := eq_true (by rw [PySem.sizeLine_eq]; decide)
theorem sl_15 : (0 + 1 + 1 + 1 + 1 + 1 + 1 + 1 + 1 + 1 + 1 + 1 + 1 + 1 + 1 + 1 ≤ sizeLine) = True := eq_true (by rw [PySem.sizeLine_eq]; decide)
theorem sl_16 : (0 + 1 + 1 + 1 + 1 + 1 + 1 + 1 + 1 + 1 + 1 + 1 + 1 + 1 + 1 + 1 + 1 ≤ sizeLine) = True := eq_true (by rw [PySem.sizeLine_eq]; decide)
theorem sl_17 : (0 + 1 + 1 + 1 + 1 + 1 + 1 + 1 + 1 + 1 + 1 + 1 + 1 + 1 + 1 + 1 + 1 + 1 ≤ sizeLine) = True := eq_true (by rw [PySem.sizeLine_eq]; decide)
theorem sl_18 : (0 + 1 + 1 + 1 + 1 + 1 + 1 + 1 + 1 + 1 + 1 + 1 + 1 + 1 + 1 + 1 + 1 + 1 + 1 ≤ sizeLine) = True := eq_true (by rw [PySem.sizeLine_eq]; decide)
theorem sl_19 : (0 + 1 + 1 + 1 + 1 + 1 + 1 + 1 + 1 + 1 + 1 + 1 + 1 + 1 + 1 + 1 + 1 + 1 + 1 + 1 ≤ sizeLine) = True := eq_true (by rw [PySem.sizeLine_eq]; decide)
theorem sl_20 : (0 + 1 + 1 + 1 + 1 + 1 + 1 + 1 + 1 + 1 + 1 + 1 + 1 + 1 + 1 + 1 + 1 + 1 + 1 + 1 + 1 ≤ sizeLine) = True := eq_true (by rw [PySem.sizeLine_eq]; decide)
theorem sl_21 : (0 + 1 + 1 + 1 + 1 + 1 + 1 + 1 + 1 + 1 + 1 + 1 + 1 + 1 + 1 + 1 + 1 + 1 + 1 + 1 + 1 + 1 ≤ sizeLine) = True := eq_true (by rw [PySem.sizeLine_eq]; decide)
theorem sl_22 : (0 + 1 + 1 + 1 + 1 + 1 + 1 + 1 + 1 + 1 + 1 + 1 + 1 + 1 + 1 + 1 + 1 + 1 + 1 + 1 + 1 + 1 + 1 ≤ sizeLine) = True := eq_true (by rw [PySem.sizeLine_eq]; decide)
theorem sl_23 : (0 + 1 + 1 + 1 + 1 + 1 + 1 + 1 + 1 + 1 + 1 + 1 + 1 + 1 + 1 + 1 + 1 + 1 + 1 + 1 + 1 + 1 + 1 + 1 ≤ sizeLine) = True := eq_true (by rw [PySem.sizeLine_eq]; decide)
theorem sl_24 : (0 + 1 + 1 + 1 + 1 + 1 + 1 + 1 + 1 + 1 + 1 + 1 + 1 + 1 + 1 + 1 + 1 + 1 + 1 + 1 + 1 + 1 + 1 + 1 + 1 ≤ sizeLine) = True := eq_true (by rw [PySem.sizeLine_eq]; decide)
theorem sl_25 : (0 + 1 + 1 + 1 + 1 + 1 + 1 + 1 + 1 + 1 + 1 + 1 + 1 + 1 + 1 + 1 + 1 + 1 + 1 + 1 + 1 + 1 + 1 + 1 + 1 + 1 ≤ sizeLine) = True := eq_true (by rw [PySem.sizeLine_eq]; decide)
theorem sl_26 : (0 + 1 + 1 + 1 + 1 + 1 + 1 + 1 + 1 + 1 + 1 + 1 + 1 + 1 + 1 + 1 + 1 + 1 + 1 + 1 + 1 + 1 + 1 + 1 + 1 + 1 + 1 ≤ sizeLine) = True := eq_true (by rw [PySem.sizeLine_eq]; decide)
theorem sl_27 : (0 + 1 + 1 + 1 + 1 + 1 + 1 + 1 + 1 + 1 + 1 + 1 + 1 + 1 + 1 + 1 + 1 + 1 + 1 + 1 + 1 + 1 + 1 + 1 + 1 + 1 + 1 + 1 ≤ sizeLine) = True := eq_true (by rw [PySem.sizeLine_eq]; decide)
theorem sl_28 : (0 + 1 + 1 + 1 + 1 + 1 + 1 + 1 + 1 + 1 + 1 + 1 + 1 + 1 + 1 + 1 + 1 + 1 + 1 + 1 + 1 + 1 + 1 + 1 + 1 + 1 + 1 + 1 + 1 ≤ sizeLine) = True := eq_true (by rw [PySem.sizeLine_eq]; decide)
theorem sl_29 : (0 + 1 + 1 + 1 + 1 + 1 + 1 + 1 + 1 + 1 + 1 + 1 + 1 + 1 + 1 + 1 + 1 + 1 + 1 + 1 + 1 + 1 + 1 + 1 + 1 + 1 + 1 + 1 + 1 + 1 ≤ sizeLine) = True := eq_true (by rw [PySem.sizeLine_eq]; decide)
theorem sl_30 : (0 + 1 + 1 + 1 + 1 + 1 + 1 + 1 + 1 + 1 + 1 + 1 + 1 + 1 + 1 + 1 + 1 + 1 + 1 + 1 + 1 + 1 + 1 + 1 + 1 + 1 + 1 + 1 + 1 + 1 + 1 ≤ sizeLine) = True := eq_true (by rw [PySem.sizeLine_eq]; decide)
end TG
end
section
namespace TG
open PySem

def DT {ω : Type} (U : (ω → Prop) → Prop) : Prop := (∀ K, ¬ U K) ∨ ∃ o, ∀ K, U K ↔ K o
section
variable {ω ω' : Type} {U : (ω → Prop) → Prop} {V : ω → (ω' → Prop) → Prop} {p : Prop}
theorem DT.no : DT (fun _ : ω → Prop => False) := .inl fun _ h => h
theorem DT.pt (o : ω) : DT (fun K : ω → Prop => K o) := .inr ⟨o, fun _ => Iff.rfl⟩
theorem DT.mono (h : DT U) {K K' : ω → Prop} (k : ∀ o, K o → K' o) (u : U K) : U K' := by
  rcases h with h | ⟨o, h⟩
  · exact (h K u).elim
  · exact (h K').mpr (k o ((h K).mp u))
theorem DT.bind (h : DT U) (g : ∀ o, DT (V o)) : DT (fun K => U fun o => V o K) := by
  rcases h with h | ⟨o, h⟩
  · exact .inl fun K => h _
  · rcases g o with g | ⟨o', g⟩
    · exact .inl fun K u => g K ((h _).mp u)
    · exact .inr ⟨o', fun K => (h _).trans (g K)⟩
theorem DT.and (h : DT U) : DT (fun K => p ∧ U K) := by
  by_cases q : p
  · rcases h with h | ⟨o, h⟩
    · exact .inl fun K u => h K u.2
    · exact .inr ⟨o, fun K => ⟨fun u => (h K).mp u.2, fun k => ⟨q, (h K).mpr k⟩⟩⟩
  · exact .inl fun K u => q u.1
theorem DT.congr {U' : (ω → Prop) → Prop} (h : DT U) (e : ∀ K, U' K ↔ U K) : DT U' := by
  rcases h with h | ⟨o, h⟩
  · exact .inl fun K u => h K ((e K).mp u)
  · exact .inr ⟨o, fun K => (e K).trans (h K)⟩
theorem DT.ex {α : Type} {f : Option α} {W : α → (ω → Prop) → Prop} (h : ∀ a, DT (W a)) : DT (fun K => ∃ a, f = some a ∧ W a K) := by
  cases f with
  | none => exact .inl fun K ⟨a, e, _⟩ => nomatch e
  | some a => exact (h a).congr fun K => ⟨fun ⟨b, e, w⟩ => by cases e; exact w, fun w => ⟨a, rfl, w⟩⟩
theorem DT.ite {c : Prop} [Decidable c] {U' : (ω → Prop) → Prop} (h : DT U) (h' : DT U') : DT (fun K => if c then U K else U' K) := by
  by_cases q : c
  · exact h.congr fun K => by rw [if_pos q]
  · exact h'.congr fun K => by rw [if_neg q]
end
/-- with what is let out -/
def DW {α : Type} (W : XP → (α → Env → Prop) → Prop) : Prop := DT (ω := (XD × Env) ⊕ (α × Env)) fun K => W (fun x e => K (.inl (x, e))) (fun a e => K (.inr (a, e)))
section
variable {α β ω : Type} {W : XP → (α → Env → Prop) → Prop}
theorem DW.no : DW (fun (_ : XP) (_ : α → Env → Prop) => False) := DT.no
theorem DW.pt (a : α) (e : Env) : DW (fun (_ : XP) (Q : α → Env → Prop) => Q a e) := DT.pt (Sum.inr (a, e))
theorem DW.bind {V : α → Env → XP → (β → Env → Prop) → Prop} (h : DW W) (g : ∀ a e, DW (V a e)) : DW (fun R Q => W R fun a e => V a e R Q) :=
  DT.bind (ω := (XD × Env) ⊕ (α × Env)) (ω' := (XD × Env) ⊕ (β × Env)) (U := fun K => W (fun x e => K (.inl (x, e))) (fun a e => K (.inr (a, e))))
    (V := fun o K => match o with
      | .inl p => K (.inl p)
      | .inr (a, e) => V a e (fun x e => K (.inl (x, e))) (fun b e => K (.inr (b, e)))) h fun o => match o with
    | .inl p => DT.pt _
    | .inr (a, e) => g a e
theorem DW.and {p : Prop} (h : DW W) : DW (fun R Q => p ∧ W R Q) := DT.and h
theorem DT.bindW {U : (ω → Prop) → Prop} {V : ω → XP → (β → Env → Prop) → Prop} (h : DT U) (g : ∀ o, DW (V o)) : DW (fun R Q => U fun o => V o R Q) := DT.bind h g
theorem DW.ex {f : Option ω} {V : ω → XP → (α → Env → Prop) → Prop} (h : ∀ a, DW (V a)) : DW (fun R Q => ∃ a, f = some a ∧ V a R Q) := DT.ex h
theorem DW.ite {c : Prop} [Decidable c] {W' : XP → (α → Env → Prop) → Prop} (h : DW W) (h' : DW W') : DW (fun R Q => if c then W R Q else W' R Q) := DT.ite h h'
/-- nothing is let out -/
theorem DW.shut (h : DW W) : DT fun K : (α × Env) → Prop => W noX fun a e => K (a, e) := by
  rcases h with h | ⟨o, h⟩
  · refine .inl fun K u => h (fun s => match s with | .inl _ => False | .inr q => K q) u
  · rcases o with p | q
    · exact .inl fun K u => (h (fun s => match s with | .inl _ => False | .inr q => K q)).mp u
    · exact .inr ⟨q, fun K => h (fun s => match s with | .inl _ => False | .inr q => K q)⟩
theorem DW.mono (h : DW W) {R R' : XP} {Q Q' : α → Env → Prop} (hR : ∀ x e, R x e → R' x e) (hQ : ∀ a e, Q a e → Q' a e) (u : W R Q) : W R' Q' :=
  DT.mono (ω := (XD × Env) ⊕ (α × Env)) (U := fun K => W (fun x e => K (.inl (x, e))) (fun a e => K (.inr (a, e)))) h (K := fun s => match s with | .inl p => R p.1 p.2 | .inr q => Q q.1 q.2) (K' := fun s => match s with | .inl p => R' p.1 p.2 | .inr q => Q' q.1 q.2)
    (fun o => match o with | .inl p => hR p.1 p.2 | .inr q => hQ q.1 q.2) u
end
theorem rd_dt (r : Rv) (env : Env) : DT (rd r env) := by
  unfold rd
  cases r with
  | im d => exact DT.pt _
  | fr d => exact DT.pt _
  | bo i =>
    simp only
    split <;> first | exact DT.pt _ | exact DT.no
theorem fz_dt (r : Rv) (env : Env) : DT fun K : D × Env → Prop => fz r env fun d e => K (d, e) := by
  unfold fz
  cases r with
  | im d => exact DT.pt (d, env)
  | fr d => exact DT.pt (d, env)
  | bo i =>
    simp only
    split
    · next d _ => exact DT.pt (d, env.set i (.im d))
    · next d _ => exact DT.pt (d, env)
    · exact DT.no
theorem rds_dt : ∀ (rs : List Rv) (env : Env), DT (rds rs env)
  | [], _ => DT.pt _
  | r :: rs, env => (rd_dt r env).bind fun d => (rds_dt rs env).bind fun ds => DT.pt (d :: ds)
theorem rdC_dt : ∀ (ms : List Bool) (rs : List Rv) (env : Env), DT (rdC ms rs env)
  | [], [], _ => DT.pt _
  | false :: ms, .im d :: rs, env => (rdC_dt ms rs env).bind fun ds => DT.pt (d :: ds)
  | true :: ms, .fr d :: rs, env => ((rdC_dt ms rs env).bind fun ds => DT.pt (d :: ds)).and
  | true :: ms, .bo i :: rs, env => by
    show DT fun K => match env[i]? with
      | some (.ow d) => rdC ms rs env fun ds => K (d :: ds)
      | some (.io d) => rdC ms rs env fun ds => K (d :: ds)
      | _ => False
    split
    · next d _ => exact (rdC_dt ms rs env).bind fun ds => DT.pt (d :: ds)
    · next d _ => exact (rdC_dt ms rs env).bind fun ds => DT.pt (d :: ds)
    · exact DT.no
  | [], _ :: _, _ => DT.no
  | true :: _, [], _ => DT.no
  | false :: _, [], _ => DT.no
  | false :: _, .fr _ :: _, _ => DT.no
  | false :: _, .bo _ :: _, _ => DT.no
  | true :: _, .im _ :: _, _ => DT.no
theorem dBin_dt (op : Operator) (x y : D) : DT (dBin op x y) := by
  cases op <;> cases x <;> first
    | exact DT.no
    | (cases y <;> first
      | exact DT.no
      | exact DT.pt _
      | exact (DT.pt _).and)
theorem dIn_dt (x y : D) : DT (dIn x y) := by
  cases x <;> cases y <;> first
    | exact DT.no
    | exact DT.pt _
    | exact (DT.pt _).and
    | exact DT.ex fun k => DT.pt _
theorem dCmp_dt (op : CmpOp) (x y : D) : DT (dCmp op x y) := by
  cases op
  case In => exact dIn_dt x y
  case NotIn => exact (dIn_dt x y).bind fun b => DT.pt _
  all_goals
    cases x <;> cases y <;> first
      | exact DT.no
      | exact DT.pt _
      | exact (DT.pt _).and
theorem dIdx_dt (x y : D) : DT (dIdx x y) := by
  cases x <;> cases y <;> first
    | exact DT.no
    | exact DT.ex fun _ => DT.pt _
    | exact DT.and (DT.ex fun c => DT.pt _)
    | exact DT.ex fun _ => DT.ex fun _ => DT.pt _
theorem dSlc_dt (x : D) (lo hi : Option Int) : DT (dSlc x lo hi) := by
  cases x <;> first
    | exact DT.no
    | exact DT.pt _
    | exact (DT.pt _).and
theorem dSls_dt (x : D) (lo hi : Option Int) (c : Int) : DT (dSls x lo hi c) := by
  cases x <;> first
    | exact DT.no
    | exact (DT.pt _).and
    | exact ((DT.pt _).and).and.and
theorem dSet_dt (x y z : D) : DT (dSet x y z) := by
  cases x <;> cases y <;> first
    | exact DT.no
    | exact DT.ex fun _ => DT.pt _
    | exact DT.ex fun _ => DT.and (DT.pt _)
theorem dMt_dt (m : Mt) (x : D) (ds : List D) : DT (dMt m x ds) := by
  cases m <;> cases x <;> first
    | exact DT.no
    | (rcases ds with _ | ⟨a, _ | ⟨b, _ | ⟨c, r⟩⟩⟩ <;> first
      | exact DT.no
      | exact DT.ex fun _ => DT.pt _
      | exact DT.and (DT.ex fun _ => DT.pt _)
      | exact DT.ex fun _ => DT.and (DT.pt _)
      | (cases a <;> first
        | exact DT.no
        | exact DT.pt _
        | exact DT.and (DT.pt _)
        | exact DT.ex fun _ => DT.pt _
        | exact DT.and (DT.ex fun _ => DT.pt _)
        | exact DT.ex fun _ => DT.and (DT.pt _)))
theorem dMm_dt (m : Mm) (x : D) (ds : List D) : DT fun K : D × D → Prop => dMm m x ds fun a b => K (a, b) := by
  cases m <;> cases x <;> first
    | exact DT.no
    | skip
  · rename_i ls
    rcases ds with _ | ⟨a, _ | ⟨b, r⟩⟩ <;> first
      | exact DT.no
      | exact DT.and (DT.pt (D.lst (ls ++ [a]), D.non))
  · rename_i ls
    rcases ds with _ | ⟨a, _ | ⟨b, r⟩⟩ <;> first
      | exact DT.no
      | (cases a <;> first
        | exact DT.no
        | exact DT.and (DT.pt (D.lst (ls ++ _), D.non)))
  rotate_left
  · rename_i ls
    rcases ds with _ | ⟨a, _ | ⟨b, _ | ⟨c, r⟩⟩⟩ <;> first
      | exact DT.no
      | (cases a <;> first
        | exact DT.no
        | exact DT.and (DT.pt (D.lst (ls.take _ ++ [b] ++ ls.drop _), D.non)))
  · rename_i ls
    rcases ds with _ | ⟨a, _ | ⟨b, r⟩⟩ <;> first
      | exact DT.no
      | (cases a <;> first
        | exact DT.no
        | skip)
    rename_i k
    have e : ∀ K : D × D → Prop, dMm .remove (.lst ls) [.int k] (fun a b => K (a, b)) ↔ ∃ ns, intsD ls = some ns ∧ ∃ j, ns[j]? = some k ∧ (∀ m : Nat, m < j → ns[m]? ≠ some k) ∧ K (.lst (ls.eraseIdx j), .non) :=
      fun K => ⟨fun ⟨ns, j, h1, h2, h3, h4⟩ => ⟨ns, h1, j, h2, h3, h4⟩, fun ⟨ns, h1, j, h2, h3, h4⟩ => ⟨ns, j, h1, h2, h3, h4⟩⟩
    refine DT.congr (DT.ex fun ns => ?_) e
    by_cases h : ∃ j, ns[j]? = some k ∧ ∀ m : Nat, m < j → ns[m]? ≠ some k
    · obtain ⟨j, h1, h2⟩ := h
      refine .inr ⟨(.lst (ls.eraseIdx j), .non), fun K => ⟨fun ⟨i, g1, g2, g3⟩ => ?_, fun g => ⟨j, h1, h2, g⟩⟩⟩
      have : i = j := by
        rcases Nat.lt_trichotomy i j with q | q | q
        · exact (h2 i q g1).elim
        · exact q
        · exact (g2 j q h1).elim
      subst this; exact g3
    · exact .inl fun K ⟨j, g1, g2, _⟩ => h ⟨j, g1, g2⟩
theorem un_dt {u : D → (Rv → Prop) → Prop} (h : ∀ d, DT (u d)) (ds : List D) : DT (un u ds) := by
  rcases ds with _ | ⟨a, _ | ⟨b, r⟩⟩ <;> first
    | exact DT.no
    | exact h a
theorem bi_dt {u : D → D → (Rv → Prop) → Prop} (h : ∀ d e, DT (u d e)) (ds : List D) : DT (bi u ds) := by
  rcases ds with _ | ⟨a, _ | ⟨b, _ | ⟨c, r⟩⟩⟩ <;> first
    | exact DT.no
    | exact h a b
theorem ub_dt {u : D → (Rv → Prop) → Prop} {w : D → D → (Rv → Prop) → Prop} (h : ∀ d, DT (u d)) (g : ∀ d e, DT (w d e)) (ds : List D) : DT (ub u w ds) := by
  rcases ds with _ | ⟨a, _ | ⟨b, _ | ⟨c, r⟩⟩⟩ <;> first
    | exact DT.no
    | exact h a
    | exact g a b
/-- a least, a greatest one -/
theorem least_dt {ns : List Int} {le : Int → Int → Prop} (tot : ∀ a b, le a b ∨ le b a) (anti : ∀ a b, le a b → le b a → a = b) (tr : ∀ a b c, le a b → le b c → le a c) (f : Int → Rv) :
    DT (fun K : Rv → Prop => ns ≠ [] ∧ ∀ m ∈ ns, (∀ y ∈ ns, le m y) → K (f m)) := by
  by_cases h : ns = []
  · exact .inl fun K u => u.1 h
  · have : ∀ l : List Int, l ≠ [] → ∃ m ∈ l, ∀ y ∈ l, le m y := fun l => by
      induction l with
      | nil => exact fun h => (h rfl).elim
      | cons a l ih =>
        intro _
        by_cases e : l = []
        · subst e
          exact ⟨a, List.mem_cons_self, fun y hy => by rw [List.mem_singleton.mp hy]; exact (tot a a).elim id id⟩
        · obtain ⟨m, hm, h⟩ := ih e
          rcases tot a m with q | q
          · refine ⟨a, List.mem_cons_self, fun y hy => ?_⟩
            rcases List.mem_cons.mp hy with rfl | hy
            · exact (tot y y).elim id id
            · exact tr _ _ _ q (h y hy)
          · refine ⟨m, List.mem_cons_of_mem _ hm, fun y hy => ?_⟩
            rcases List.mem_cons.mp hy with rfl | hy
            · exact q
            · exact h y hy
    obtain ⟨m, hm, hl⟩ := this ns h
    exact .inr ⟨f m, fun K => ⟨fun u => u.2 m hm hl, fun k => ⟨h, fun m' hm' hl' => by rw [anti m' m (hl' m hm) (hl m' hm')]; exact k⟩⟩⟩
theorem sorted_dt {α : Type} {le : α → α → Bool} (tr : ∀ a b c, le a b = true → le b c = true → le a c = true) (tot : ∀ a b, (le a b || le b a) = true) {xs : List α} (anti : ∀ a b, a ∈ xs → b ∈ xs → le a b = true → le b a = true → a = b) (f : List α → Rv) :
    DT (fun K : Rv → Prop => ∀ l : List α, l.Perm xs → l.Pairwise (fun a b => le a b = true) → K (f l)) := by
  have hp := List.mergeSort_perm xs le
  have hs := List.pairwise_mergeSort tr tot xs
  refine .inr ⟨f (xs.mergeSort le), fun K => ⟨fun u => u _ hp hs, fun k l h1 h2 => ?_⟩⟩
  have := List.Perm.eq_of_pairwise (fun a b ha hb => anti a b (h1.mem_iff.mp ha) (hp.mem_iff.mp hb)) h2 hs (h1.trans hp.symm)
  rw [this]; exact k
theorem ltC_eq : ∀ a b : List Nat, PySem.Spec.ltCps a b = decide (a < b)
  | [], [] => by simp [PySem.Spec.ltCps]
  | [], _ :: _ => by simp [PySem.Spec.ltCps]
  | _ :: _, [] => by simp [PySem.Spec.ltCps]
  | a :: r, b :: t => by
    rw [PySem.Spec.ltCps, ltC_eq r t, Bool.eq_iff_iff]
    simp [List.cons_lt_cons_iff]
def leS (x y : Str) : Bool := !decide (y.cps.toList < x.cps.toList)
theorem leS_trans (a b c : Str) (h1 : leS a b = true) (h2 : leS b c = true) : leS a c = true := by
  unfold leS at *
  simp only [Bool.not_eq_true', decide_eq_false_iff_not] at *
  intro h
  rcases Std.lt_trichotomy b.cps.toList c.cps.toList with q | q | q
  · exact h1 (List.lt_trans q h)
  · rw [q] at h1; exact h1 h
  · exact h2 q
theorem leS_total (a b : Str) : (leS a b || leS b a) = true := by
  unfold leS
  by_cases h : b.cps.toList < a.cps.toList
  · have : ¬ a.cps.toList < b.cps.toList := fun q => List.lt_irrefl _ (List.lt_trans h q)
    rw [decide_eq_false this]; simp
  · rw [decide_eq_false h]; rfl
theorem leS_anti (a b : Str) (h1 : leS a b = true) (h2 : leS b a = true) : a = b := by
  unfold leS at *
  simp only [Bool.not_eq_true', decide_eq_false_iff_not] at *
  rcases Std.lt_trichotomy a.cps.toList b.cps.toList with q | q | q
  · exact (h2 q).elim
  · cases a; cases b; simp at q; simp [q]
  · exact (h1 q).elim
theorem risingS_iff : ∀ (l : List Str) (p : Str), PyProof.Rows.risingS p l = true ↔ (p :: l).Pairwise (fun a b => leS a b = true)
  | [], p => by simp [PyProof.Rows.risingS]
  | x :: r, p => by
    rw [PyProof.Rows.risingS, Bool.and_eq_true, ltC_eq, risingS_iff r x, List.pairwise_cons (l := x :: r)]
    refine ⟨fun ⟨h1, h2⟩ => ⟨fun y hy => ?_, h2⟩, fun ⟨h1, h2⟩ => ⟨h1 x List.mem_cons_self, h2⟩⟩
    rcases List.mem_cons.mp hy with rfl | hy
    · exact h1
    · exact leS_trans _ _ _ h1 ((List.pairwise_cons.mp h2).1 y hy)
theorem sortedS_iff (l : List Str) : PyProof.Rows.sortedS l = true ↔ l.Pairwise (fun a b => leS a b = true) := by
  cases l with
  | nil => simp [PyProof.Rows.sortedS]
  | cons p l => exact risingS_iff l p
theorem itLt_irr (a : Int ⊕ List Nat) : itLt a a = false := by cases a <;> simp [itLt, List.lt_irrefl]
theorem itLt_tri (a b : Int ⊕ List Nat) : itLt a b = true ∨ a = b ∨ itLt b a = true := by
  cases a <;> cases b <;> simp only [itLt, decide_eq_true_eq, Sum.inl.injEq, Sum.inr.injEq]
  · omega
  · exact .inl trivial
  · exact .inr (.inr trivial)
  · exact Std.lt_trichotomy _ _
theorem itLt_tr (a b c : Int ⊕ List Nat) (h1 : itLt a b = true) (h2 : itLt b c = true) : itLt a c = true := by
  cases a <;> cases b <;> cases c <;> simp only [itLt, decide_eq_true_eq] at * <;> first
    | omega
    | rfl
    | (cases h1; done)
    | (cases h2; done)
    | exact List.lt_trans h1 h2
theorem itLt_as (a b : Int ⊕ List Nat) (h : itLt a b = true) : itLt b a = false := by
  cases q : itLt b a with
  | false => rfl
  | true => have := itLt_tr a b a h q; rw [itLt_irr] at this; cases this
theorem rowLt_cons {x y : Int ⊕ List Nat} {r t : List (Int ⊕ List Nat)} : rowLt (x :: r) (y :: t) = true ↔ itLt x y = true ∨ (x = y ∧ rowLt r t = true) := by
  rw [rowLt, Bool.or_eq_true, Bool.and_eq_true, Bool.not_eq_true']
  constructor
  · rintro (h | ⟨h1, h2⟩)
    · exact .inl h
    · rcases itLt_tri x y with q | q | q
      · exact .inl q
      · exact .inr ⟨q, h2⟩
      · rw [q] at h1; cases h1
  · rintro (h | ⟨rfl, h⟩)
    · exact .inl h
    · exact .inr ⟨itLt_irr x, h⟩
theorem rowLt_irr : ∀ a : List (Int ⊕ List Nat), rowLt a a = false
  | [] => rfl
  | x :: r => by rw [rowLt, itLt_irr, rowLt_irr r]; rfl
theorem rowLt_tri : ∀ a b : List (Int ⊕ List Nat), rowLt a b = true ∨ a = b ∨ rowLt b a = true
  | [], [] => .inr (.inl rfl)
  | [], _ :: _ => .inl rfl
  | _ :: _, [] => .inr (.inr rfl)
  | x :: r, y :: t => by
    rcases itLt_tri x y with q | q | q
    · exact .inl (rowLt_cons.mpr (.inl q))
    · subst q
      rcases rowLt_tri r t with h | h | h
      · exact .inl (rowLt_cons.mpr (.inr ⟨rfl, h⟩))
      · exact .inr (.inl (by rw [h]))
      · exact .inr (.inr (rowLt_cons.mpr (.inr ⟨rfl, h⟩)))
    · exact .inr (.inr (rowLt_cons.mpr (.inl q)))
theorem rowLt_tr : ∀ a b c : List (Int ⊕ List Nat), rowLt a b = true → rowLt b c = true → rowLt a c = true
  | [], [], _, h, _ => nomatch h
  | [], _ :: _, [], _, h => nomatch h
  | [], _ :: _, _ :: _, _, _ => rfl
  | _ :: _, [], _, h, _ => nomatch h
  | _ :: _, _ :: _, [], _, h => nomatch h
  | x :: r, y :: t, z :: u, h1, h2 => by
    rw [rowLt_cons] at h1 h2 ⊢
    rcases h1 with h1 | ⟨rfl, h1⟩
    · rcases h2 with h2 | ⟨rfl, h2⟩
      · exact .inl (itLt_tr _ _ _ h1 h2)
      · exact .inl h1
    · rcases h2 with h2 | ⟨rfl, h2⟩
      · exact .inl h2
      · exact .inr ⟨rfl, rowLt_tr _ _ _ h1 h2⟩
def leR (x y : List D) : Bool := !rowLt (y.map kyD) (x.map kyD)
theorem leR_iff {x y : List D} : leR x y = true ↔ rowLt (y.map kyD) (x.map kyD) = false := by unfold leR; simp
theorem leR_trans (a b c : List D) (h1 : leR a b = true) (h2 : leR b c = true) : leR a c = true := by
  rw [leR_iff] at *
  cases q : rowLt (c.map kyD) (a.map kyD) with
  | false => rfl
  | true =>
    rcases rowLt_tri (a.map kyD) (b.map kyD) with h | h | h
    · have := rowLt_tr _ _ _ q h; rw [h2] at this; cases this
    · rw [h] at q; rw [h2] at q; cases q
    · rw [h1] at h; cases h
theorem leR_total (a b : List D) : (leR a b || leR b a) = true := by
  rw [Bool.or_eq_true, leR_iff, leR_iff]
  cases q : rowLt (b.map kyD) (a.map kyD) with
  | false => exact .inl rfl
  | true =>
    refine .inr ?_
    cases q2 : rowLt (a.map kyD) (b.map kyD) with
    | false => rfl
    | true => have := rowLt_tr _ _ _ q q2; rw [rowLt_irr] at this; cases this
theorem shD_inj {shape : Nat → Bool} : ∀ {i : Nat} {x y : List D}, shD shape i x = true → shD shape i y = true → x.map kyD = y.map kyD → x = y
  | _, [], [], _, _, _ => rfl
  | _, [], _ :: _, _, _, e => by cases e
  | _, _ :: _, [], _, _, e => by cases e
  | i, a :: x, b :: y, h1, h2, e => by
    rw [List.map_cons, List.map_cons] at e
    obtain ⟨e1, e2⟩ := List.cons.inj e
    have one : ∀ {c : D} {r : List D}, shD shape i (c :: r) = true → ((∃ n, c = .int n) ∨ ∃ z, c = .str z) ∧ shD shape (i + 1) r = true := fun {c r} h => by
      cases c <;> simp only [shD] at h <;> first
        | (cases h; done)
        | skip
      · rw [Bool.and_eq_true] at h; exact ⟨.inl ⟨_, rfl⟩, h.2⟩
      · rw [Bool.and_eq_true] at h; exact ⟨.inr ⟨_, rfl⟩, h.2⟩
    obtain ⟨ca, ra⟩ := one h1
    obtain ⟨cb, rb⟩ := one h2
    have := shD_inj ra rb e2
    subst this
    have : a = b := by
      rcases ca with ⟨n, rfl⟩ | ⟨n, rfl⟩ <;> rcases cb with ⟨m, rfl⟩ | ⟨m, rfl⟩
      · have := Sum.inl.inj e1; rw [this]
      · cases e1
      · cases e1
      · have e1 := Sum.inr.inj e1
        cases n; cases m; simp at e1; simp [e1]
    rw [this]
theorem leR_anti {shape : Nat → Bool} {x y : List D} (hx : shD shape 0 x = true) (hy : shD shape 0 y = true) (h1 : leR x y = true) (h2 : leR y x = true) : x = y := by
  rw [leR_iff] at *
  refine shD_inj hx hy ?_
  rcases rowLt_tri (x.map kyD) (y.map kyD) with q | q | q
  · rw [h2] at q; cases q
  · exact q
  · rw [h1] at q; cases q
/-- rows: ints and texts, each place the same kind -/
theorem rows_dt (ds : List D) : DT (fun K : Rv → Prop => ∃ (shape : Nat → Bool) (rows : List (List D)), ds = rows.map .tup ∧ (∀ r ∈ rows, r ≠ [] ∧ shD shape 0 r = true) ∧ ∀ rows' : List (List D), rows'.Perm rows → rows'.Pairwise (fun x y => rowLt (y.map kyD) (x.map kyD) = false) → K (.fr (.lst (rows'.map .tup)))) := by
  by_cases h : ∃ (shape : Nat → Bool) (rows : List (List D)), ds = rows.map .tup ∧ ∀ r ∈ rows, r ≠ [] ∧ shD shape 0 r = true
  · obtain ⟨shape, rows, e, hr⟩ := h
    have key := sorted_dt (le := leR) leR_trans leR_total (xs := rows) (fun a b ha hb => leR_anti (hr a ha).2 (hr b hb).2) (fun l => .fr (.lst (l.map .tup)))
    refine key.congr fun K => ⟨fun ⟨sh, rs, e', _, h⟩ l h1 h2 => ?_, fun h => ⟨shape, rows, e, hr, fun l h1 h2 => h l h1 (h2.imp fun q => leR_iff.mpr q)⟩⟩
    have : rs = rows := by
      have inj : ∀ {a b : List (List D)}, a.map D.tup = b.map D.tup → a = b := fun {a b} h => by
        induction a generalizing b with
        | nil => cases b with | nil => rfl | cons _ _ => cases h
        | cons x a ih =>
          cases b with
          | nil => cases h
          | cons y b =>
            obtain ⟨h1, h2⟩ := List.cons.inj h
            rw [D.tup.inj h1, ih h2]
      exact inj (e'.symm.trans e)
    subst this
    exact h l h1 (h2.imp fun q => leR_iff.mp q)
  · exact .inl fun K ⟨sh, rs, e, hr, _⟩ => h ⟨sh, rs, e, hr⟩
theorem ints_dt (ds : List D) : DT (fun K : Rv → Prop => ∃ ns, intsD ds = some ns ∧ ns.length < 64 ∧ ∀ ms : List Int, ms.Perm ns → ms.Pairwise (· ≤ ·) → K (.fr (.lst (ms.map .int)))) := by
  refine DT.ex fun ns => DT.and ?_
  refine (sorted_dt (le := fun a b : Int => decide (a ≤ b)) (fun a b c h1 h2 => by simp at *; omega) (fun a b => by simp; omega) (xs := ns) (fun a b _ _ h1 h2 => by simp at *; omega) (fun l => .fr (.lst (l.map .int)))).congr fun K => ?_
  exact ⟨fun h l h1 h2 => h l h1 (h2.imp fun q => of_decide_eq_true q), fun h l h1 h2 => h l h1 (h2.imp fun q => decide_eq_true q)⟩
theorem srt_dt (xs : List Str) : DT (fun K : Rv → Prop => ∀ ys : List Str, ys.Perm xs → PyProof.Rows.sortedS ys = true → K (.fr (.lst (ys.map .str)))) := by
  refine (sorted_dt (le := leS) leS_trans leS_total (xs := xs) (fun a b _ _ => leS_anti a b) (fun l => .fr (.lst (l.map .str)))).congr fun K => ?_
  exact ⟨fun h l h1 h2 => h l h1 ((sortedS_iff l).mpr h2), fun h l h1 h2 => h l h1 ((sortedS_iff l).mp h2)⟩
theorem strs_dt (ds : List D) : DT (fun K : Rv → Prop => ∃ xs, strsD ds = some xs ∧ xs.length < 64 ∧ ∀ ys : List Str, ys.Perm xs → PyProof.Rows.sortedS ys = true → K (.fr (.lst (ys.map .str)))) := DT.ex fun xs => DT.and (srt_dt xs)
/-- of ways of which one at most is open, or all alike -/
theorem DT.or {ω : Type} {U U' : (ω → Prop) → Prop} (h : DT U) (h' : DT U') (no : ∀ K K', U K → U' K' → ∃ o, (∀ K, U K ↔ K o) ∧ ∀ K, U' K ↔ K o) : DT (fun K => U K ∨ U' K) := by
  rcases h with h | ⟨o, h⟩
  · exact h'.congr fun K => ⟨fun u => u.elim (fun u => (h K u).elim) id, .inr⟩
  · rcases h' with h' | ⟨o', h'⟩
    · exact .inr ⟨o, fun K => ⟨fun u => u.elim (fun u => (h K).mp u) fun u => (h' K u).elim, fun k => .inl ((h K).mpr k)⟩⟩
    · obtain ⟨a, e1, e2⟩ := no (fun x => x = o) (fun x => x = o') ((h _).mpr rfl) ((h' _).mpr rfl)
      exact .inr ⟨a, fun K => ⟨fun u => u.elim (fun u => (e1 K).mp u) fun u => (e2 K).mp u, fun k => .inl ((e1 K).mpr k)⟩⟩
theorem u_sorted_dt (d : D) : DT (u_sorted d) := by
  cases d <;> first
    | exact DT.no
    | skip
  · rename_i ds
    cases ds with
    | nil =>
      have p0 : ∀ {α : Type} {l : List α}, l.Perm [] → l = [] := fun h => List.Perm.eq_nil h
      refine .inr ⟨.fr (.lst []), fun K => ⟨fun u => ?_, fun k => .inr ⟨[], rfl, by decide, fun ms h _ => by rw [p0 h]; exact k⟩⟩⟩
      rcases u with ⟨sh, rows, e, _, h⟩ | ⟨xs, e, _, h⟩
      · have : rows = [] := by cases rows with | nil => rfl | cons _ _ => cases e
        subst this
        exact h [] List.Perm.nil List.Pairwise.nil
      · cases e; exact h [] List.Perm.nil rfl
    | cons a ds =>
      refine DT.or (rows_dt _) (strs_dt _) fun K K' ⟨sh, rows, e', _⟩ ⟨xs, e, _⟩ => ?_
      cases rows with
      | nil => cases e'
      | cons r rows =>
        obtain ⟨rfl, _⟩ := List.cons.inj e'
        cases e
  · rename_i ds
    -- an empty list is all three
    cases ds with
    | nil =>
      have p0 : ∀ {α : Type} {l : List α}, l.Perm [] → l = [] := fun h => List.Perm.eq_nil h
      refine .inr ⟨.fr (.lst []), fun K => ⟨fun u => ?_, fun k => .inl ⟨[], rfl, by decide, fun ms h _ => by rw [p0 h]; exact k⟩⟩⟩
      rcases u with ⟨ns, e, _, h⟩ | ⟨xs, e, _, h⟩ | ⟨sh, rows, e, _, h⟩
      · cases e; exact h [] List.Perm.nil List.Pairwise.nil
      · cases e; exact h [] List.Perm.nil rfl
      · have : rows = [] := by cases rows with | nil => rfl | cons _ _ => cases e
        subst this
        exact h [] List.Perm.nil List.Pairwise.nil
    | cons a ds =>
      refine DT.or (ints_dt _) (DT.or (strs_dt _) (rows_dt _) fun K K' ⟨xs, e, _⟩ ⟨sh, rows, e', _⟩ => ?_) fun K K' ⟨ns, e, _⟩ u => ?_
      · cases rows with
        | nil => cases e'
        | cons r rows =>
          obtain ⟨rfl, _⟩ := List.cons.inj e'
          cases e
      · rcases u with ⟨xs, e', _⟩ | ⟨sh, rows, e', _⟩
        · cases a <;> first
            | (cases e; done)
            | (cases e'; done)
        · cases rows with
          | nil => cases e'
          | cons r rows =>
            obtain ⟨rfl, _⟩ := List.cons.inj e'
            cases e
  · rename_i kvs
    by_cases h : ∃ ks : List Str, kvs.map (·.1) = ks.map Sum.inr
    · obtain ⟨ks, e⟩ := h
      refine (DT.and (p := ks.length < 64) (srt_dt ks)).congr fun K => ⟨fun ⟨ks', e', l, h⟩ => ?_, fun ⟨l, h⟩ => ⟨ks, e, l, h⟩⟩
      have inj : ∀ {a b : List Str}, a.map (Sum.inr : Str → Int ⊕ Str) = b.map Sum.inr → a = b := fun {a b} h => by
        induction a generalizing b with
        | nil => cases b with | nil => rfl | cons _ _ => cases h
        | cons x a ih =>
          cases b with
          | nil => cases h
          | cons y b =>
            obtain ⟨h1, h2⟩ := List.cons.inj h
            rw [Sum.inr.inj h1, ih h2]
      have := inj (e'.symm.trans e)
      subst this
      exact ⟨l, h⟩
    · exact .inl fun K ⟨ks, e, _⟩ => h ⟨ks, e⟩
theorem dBlt_dt (b : Bt) (ds : List D) : DT (dBlt b ds) := by
  cases b <;> first
    | exact DT.no
    | skip
  case len => exact un_dt (fun d => by cases d <;> first | exact DT.no | exact DT.pt _ | exact (DT.pt _).and) ds
  case abs => exact un_dt (fun d => by cases d <;> first | exact DT.no | exact DT.pt _) ds
  case min =>
    refine ub_dt (fun d => ?_) (fun d e => by cases d <;> cases e <;> first | exact DT.no | exact DT.pt _) ds
    cases d <;> first
      | exact DT.no
      | skip
    · rename_i ds
      rcases ds with _ | ⟨d1, _ | ⟨d2, _ | ⟨d3, r0⟩⟩⟩
      · exact DT.no
      · cases d1 <;> exact DT.no
      · cases d1 <;> cases d2 <;> first | exact DT.no | exact (DT.pt _).and
      · cases d1 <;> cases d2 <;> exact DT.no
    rename_i l
    have hi : DT (fun (K : Rv → Prop) => ∃ ns : List Int, intsD l = some ns ∧ ns ≠ [] ∧ ∀ m ∈ ns, (∀ y ∈ ns, m ≤ y) → K (Rv.im (D.int m))) := DT.ex fun ns => least_dt (le := fun a b => a ≤ b) (by intros; omega) (by intros; omega) (by intros; omega) (fun m => .im (.int m))
    show DT (u_minL l)
    cases l with
    | nil => exact hi
    | cons d r => cases d <;> first | exact hi | exact (DT.pt _).and
  case max =>
    refine ub_dt (fun d => ?_) (fun d e => by cases d <;> cases e <;> first | exact DT.no | exact DT.pt _) ds
    cases d <;> first
      | exact DT.no
      | exact DT.ex fun ns => least_dt (le := fun a b => b ≤ a) (by intros; omega) (by intros; omega) (by intros; omega) (fun m => .im (.int m))
      | skip
    rename_i ds
    rcases ds with _ | ⟨d1, _ | ⟨d2, _ | ⟨d3, r0⟩⟩⟩
    · exact DT.no
    · cases d1 <;> exact DT.no
    · cases d1 <;> cases d2 <;> first | exact DT.no | exact (DT.pt _).and
    · cases d1 <;> cases d2 <;> exact DT.no
  case sum => exact un_dt (fun d => by cases d <;> first | exact DT.no | exact DT.ex fun _ => DT.pt _) ds
  case all => exact un_dt (fun d => by cases d <;> first | exact DT.no | exact DT.ex fun _ => DT.pt _) ds
  case any => exact un_dt (fun d => by cases d <;> first | exact DT.no | exact DT.ex fun _ => DT.pt _) ds
  case sorted => exact un_dt u_sorted_dt ds
  case tuple => exact un_dt (fun d => by cases d <;> first | exact DT.no | exact DT.pt _) ds
  case list => exact un_dt (fun d => by cases d <;> first | exact DT.no | exact DT.pt _) ds
  case dict => exact un_dt (fun d => by cases d <;> first | exact DT.no | exact DT.pt _ | exact DT.ex fun _ => DT.pt _) ds
  case int => exact un_dt (fun d => by cases d <;> first | exact DT.no | exact DT.pt _ | exact DT.ex fun _ => DT.and (DT.pt _)) ds
  case str => exact un_dt (fun d => by cases d <;> first | exact DT.no | exact (DT.pt _).and) ds
  case repr => exact un_dt (fun d => by cases d <;> first | exact DT.no | exact (DT.pt _).and | exact DT.pt _) ds
  case divmod => exact bi_dt (fun d e => by cases d <;> cases e <;> first | exact DT.no | exact (DT.pt _).and) ds
  case tupp => exact un_dt (fun d => by cases d <;> first | exact DT.no | exact DT.pt _) ds
end TG
end
section
namespace TG
open PySem

def FDet (fi : FI) : Prop := ∀ ds, DT (ω := (XD × List D) ⊕ (Rv × List D)) fun K => fi.sp ds (fun r fs => K (.inr (r, fs))) (fun x fs => K (.inl (x, fs)))
def GDet (Γ : Ga) : Prop := ∀ f fi, Γ.fn f = some fi → FDet fi
structure SeDet (s : Se) : Prop where
  E : ∀ env, DW fun R Q => s.E R env Q
  T : ∀ env, DW fun R Q => s.T R env Q
  A : ∀ env, DW fun R Q => s.A R env Q
  B : ∀ env, DW fun R Q => s.B R env Q
  C : ∀ ms env, DW fun R Q => s.C R ms env Q
  O : ∀ env, DW fun R Q => s.O R env Q
  I : ∀ env, DW (α := List Nat × List D) fun R Q => s.I R env fun is ds e => Q (is, ds) e
theorem DW.ex' {α ω : Type} {f : Option ω} {V : ω → XP → (α → Env → Prop) → Prop} (h : ∀ a, f = some a → DW (V a)) : DW (fun R Q => ∃ a, f = some a ∧ V a R Q) := by
  cases f with
  | none => exact .inl fun K ⟨a, e, _⟩ => nomatch e
  | some a => exact DT.congr (h a rfl) fun K => ⟨fun ⟨b, e, w⟩ => by cases e; exact w, fun w => ⟨a, rfl, w⟩⟩
theorem srcR_dt (r : Rv) (env : Env) : DT fun K : List Nat × D → Prop => srcR r env fun is d => K (is, d) := by
  unfold srcR
  cases r with
  | im d => exact DT.pt ([], d)
  | fr d => exact DT.pt ([], d)
  | bo i =>
    simp only
    split
    · next d _ => exact DT.pt ([i], d)
    · next d _ => exact DT.pt ([i], d)
    · next d _ => exact DT.pt ([], d)
    · exact DT.no
theorem srcW {α : Type} {r : Rv} {env : Env} {V : List Nat → D → XP → (α → Env → Prop) → Prop} (g : ∀ is d, DW (V is d)) : DW fun R Q => srcR r env fun is d => V is d R Q :=
  DT.bindW (U := fun K => srcR r env fun is d => K (is, d)) (V := fun o => V o.1 o.2) (srcR_dt r env) fun o => g o.1 o.2
theorem fzW {α : Type} {r : Rv} {env : Env} {V : D → Env → XP → (α → Env → Prop) → Prop} (g : ∀ d e, DW (V d e)) : DW fun R Q => fz r env fun d e => V d e R Q :=
  DT.bindW (U := fun K => fz r env fun d e => K (d, e)) (V := fun o => V o.1 o.2) (fz_dt r env) fun o => g o.1 o.2
theorem int_dw {α : Type} (x : D) {V : Int → XP → (α → Env → Prop) → Prop} (g : ∀ i, DW (V i)) : DW fun R Q => ∃ i, x = .int i ∧ V i R Q := by
  cases x
  case int i => exact DT.congr (g i) fun K => ⟨fun ⟨j, e, w⟩ => by cases e; exact w, fun w => ⟨i, rfl, w⟩⟩
  all_goals exact .inl fun K ⟨j, e, _⟩ => nomatch e
theorem SeDet.ofE {E : XP → Env → (Rv → Env → Prop) → Prop} (h : ∀ env, DW fun R Q => E R env Q) : SeDet (ofE E) where
  E := h
  T := fun env => (h env).bind fun r e1 => (rd_dt r e1).bindW fun d => DW.ex fun k => DW.pt k e1
  A := fun _ => DW.no
  B := fun _ => DW.no
  C := fun _ _ => DW.no
  O := fun env => (h env).bind fun r e1 => (rd_dt r e1).bindW fun x => int_dw x fun i => DW.pt (some i) e1
  I := fun env => (h env).bind fun r e1 => srcW fun is x => DW.ex fun xs => DW.pt (is, xs) e1
theorem SeDet.ofI {I : XP → Env → (List Nat → List D → Env → Prop) → Prop} (h : ∀ env, DW (α := List Nat × List D) fun R Q => I R env fun is ds e => Q (is, ds) e) : SeDet (ofI I) :=
  { SeDet.ofE (fun _ => DW.no) with I := h }
theorem I_bind {β : Type} {I : XP → (List Nat → List D → Env → Prop) → Prop} {V : List Nat → List D → Env → XP → (β → Env → Prop) → Prop} (h : DW (α := List Nat × List D) fun R Q => I R fun is ds e => Q (is, ds) e) (g : ∀ is ds e, DW (V is ds e)) : DW fun R Q => I R fun is ds e => V is ds e R Q :=
  DW.bind (W := fun R Q => I R fun is ds e => Q (is, ds) e) (V := fun o e => V o.1 o.2 e) h fun o e => g o.1 o.2 e
theorem stS_dt (j : Nat) (r : Rv) (env : Env) : DT (stS j r env) := by
  unfold stS
  split
  · exact DT.no
  · exact DT.no
  · exact DT.no
  · cases r with
    | im d => exact DT.pt _
    | fr d => exact DT.pt _
    | bo i =>
      simp only
      split
      · split
        · exact DT.pt _
        · exact DT.pt _
      · exact DT.pt _
      · exact DT.no
theorem wrS_dt (i : Nat) (env : Env) (f : D → (D → Prop) → Prop) (h : ∀ d, DT (f d)) : DT (wrS i env f) := by
  unfold wrS
  split
  · exact (h _).bind fun d => DT.pt _
  · exact (h _).bind fun d => DT.pt _
  · exact DT.no
mutual
theorem bindT_dt : ∀ (t : Tg) (d : D) (env : Env), DT (bindT t d env)
  | .nm j, d, env => (stS_dt j (.im d) env).congr fun K => by rw [bindT]
  | .sub i k, d, env => (wrS_dt i env _ fun x => dSet_dt x (.int k) d).congr fun K => by rw [bindT]
  | .tp ts, d, env => by
    cases d
    case tup ds => exact (DT.and (p := ds.length = ts.len) (bindTs_dt ts ds env)).congr fun K => by rw [bindT]
    case lst ds => exact (DT.and (p := ds.length = ts.len) (bindTs_dt ts ds env)).congr fun K => by rw [bindT]
    all_goals exact DT.no.congr fun K => by simp only [bindT]
  | .nil, _, _ => DT.no.congr fun K => by simp only [bindT]
  | .cons _ _, _, _ => DT.no.congr fun K => by simp only [bindT]
theorem bindTs_dt : ∀ (t : Tg) (ds : List D) (env : Env), DT (bindTs t ds env)
  | .nil, [], env => (DT.pt env).congr fun K => by rw [bindTs]
  | .nil, _ :: _, _ => DT.no.congr fun K => by simp only [bindTs]
  | .cons a b, [], _ => DT.no.congr fun K => by simp only [bindTs]
  | .cons a b, d :: ds, env => ((bindT_dt a d env).bind fun e => bindTs_dt b ds e).congr fun K => by rw [bindTs]
  | .nm _, _, _ => DT.no.congr fun K => by simp only [bindTs]
  | .sub _ _, _, _ => DT.no.congr fun K => by simp only [bindTs]
  | .tp _, _, _ => DT.no.congr fun K => by simp only [bindTs]
end
theorem compW_dt {turn : D → Env → (Option D → Env → Prop) → Prop} {ok : Env → Prop} (h : ∀ d e, DT fun K : Option D × Env → Prop => turn d e fun o e => K (o, e)) : ∀ (ds acc : List D) (env : Env), DT fun K : List D × Env → Prop => compW turn ok ds acc env fun a e => K (a, e)
  | [], acc, env => DT.and (DT.pt (acc, env))
  | d :: ds, acc, env => DT.and (DT.bind (U := fun K => turn d env fun o e => K (o, e)) (V := fun oe K => compW turn ok ds (match oe.1 with | some y => acc ++ [y] | none => acc) oe.2 fun a e => K (a, e)) (h d env) fun oe => compW_dt h ds _ oe.2)
theorem turn_dt {vs : List Nat} {tg : Tg} {sc se : Se} (hc : SeDet sc) (he : SeDet se) (d : D) (e2 : Env) :
    DT fun K : Option D × Env → Prop => bindT tg d (wipeE e2 vs) fun e3 => sc.T noX e3 fun b e4 => if b = true then se.E noX e4 fun r e5 => fz r e5 fun y e6 => K (some y, e6) else K (none, e4) :=
  (bindT_dt tg d _).bind fun e3 => DT.bind (U := fun K => sc.T noX e3 fun b e4 => K (b, e4)) (V := fun be K => if be.1 = true then se.E noX be.2 fun r e5 => fz r e5 fun y e6 => K (some y, e6) else K (none, be.2)) (hc.T e3).shut
    fun be => DT.ite (DT.bind (U := fun K => se.E noX be.2 fun r e5 => K (r, e5)) (V := fun re K => fz re.1 re.2 fun y e6 => K (some y, e6)) (he.E be.2).shut fun re => DT.bind (U := fun K => fz re.1 re.2 fun y e6 => K (y, e6)) (V := fun ye K => K (some ye.1, ye.2)) (fz_dt re.1 re.2) fun ye => DT.pt (some ye.1, ye.2)) (DT.pt (none, be.2))
section
variable {Γ : Ga}
theorem sem_det (hΓ : GDet Γ) : ∀ ex : Ex, SeDet (sem Γ ex) := by
  intro ex
  induction ex with
  | var i =>
    refine SeDet.ofE fun env => ?_
    show DW fun (R : XP) (Q : Rv → Env → Prop) => match env[i]? with
      | some (.im d) => Q (.im d) env
      | some .un => False
      | some _ => Q (.bo i) env
      | none => False
    split <;> first | exact DW.pt _ _ | exact DW.no
  | cint i => exact SeDet.ofE fun env => DW.pt _ _
  | cstr x => exact SeDet.ofE fun env => DW.pt _ _
  | cbl b => exact SeDet.ofE fun env => DW.pt _ _
  | cnon => exact SeDet.ofE fun env => DW.pt _ _
  | glob x => exact SeDet.ofE fun env => DW.ex fun d => DW.pt _ _
  | bin op a b ha hb => exact SeDet.ofE fun env => (ha.E env).bind fun r e1 => (hb.E e1).bind fun r2 e2 => (rd_dt r e2).bindW fun x => (rd_dt r2 e2).bindW fun y => (dBin_dt op x y).bindW fun z => DW.pt z e2
  | neg a ha => exact SeDet.ofE fun env => (ha.E env).bind fun r e1 => (rd_dt r e1).bindW fun x => int_dw x fun i => DW.pt _ e1
  | cmp op a b ha hb => exact SeDet.ofE fun env => (ha.E env).bind fun r e1 => (hb.E e1).bind fun r2 e2 => (rd_dt r e2).bindW fun x => (rd_dt r2 e2).bindW fun y => (dCmp_dt op x y).bindW fun z => DW.pt _ e2
  | chain op op' a b c ha hb hc =>
    exact SeDet.ofE fun env => (ha.E env).bind fun r e1 => (hb.E e1).bind fun r2 e2 => (rd_dt r e2).bindW fun x => (rd_dt r2 e2).bindW fun y => (dCmp_dt op x y).bindW fun k =>
      DW.ite ((hc.E e2).bind fun r3 e3 => (rd_dt r2 e3).bindW fun y => (rd_dt r3 e3).bindW fun z => (dCmp_dt op' y z).bindW fun k => DW.pt _ e3) (DW.pt _ e2)
  | andn a b ha hb =>
    exact { SeDet.ofE (E := fun R env Q => (sem Γ a).E R env fun r e1 => rd r e1 fun d => ∃ k, dTru d = some k ∧ if k = true then (sem Γ b).E R e1 Q else Q r e1) (fun env => (ha.E env).bind fun r e1 => (rd_dt r e1).bindW fun d => DW.ex fun k => DW.ite (hb.E e1) (DW.pt r e1)) with
      T := fun env => (ha.T env).bind fun k e1 => DW.ite (hb.T e1) (DW.pt _ e1) }
  | orn a b ha hb =>
    exact { SeDet.ofE (E := fun R env Q => (sem Γ a).E R env fun r e1 => rd r e1 fun d => ∃ k, dTru d = some k ∧ if k = true then Q r e1 else (sem Γ b).E R e1 Q) (fun env => (ha.E env).bind fun r e1 => (rd_dt r e1).bindW fun d => DW.ex fun k => DW.ite (DW.pt r e1) (hb.E e1)) with
      T := fun env => (ha.T env).bind fun k e1 => DW.ite (DW.pt _ e1) (hb.T e1) }
  | notn a ha =>
    exact { SeDet.ofE (E := fun R env Q => (sem Γ a).E R env fun r e1 => rd r e1 fun d => ∃ k, dTru d = some k ∧ Q (.im (.bl (!k))) e1) (fun env => (ha.E env).bind fun r e1 => (rd_dt r e1).bindW fun d => DW.ex fun k => DW.pt _ e1) with
      T := fun env => (ha.T env).bind fun k e1 => DW.pt _ e1 }
  | ife c a b hc ha hb =>
    exact { SeDet.ofE (E := fun R env Q => (sem Γ c).T R env fun k e1 => if k = true then (sem Γ a).E R e1 Q else (sem Γ b).E R e1 Q) (fun env => (hc.T env).bind fun k e1 => DW.ite (ha.E e1) (hb.E e1)) with
      T := fun env => (hc.T env).bind fun k e1 => DW.ite (ha.T e1) (hb.T e1) }
  | tupn as h => exact SeDet.ofE fun env => (h.A env).bind fun ds e1 => DW.and (DW.pt _ e1)
  | lstn as h => exact SeDet.ofE fun env => (h.A env).bind fun ds e1 => DW.and (DW.pt _ e1)
  | dnew t => exact SeDet.ofE fun env => DW.pt _ env
  | dctn k v hk hv => exact SeDet.ofE fun env => (hk.E env).bind fun r e1 => fzW fun x e2 => (hv.E e2).bind fun r2 e3 => fzW fun y e4 => DW.ex fun kk => DW.pt _ e4
  | dctw k v k' v' hk hv hk' hv' =>
    refine SeDet.ofE fun env => (hk.E env).bind fun r e1 => fzW fun x e2 => (hv.E e2).bind fun r2 e3 => fzW fun y e4 => (hk'.E e4).bind fun r e1 => fzW fun x' e2 => (hv'.E e2).bind fun r2 e3 => fzW fun y' e4 => ?_
    refine DT.congr (DW.ex (f := keyD x) fun kk => DW.ex (f := keyD x') fun kk' => DW.pt (α := Rv) (.fr (.dct (dmerge [] [(kk, y), (kk', y')]))) e4) fun K => ?_
    exact ⟨fun ⟨a, b, h1, h2, h3⟩ => ⟨a, h1, b, h2, h3⟩, fun ⟨a, h1, b, h2, h3⟩ => ⟨a, b, h1, h2, h3⟩⟩
  | lrg a b ha hb =>
    refine SeDet.ofE fun env => (ha.E env).bind fun r e1 => (hb.E e1).bind fun r2 e2 => (rd_dt r e2).bindW fun x => (rd_dt r2 e2).bindW fun y => ?_
    refine DT.congr (int_dw x fun m => int_dw y fun n => DW.and (p := RgS m n) (DW.pt (α := Rv) (.fr (.lst ((List.range (n - m).toNat).map fun (k : Nat) => .int (m + k)))) e2)) fun K => ?_
    exact ⟨fun ⟨a, b, h1, h2, h3⟩ => ⟨a, h1, b, h2, h3⟩, fun ⟨a, h1, b, h2, h3⟩ => ⟨a, b, h1, h2, h3⟩⟩
  | srs a ha =>
    exact SeDet.ofE fun env => (ha.E env).bind fun r e1 => (rd_dt r e1).bindW fun x => DW.ex (f := seqD x) fun ds => DW.ex (f := strsD ds) fun xs => DW.and (p := xs.length < 64) ((srt_dt (uniq xs)).bindW fun r => DW.pt r e1)
  | ptn as h => exact SeDet.ofE fun env => (h.A env).bind fun ds e1 => DW.and (DW.pt _ e1)
  | fgt a ha =>
    refine SeDet.ofE fun env => (ha.E env).bind fun r e1 => (rd_dt r e1).bindW fun x => ?_
    cases x
    case ptp ds => exact DT.congr (DW.pt (α := Rv) (.im (.tup ds)) e1) fun K => ⟨fun ⟨j, e, w⟩ => by cases e; exact w, fun w => ⟨ds, rfl, w⟩⟩
    all_goals exact .inl fun K ⟨j, e, _⟩ => nomatch e
  | kept i a ha =>
    refine SeDet.ofE fun env => ?_
    have key : ∀ d, DW fun (R : XP) (Q : Rv → Env → Prop) => (sem Γ a).E R env fun r e1 => e1[i]? = some .un ∧ ∃ x, r = .fr x ∧ Q (.fr x) (e1.set i (.im d)) := fun d => (ha.E env).bind fun r e1 => DW.and (by
      cases r
      case fr x => exact DT.congr (DW.pt (α := Rv) (.fr x) (e1.set i (.im d))) fun K => ⟨fun ⟨j, e, w⟩ => by cases e; exact w, fun w => ⟨x, rfl, w⟩⟩
      all_goals exact .inl fun K ⟨j, e, _⟩ => nomatch e)
    by_cases h : ∃ d, env[i]? = some (.im d)
    · obtain ⟨d, hd⟩ := h
      exact DT.congr (key d) fun K => ⟨fun ⟨d', e, w⟩ => by rw [hd] at e; cases e; exact w, fun w => ⟨d, hd, w⟩⟩
    · exact .inl fun K ⟨d, e, _⟩ => h ⟨d, e⟩
  | nil =>
    exact ⟨fun _ => DW.no, fun env => DW.pt _ env, fun env => DW.pt _ env, fun env => DW.pt _ env, fun ms env => by
      cases ms with
      | nil => exact DW.pt _ env
      | cons _ _ => exact DW.no, fun env => DW.pt _ env, fun _ => DW.no⟩
  | cons a as ha has =>
    exact ⟨fun _ => DW.no, fun _ => DW.no, fun env => (ha.E env).bind fun r e1 => fzW fun d e2 => (has.A e2).bind fun ds e3 => DW.pt _ e3, fun env => (ha.E env).bind fun r e1 => (has.B e1).bind fun rs e2 => DW.pt _ e2, fun ms env => by
      rcases ms with _ | ⟨_ | _, ms⟩
      · exact DW.no
      · exact (ha.E env).bind fun r e1 => fzW fun d e2 => (has.C ms e2).bind fun rs e3 => DW.pt _ e3
      · exact (ha.E env).bind fun r e1 => DW.and ((has.C ms e1).bind fun rs e2 => DW.pt _ e2), fun _ => DW.no, fun _ => DW.no⟩
  | call f as h =>
    refine SeDet.ofE fun env => DW.ex' fun fi e => (h.C fi.io env).bind fun rs e1 => DW.and ((rdC_dt fi.io rs e1).bindW fun ds => ?_)
    exact DT.bind (V := fun (o : (XD × List D) ⊕ (Rv × List D)) (K : (XD × Env) ⊕ (Rv × Env) → Prop) => match o with
      | .inl (x, fs) => K (.inl (x, putB fi.io rs fs e1))
      | .inr (r, fs) => K (.inr (r, putB fi.io rs fs e1))) (hΓ f fi e ds) fun o => match o with
      | .inl (x, fs) => DT.pt _
      | .inr (r, fs) => DT.pt _
  | blt b as h => exact SeDet.ofE fun env => (h.B env).bind fun rs e1 => (rds_dt rs e1).bindW fun ds => (dBlt_dt b ds).bindW fun r => DW.pt r e1
  | meth m o as ho h => exact SeDet.ofE fun env => (ho.E env).bind fun r e1 => (rd_dt r e1).bindW fun x0 => DW.and ((h.B e1).bind fun rs e2 => (rd_dt r e2).bindW fun x => (rds_dt rs e2).bindW fun ds => (dMt_dt m x ds).bindW fun r => DW.pt r e2)
  | «mut» m i as h =>
    refine SeDet.ofE fun env => DW.and ((h.A env).bind fun ds e1 => ?_)
    split
    · next d _ => exact DT.bindW (U := fun K => dMm m d ds fun d' x => K (d', x)) (V := fun o (R : XP) (Q : Rv → Env → Prop) => Q (.im o.2) (e1.set i (.ow o.1))) (dMm_dt m d ds) fun o => DW.pt _ _
    · next d _ => exact DT.bindW (U := fun K => dMm m d ds fun d' x => K (d', x)) (V := fun o (R : XP) (Q : Rv → Env → Prop) => Q (.im o.2) (e1.set i (.io o.1))) (dMm_dt m d ds) fun o => DW.pt _ _
    · exact DW.no
  | idx a i ha hi => exact SeDet.ofE fun env => (ha.E env).bind fun r e1 => (hi.E e1).bind fun r2 e2 => (rd_dt r e2).bindW fun x => (rd_dt r2 e2).bindW fun y => (dIdx_dt x y).bindW fun z => DW.pt _ e2
  | sls a lo hi st ha hl hh hs => exact SeDet.ofE fun env => (ha.E env).bind fun r e1 => (hl.O e1).bind fun l e2 => (hh.O e2).bind fun h e3 => (hs.O e3).bind fun c e4 => DW.ex fun c' => (rd_dt r e4).bindW fun x => (dSls_dt x l h c').bindW fun z => DW.pt z e4
  | slc a lo hi ha hl hh => exact SeDet.ofE fun env => (ha.E env).bind fun r e1 => (hl.O e1).bind fun l e2 => (hh.O e2).bind fun h e3 => (rd_dt r e3).bindW fun x => (dSlc_dt x l h).bindW fun z => DW.pt z e3
  | isx i cs =>
    refine SeDet.ofE fun env => ?_
    by_cases h : ∃ n f, env[i]? = some (.xc n f)
    · obtain ⟨n, f, hd⟩ := h
      exact DT.congr (DW.pt (α := Rv) (.im (.bl (cs.any (isaX n)))) env) fun K => ⟨fun ⟨n', f', e, w⟩ => by rw [hd] at e; cases e; exact w, fun w => ⟨n, f, hd, w⟩⟩
    · exact .inl fun K ⟨n, f, e, _⟩ => h ⟨n, f, e⟩
  | fld i x =>
    refine SeDet.ofE fun env => ?_
    by_cases h : ∃ n d, env[i]? = some (.xc n (some d)) ∧ fldOf n = x
    · obtain ⟨n, d, hd, hx⟩ := h
      exact DT.congr (DW.pt (α := Rv) (.im d) env) fun K => ⟨fun ⟨n', d', e, _, w⟩ => by rw [hd] at e; cases e; exact w, fun w => ⟨n, d, hd, hx, w⟩⟩
    · exact .inl fun K ⟨n, d, e, e2, _⟩ => h ⟨n, d, e, e2⟩
  | callx x i =>
    refine SeDet.ofE fun env => ?_
    by_cases h : ∃ g n f r, Γ.fx x = some g ∧ env[i]? = some (.xc n f) ∧ g n f = some r
    · obtain ⟨g, n, f, r, h1, h2, h3⟩ := h
      exact DT.congr (DW.pt (α := Rv) r env) fun K => ⟨fun ⟨g', n', f', r', e1, e2, e3, w⟩ => by
        rw [h1] at e1; cases e1
        rw [h2] at e2; cases e2
        rw [h3] at e3; cases e3
        exact w, fun w => ⟨g, n, f, r, h1, h2, h3, w⟩⟩
    · exact .inl fun K ⟨g, n, f, r, e1, e2, e3, _⟩ => h ⟨g, n, f, r, e1, e2, e3⟩
  | isi a t ha => exact SeDet.ofE fun env => (ha.E env).bind fun r e1 => (rd_dt r e1).bindW fun x => DW.pt _ e1
  | comp vs tg it c e hit hc he =>
    refine SeDet.ofE fun env => I_bind (hit.I env) fun is its e1 => DW.and ?_
    exact DT.bindW (U := fun K => compW (fun d e2 k => bindT tg d (wipeE e2 vs) fun e3 => (sem Γ c).T noX e3 fun b e4 => if b = true then (sem Γ e).E noX e4 fun r e5 => fz r e5 fun y e6 => k (some y) e6 else k none e4) (fun e2 => stays is e1 (wipeE e2 vs)) its [] e1 fun a e => K (a, e))
      (V := fun o (R : XP) (Q : Rv → Env → Prop) => Q (.fr (.lst o.1)) (wipeE o.2 vs)) (compW_dt (fun d e => turn_dt hc he d e) its [] e1) fun o => DW.pt _ _
  | zip2 a b ha hb =>
    refine SeDet.ofI fun env => (ha.E env).bind fun r e1 => (hb.E e1).bind fun r2 e2 => srcW fun is x => srcW fun js y => ?_
    refine DT.congr (DW.ex (f := seqD x) fun xs => DW.ex (f := seqD y) fun ys => DW.pt (α := List Nat × List D) (is ++ js, zipD xs ys) e2) fun K => ?_
    exact ⟨fun ⟨a, b, h1, h2, h3⟩ => ⟨a, h1, b, h2, h3⟩, fun ⟨a, h1, b, h2, h3⟩ => ⟨a, b, h1, h2, h3⟩⟩
  | zip3 a b c ha hb hc =>
    refine SeDet.ofI fun env => (ha.E env).bind fun r e1 => (hb.E e1).bind fun r2 e2 => (hc.E e2).bind fun r3 e3 => srcW fun is x => srcW fun js y => srcW fun ks z => ?_
    refine DT.congr (DW.ex (f := seqD x) fun xs => DW.ex (f := seqD y) fun ys => DW.ex (f := seqD z) fun zs => DW.pt (α := List Nat × List D) (is ++ js ++ ks, zipD3 xs ys zs) e3) fun K => ?_
    exact ⟨fun ⟨a, b, c, h1, h2, h3, h4⟩ => ⟨a, h1, b, h2, c, h3, h4⟩, fun ⟨a, h1, b, h2, c, h3, h4⟩ => ⟨a, b, c, h1, h2, h3, h4⟩⟩
  | enum a ha => exact SeDet.ofI fun env => (ha.E env).bind fun r e1 => srcW fun is x => DW.ex fun xs => DW.pt _ e1
  | rng1 a ha => exact SeDet.ofI fun env => (ha.E env).bind fun r e1 => (rd_dt r e1).bindW fun x => int_dw x fun n => DW.and (DW.pt _ e1)
  | rng2 a b ha hb =>
    refine SeDet.ofI fun env => (ha.E env).bind fun r e1 => (hb.E e1).bind fun r2 e2 => (rd_dt r e2).bindW fun x => (rd_dt r2 e2).bindW fun y => ?_
    refine DT.congr (int_dw x fun m => int_dw y fun n => DW.and (p := -(2 ^ 62) ≤ m ∧ m < 2 ^ 62 ∧ -(2 ^ 62) ≤ n ∧ n < 2 ^ 62) (DW.pt (α := List Nat × List D) ([], (List.range (n - m).toNat).map fun (k : Nat) => .int (m + k)) e2)) fun K => ?_
    exact ⟨fun ⟨a, b, h1, h2, h3⟩ => ⟨a, h1, b, h2, h3⟩, fun ⟨a, h1, b, h2, h3⟩ => ⟨a, b, h1, h2, h3⟩⟩
  | rng3 a b c ha hb hc =>
    refine SeDet.ofI fun env => (ha.E env).bind fun r e1 => (hb.E e1).bind fun r2 e2 => (hc.E e2).bind fun r3 e3 => (rd_dt r e3).bindW fun x => (rd_dt r2 e3).bindW fun y => (rd_dt r3 e3).bindW fun z => ?_
    refine DT.congr (int_dw x fun m => int_dw y fun n => int_dw z fun o => DW.and (p := o = -1) (DW.and (p := -(2 ^ 62) ≤ m ∧ m < 2 ^ 62 ∧ -(2 ^ 62) ≤ n ∧ n < 2 ^ 62) (DW.pt (α := List Nat × List D) ([], (List.range (m - n).toNat).map fun (k : Nat) => .int (m - k)) e3))) fun K => ?_
    exact ⟨fun ⟨a, b, h1, h2, h3, h4⟩ => ⟨a, h1, b, h2, -1, h3, rfl, h4⟩, fun ⟨a, h1, b, h2, c, h3, h4, h5⟩ => ⟨a, b, h1, h2, h4 ▸ h3, h5⟩⟩
  | vals a ha =>
    refine SeDet.ofI fun env => (ha.E env).bind fun r e1 => ?_
    cases r with
    | fr d =>
      cases d with
      | dct kvs => exact DT.congr (DW.pt (α := List Nat × List D) ([], kvs.map (·.2)) e1) fun K => ⟨fun ⟨k, h1, h2⟩ => by cases h1; exact h2, fun h => ⟨kvs, rfl, h⟩⟩
      | _ => exact .inl fun K ⟨k, h1, h2⟩ => by cases h1
    | _ => exact .inl fun K ⟨k, h1, h2⟩ => by cases h1
  | compd k vs tg i c e hc he =>
    refine SeDet.ofE fun env => ?_
    by_cases h : ∃ s kvs, env[i]? = some s ∧ (s = .ow (.dct kvs) ∨ s = .io (.dct kvs))
    · obtain ⟨s, kvs, e1, e2⟩ := h
      have key : DW fun (R : XP) (Q : Rv → Env → Prop) => i ∉ vs ∧ kvs.length ≤ sizeLine ∧ compW (fun d e2 k => bindT tg d (wipeE e2 vs) fun e3 => (sem Γ c).T noX e3 fun b e4 => if b = true then (sem Γ e).E noX e4 fun r e5 => fz r e5 fun y e6 => k (some y) e6 else k none e4)
        (fun e2 => (wipeE e2 vs)[i]? = some (.lk (.dct kvs))) (dwalk k kvs) [] (env.set i (.lk (.dct kvs))) fun acc e7 => Q (.fr (.lst acc)) ((wipeE e7 vs).set i s) := DW.and (DW.and (DT.bindW (U := fun K => compW (fun d e2 k => bindT tg d (wipeE e2 vs) fun e3 => (sem Γ c).T noX e3 fun b e4 => if b = true then (sem Γ e).E noX e4 fun r e5 => fz r e5 fun y e6 => k (some y) e6 else k none e4)
        (fun e2 => (wipeE e2 vs)[i]? = some (.lk (.dct kvs))) (dwalk k kvs) [] (env.set i (.lk (.dct kvs))) fun a e => K (a, e)) (V := fun o (R : XP) (Q : Rv → Env → Prop) => Q (.fr (.lst o.1)) ((wipeE o.2 vs).set i s)) (compW_dt (fun d e => turn_dt hc he d e) _ [] _) fun o => DW.pt _ _))
      refine DT.congr key fun K => ⟨fun ⟨s', kvs', f1, f2, w⟩ => ?_, fun w => ⟨s, kvs, e1, e2, w⟩⟩
      rw [e1] at f1; cases f1
      have : kvs' = kvs := by
        rcases e2 with rfl | rfl <;> rcases f2 with f2 | f2 <;> first | (cases f2; rfl) | cases f2
      subst this
      exact w
    · exact .inl fun K ⟨s, kvs, e1, e2, _⟩ => h ⟨s, kvs, e1, e2⟩
end
end TG
end
section
namespace TG
open PySem

inductive Oc where
  | nx (e : Env) | rt (r : Rv) (e : Env) | bk (e : Env) | ct (e : Env) | ex (x : XD) (e : Env)
/-- what is wanted of each way to end -/
def postK (K : Oc → Prop) : Post := ⟨fun e => K (.nx e), fun r e => K (.rt r e), fun e => K (.bk e), fun e => K (.ct e)⟩
def excK (K : Oc → Prop) : XP := fun x e => K (.ex x e)
def ocK (R : XP) (P : Post) : Oc → Prop
  | .nx e => P.nx e
  | .rt r e => P.rt r e
  | .bk e => P.bk e
  | .ct e => P.ct e
  | .ex x e => R x e
def DS (W : XP → Post → Prop) : Prop := DT fun K => W (excK K) (postK K)
section
variable {W : XP → Post → Prop} {α ω : Type}
theorem DS.no : DS fun _ _ => False := DT.no
theorem DS.pt (o : Oc) : DS fun R P => ocK R P o := by cases o <;> exact DT.pt (ω := Oc) _
theorem DS.nx (e : Env) : DS fun _ P => P.nx e := DT.pt (ω := Oc) (.nx e)
theorem DS.rt (r : Rv) (e : Env) : DS fun _ P => P.rt r e := DT.pt (ω := Oc) (.rt r e)
theorem DS.bk (e : Env) : DS fun _ P => P.bk e := DT.pt (ω := Oc) (.bk e)
theorem DS.ct (e : Env) : DS fun _ P => P.ct e := DT.pt (ω := Oc) (.ct e)
theorem DS.and {p : Prop} (h : DS W) : DS fun R P => p ∧ W R P := DT.and h
theorem DS.ite {c : Prop} [Decidable c] {W' : XP → Post → Prop} (h : DS W) (h' : DS W') : DS fun R P => if c then W R P else W' R P := DT.ite h h'
theorem DS.bind {V : Oc → XP → Post → Prop} (h : DS W) (g : ∀ o, DS (V o)) : DS fun R P => W (fun x e => V (.ex x e) R P) ⟨fun e => V (.nx e) R P, fun r e => V (.rt r e) R P, fun e => V (.bk e) R P, fun e => V (.ct e) R P⟩ :=
  DT.bind (U := fun K => W (excK K) (postK K)) (V := fun o K => V o (excK K) (postK K)) h g
theorem DW.bindS {W : XP → (α → Env → Prop) → Prop} {V : α → Env → XP → Post → Prop} (h : DW W) (g : ∀ a e, DS (V a e)) : DS fun R P => W R fun a e => V a e R P :=
  DT.bind (ω := (XD × Env) ⊕ (α × Env)) (ω' := Oc) (U := fun K => W (fun x e => K (.inl (x, e))) (fun a e => K (.inr (a, e)))) (V := fun o K => match o with
      | .inl (x, e) => K (.ex x e)
      | .inr (a, e) => V a e (excK K) (postK K)) h fun o => match o with
    | .inl (x, e) => DT.pt _
    | .inr (a, e) => g a e
theorem DT.bindS {U : (ω → Prop) → Prop} {V : ω → XP → Post → Prop} (h : DT U) (g : ∀ o, DS (V o)) : DS fun R P => U fun o => V o R P := DT.bind h g
theorem fzS {r : Rv} {env : Env} {V : D → Env → XP → Post → Prop} (g : ∀ d e, DS (V d e)) : DS fun R P => fz r env fun d e => V d e R P :=
  DT.bindS (U := fun K => fz r env fun d e => K (d, e)) (V := fun o => V o.1 o.2) (fz_dt r env) fun o => g o.1 o.2
theorem DS.mono (h : DS W) {R R' : XP} {P P' : Post} (k : ∀ o, ocK R P o → ocK R' P' o) (u : W R P) : W R' P' :=
  DT.mono (ω := Oc) (U := fun K => W (excK K) (postK K)) h (K := ocK R P) (K' := ocK R' P') k u
theorem DS.at (h : DS W) {R : XP} {P : Post} (u : W R P) : ∃ o, ocK R P o ∧ ∀ R' P', W R' P' ↔ ocK R' P' o := by
  rcases h with h | ⟨o, h⟩
  · exact (h (ocK R P) u).elim
  · exact ⟨o, (h (ocK R P)).mp u, fun R' P' => h (ocK R' P')⟩
end
section
variable {Γ : Ga}
/-- one turn, X behind it -/
def stepW (c : Se) (b : Env → XP → Post → Prop) (e : Env) (R : XP) (P : Post) (X : Env → Prop) : Prop := c.T R e fun k e1 => if k = true then b e1 R { nx := X, rt := P.rt, bk := P.nx, ct := X } else P.nx e1
def whileW (c : Se) (b : Env → XP → Post → Prop) (env : Env) (R : XP) (P : Post) : Prop := ∃ I : Nat → Env → Prop, (∃ m, I m env) ∧ ∀ m e, I m e → stepW c b e R P fun e2 => ∃ m', m' < m ∧ I m' e2
theorem step_dt {c : Se} {b : Env → XP → Post → Prop} (hc : SeDet c) (hb : ∀ e, DS (b e)) (e : Env) : DT fun K : Env ⊕ Oc → Prop => stepW c b e (fun x e => K (.inr (.ex x e))) (postK fun o => K (.inr o)) fun e => K (.inl e) :=
  DT.bind (ω := (XD × Env) ⊕ (Bool × Env)) (ω' := Env ⊕ Oc) (U := fun K => c.T (fun x e => K (.inl (x, e))) e fun k e1 => K (.inr (k, e1))) (V := fun (o : (XD × Env) ⊕ (Bool × Env)) (K : Env ⊕ Oc → Prop) => match o with
    | .inl (x, e) => K (.inr (.ex x e))
    | .inr (k, e1) => if k = true then b e1 (fun x e => K (.inr (.ex x e))) { nx := fun e => K (.inl e), rt := fun r e => K (.inr (.rt r e)), bk := fun e => K (.inr (.nx e)), ct := fun e => K (.inl e) } else K (.inr (.nx e1))) (hc.T e) fun o => match o with
    | .inl (x, e) => DT.pt _
    | .inr (k, e1) => DT.ite (DT.bind (ω := Oc) (ω' := Env ⊕ Oc) (U := fun K => b e1 (excK K) (postK K)) (V := fun (o : Oc) (K : Env ⊕ Oc → Prop) => match o with
        | .ex x e => K (.inr (.ex x e))
        | .nx e => K (.inl e)
        | .rt r e => K (.inr (.rt r e))
        | .bk e => K (.inr (.nx e))
        | .ct e => K (.inl e)) (hb e1) fun o => by cases o <;> exact DT.pt _) (DT.pt _)
def stK (R : XP) (P : Post) (X : Env → Prop) : Env ⊕ Oc → Prop
  | .inl e => X e
  | .inr o => ocK R P o
theorem step_at {c : Se} {b : Env → XP → Post → Prop} (hc : SeDet c) (hb : ∀ e, DS (b e)) (e : Env) : (∀ R P X, ¬ stepW c b e R P X) ∨ ∃ o, ∀ R P X, stepW c b e R P X ↔ stK R P X o := by
  rcases step_dt hc hb e with h | ⟨o, h⟩
  · exact .inl fun R P X => h (stK R P X)
  · exact .inr ⟨o, fun R P X => h (stK R P X)⟩
theorem while_fold {c : Se} {b : Env → XP → Post → Prop} (hc : SeDet c) (hb : ∀ e, DS (b e)) {e : Env} {R : XP} {P : Post} : whileW c b e R P ↔ stepW c b e R P fun e2 => whileW c b e2 R P := by
  constructor
  · rintro ⟨I, ⟨m, hm⟩, hI⟩
    have := hI m e hm
    rcases step_at hc hb e with n | ⟨o, h⟩
    · exact (n _ _ _ this).elim
    · rw [h] at this ⊢
      cases o with
      | inr o => exact this
      | inl e2 =>
        obtain ⟨m', _, h'⟩ := (show ∃ m', m' < m ∧ I m' e2 from this)
        exact ⟨I, ⟨m', h'⟩, hI⟩
  · intro st
    rcases step_at hc hb e with n | ⟨o, h⟩
    · exact (n _ _ _ st).elim
    cases o with
    | inr o =>
      refine ⟨fun m e' => e' = e, ⟨0, rfl⟩, fun m e' he => ?_⟩
      subst he
      rw [h] at st ⊢
      exact st
    | inl e2 =>
      obtain ⟨I, ⟨m2, h2⟩, hI⟩ := (show whileW c b e2 R P from (h _ _ _).mp st)
      refine ⟨fun m e' => I m e' ∨ (m = m2 + 1 ∧ e' = e), ⟨m2 + 1, .inr ⟨rfl, rfl⟩⟩, fun m e' he => ?_⟩
      rcases he with he | ⟨rfl, rfl⟩
      · have := hI m e' he
        rcases step_at hc hb e' with n | ⟨o, g⟩
        · exact (n _ _ _ this).elim
        · rw [g] at this ⊢
          cases o with
          | inr o => exact this
          | inl e3 =>
            obtain ⟨m', l, h'⟩ := (show ∃ m', m' < m ∧ I m' e3 from this)
            exact ⟨m', l, .inl h'⟩
      · rw [h]
        exact ⟨m2, Nat.lt_succ_self _, .inl h2⟩
theorem while_ds {c : Se} {b : Env → XP → Post → Prop} (hc : SeDet c) (hb : ∀ e, DS (b e)) (env : Env) : DS (whileW c b env) := by
  have key : ∀ (n : Nat) (e : Env), (∃ R P, ∃ I : Nat → Env → Prop, I n e ∧ ∀ m e, I m e → stepW c b e R P fun e2 => ∃ m', m' < m ∧ I m' e2) → ∃ o, ∀ R' P', whileW c b e R' P' ↔ ocK R' P' o := by
    intro n
    induction n using Nat.strongRecOn with
    | ind n ih =>
      rintro e ⟨R, P, I, hn, hI⟩
      have := hI n e hn
      rcases step_at hc hb e with z | ⟨o, h⟩
      · exact (z _ _ _ this).elim
      rw [h] at this
      cases o with
      | inr o => exact ⟨o, fun R' P' => (while_fold hc hb).trans (h _ _ _)⟩
      | inl e2 =>
        obtain ⟨m', l, h'⟩ := (show ∃ m', m' < n ∧ I m' e2 from this)
        obtain ⟨o, ho⟩ := ih m' l e2 ⟨R, P, I, h', hI⟩
        exact ⟨o, fun R' P' => (while_fold hc hb).trans ((h _ _ _).trans (ho R' P'))⟩
  by_cases h : ∃ R P, whileW c b env R P
  · obtain ⟨R, P, I, ⟨m, hm⟩, hI⟩ := h
    obtain ⟨o, ho⟩ := key m env ⟨R, P, I, hm, hI⟩
    exact .inr ⟨o, fun K => (ho (excK K) (postK K)).trans (by cases o <;> exact Iff.rfl)⟩
  · exact .inl fun K u => h ⟨_, _, u⟩
theorem for_ds {t : Tg} {b : Env → XP → Post → Prop} {ok : Env → Prop} (hb : ∀ e, DS (b e)) : ∀ (its : List D) (env : Env),
    DS fun R P => forW (fun d e2 next brk => bindT t d e2 fun e3 => b e3 R { nx := next, rt := P.rt, bk := brk, ct := next }) ok P.nx its env
  | [], env => DS.and (DS.nx env)
  | d :: its, env => DS.and (DT.bindS (bindT_dt t d env) fun e3 => DS.bind (V := fun o R P => match o with
      | .ex x e => R x e
      | .nx e => forW (fun d e2 next brk => bindT t d e2 fun e3 => b e3 R { nx := next, rt := P.rt, bk := brk, ct := next }) ok P.nx its e
      | .rt r e => P.rt r e
      | .bk e => P.nx e
      | .ct e => forW (fun d e2 next brk => bindT t d e2 fun e3 => b e3 R { nx := next, rt := P.rt, bk := brk, ct := next }) ok P.nx its e) (hb e3) fun o => match o with
    | .ex x e => DS.pt (.ex x e)
    | .nx e => for_ds hb its e
    | .rt r e => DS.rt r e
    | .bk e => DS.nx e
    | .ct e => for_ds hb its e)
theorem seq_ds {W : XP → Post → Prop} {V : Env → XP → Post → Prop} (h : DS W) (g : ∀ e, DS (V e)) : DS fun R P => W R { P with nx := fun e => V e R P } :=
  DS.bind (V := fun o R P => match o with
    | .ex x e => R x e
    | .nx e => V e R P
    | .rt r e => P.rt r e
    | .bk e => P.bk e
    | .ct e => P.ct e) h fun o => match o with
    | .ex x e => DS.pt (.ex x e)
    | .nx e => g e
    | .rt r e => DS.rt r e
    | .bk e => DS.bk e
    | .ct e => DS.ct e
/-- .. behind what is lent -/
def lendO (i : Nat) (R : XP) (P : Post) : Oc → Prop
  | .nx e => lendE i P.nx e
  | .rt r e => lendE i (P.rt r) e
  | .bk e => lendE i P.bk e
  | .ct e => lendE i P.ct e
  | .ex x e => lendE i (R x) e
theorem lendO_ds (i : Nat) (o : Oc) : DS fun R P => lendO i R P o := by
  cases o <;> (unfold lendO lendE; simp only) <;> split <;> first
    | exact DS.no
    | exact DS.nx _
    | exact DS.rt _ _
    | exact DS.bk _
    | exact DS.ct _
    | exact DS.pt (.ex _ _)
/-- behind a try -/
def hdO0 (Γ : Ga) (c : Str) (s : Sm) (R : XP) (P : Post) : Oc → Prop
  | .ex x e => (isaX x.1 c = true → wpS Γ noX s e P) ∧ (isaX x.1 c = false → R x e)
  | o => ocK R P o
def hdOX (Γ : Ga) (c : Str) (i : Nat) (s : Sm) (R : XP) (P : Post) : Oc → Prop
  | .ex x e => (isaX x.1 c = true → slX e i ∧ wpS Γ noX s (e.set i (.xc x.1 x.2)) (goneP i P)) ∧ (isaX x.1 c = false → R x e)
  | o => ocK R P o
theorem imp_ds {W V : XP → Post → Prop} (hW : DS W) (hV : DS V) (k : Bool) : DS fun R P => (k = true → W R P) ∧ (k = false → V R P) := by
  cases k with
  | true => exact DT.congr hW fun K => ⟨fun h => h.1 rfl, fun h => ⟨fun _ => h, (fun z => nomatch z)⟩⟩
  | false => exact DT.congr hV fun K => ⟨fun h => h.2 rfl, fun h => ⟨(fun z => nomatch z), fun _ => h⟩⟩
/-- nothing is let out -/
theorem DS.shutS {W : XP → Post → Prop} (h : DS W) : DS fun _ P => W noX P := by
  rcases h with h | ⟨o, h⟩
  · refine .inl fun K u => h (fun o => match o with | .ex _ _ => False | o => K o) ?_
    exact u
  · rcases o with e | ⟨r, e⟩ | e | e | ⟨x, e⟩
    · exact .inr ⟨.nx e, fun K => h (fun o => match o with | .ex _ _ => False | o => K o)⟩
    · exact .inr ⟨.rt r e, fun K => h (fun o => match o with | .ex _ _ => False | o => K o)⟩
    · exact .inr ⟨.bk e, fun K => h (fun o => match o with | .ex _ _ => False | o => K o)⟩
    · exact .inr ⟨.ct e, fun K => h (fun o => match o with | .ex _ _ => False | o => K o)⟩
    · exact .inl fun K u => (h (fun o => match o with | .ex _ _ => False | o => K o)).mp u
theorem goneS (i : Nat) {W : XP → Post → Prop} (h : DS W) : DS fun R P => W R (goneP i P) :=
  DT.bind (ω := Oc) (ω' := Oc) (U := fun K => W (excK K) (postK K)) (V := fun o K => match o with
    | .nx e => K (.nx (e.set i .un))
    | .rt r e => K (.rt r (e.set i .un))
    | .bk e => K (.bk (e.set i .un))
    | .ct e => K (.ct (e.set i .un))
    | .ex x e => K (.ex x e)) h fun o => by cases o <;> exact DT.pt _
theorem wpS_ds (hΓ : GDet Γ) : ∀ (sm : Sm) (env : Env), DS fun R P => wpS Γ R sm env P := by
  intro sm
  induction sm with
  | nil => exact fun env => DS.nx env
  | cons a b ha hb => exact fun env => seq_ds (W := fun R P => wpS Γ R a env P) (V := fun e R P => wpS Γ R b e P) (ha env) hb
  | pass => exact fun env => DS.nx env
  | brk => exact fun env => DS.bk env
  | cont => exact fun env => DS.ct env
  | asg t e =>
    intro env
    have hE := (sem_det hΓ e).E env
    cases t with
    | nm j => exact hE.bindS fun r e1 => (stS_dt j r e1).bindS fun e2 => DS.nx e2
    | tp ts => exact hE.bindS fun r e1 => (rd_dt r e1).bindS fun d => (bindT_dt (.tp ts) d e1).bindS fun e2 => DS.nx e2
    | sub i k => exact hE.bindS fun r e1 => (rd_dt r e1).bindS fun d => (bindT_dt (.sub i k) d e1).bindS fun e2 => DS.nx e2
    | nil => exact hE.bindS fun r e1 => (rd_dt r e1).bindS fun d => (bindT_dt .nil d e1).bindS fun e2 => DS.nx e2
    | cons a b => exact hE.bindS fun r e1 => (rd_dt r e1).bindS fun d => (bindT_dt (.cons a b) d e1).bindS fun e2 => DS.nx e2
  | par2 i j a b =>
    intro env
    refine ((sem_det hΓ (.cons a (.cons b .nil))).A env).bindS fun ds e1 => ?_
    rcases ds with _ | ⟨x, _ | ⟨y, _ | ⟨z, r⟩⟩⟩ <;> first
      | exact DS.no
      | exact (stS_dt i (.im x) e1).bindS fun e2 => (stS_dt j (.im y) e2).bindS fun e3 => DS.nx e3
  | pak2 i j a b =>
    intro env
    refine ((sem_det hΓ a).E env).bindS fun r e1 => ((sem_det hΓ b).E e1).bindS fun r2 e2 => ?_
    cases r <;> cases r2 <;> first
      | exact DS.no
      | exact (stS_dt i _ e2).bindS fun e3 => (stS_dt j _ e3).bindS fun e4 => DS.nx e4
  | pak3 i j k a b c =>
    intro env
    refine ((sem_det hΓ a).E env).bindS fun r e1 => ((sem_det hΓ b).E e1).bindS fun r2 e2 => ((sem_det hΓ c).E e2).bindS fun r3 e3 => ?_
    cases r <;> cases r2 <;> cases r3 <;> first
      | exact DS.no
      | exact (stS_dt i _ e3).bindS fun e4 => (stS_dt j _ e4).bindS fun e5 => (stS_dt k _ e5).bindS fun e6 => DS.nx e6
  | new2 i j => exact fun env => (stS_dt i _ env).bindS fun e2 => (stS_dt j _ e2).bindS fun e3 => DS.nx e3
  | new3 i j k => exact fun env => (stS_dt i _ env).bindS fun e2 => (stS_dt j _ e2).bindS fun e3 => (stS_dt k _ e3).bindS fun e4 => DS.nx e4
  | par3 i j k a b c =>
    intro env
    refine ((sem_det hΓ (.cons a (.cons b (.cons c .nil)))).A env).bindS fun ds e1 => ?_
    rcases ds with _ | ⟨x, _ | ⟨y, _ | ⟨z, _ | ⟨u, r⟩⟩⟩⟩ <;> first
      | exact DS.no
      | exact (stS_dt i (.im x) e1).bindS fun e2 => (stS_dt j (.im y) e2).bindS fun e3 => (stS_dt k (.im z) e3).bindS fun e4 => DS.nx e4
  | sub i k e =>
    intro env
    refine ((sem_det hΓ e).E env).bindS fun r e1 => fzS fun v e2 => DS.and ?_
    have gen : ∀ k : Ex, DS fun R P => wpE Γ R k e2 fun r2 e3 => rd r2 e3 fun y => wrS i e3 (fun x f => x.isDtt = false ∧ dSet x y v f) P.nx := fun k =>
      ((sem_det hΓ k).E e2).bindS fun r2 e3 => (rd_dt r2 e3).bindS fun y => (wrS_dt i e3 _ fun x => DT.and (dSet_dt x y v)).bindS fun e4 => DS.nx e4
    cases k
    case tupn as => exact ((sem_det hΓ as).A e2).bindS fun ds e3 => DS.and ((wrS_dt i e3 _ fun x => DT.and (dSet_dt x (.tup ds) v)).bindS fun e4 => DS.nx e4)
    all_goals exact gen _
  | expr e => exact fun env => ((sem_det hΓ e).E env).bindS fun _ e1 => DS.nx e1
  | ret e =>
    intro env
    refine ((sem_det hΓ e).E env).bindS fun r e1 => ?_
    cases r with
    | im d => exact DS.rt _ _
    | fr d => exact DS.rt _ _
    | bo i =>
      simp only
      split
      · exact DS.rt _ _
      · exact DS.rt _ _
      · exact DS.no
  | retN => exact fun env => DS.rt _ env
  | ifs c a b ha hb => exact fun env => ((sem_det hΓ c).T env).bindS fun k e1 => DS.ite (ha e1) (hb e1)
  | whl c b hb => exact fun env => while_ds (sem_det hΓ c) (fun e => hb e) env
  | forr t it b hb =>
    intro env
    exact DW.bindS (α := List Nat × List D) (W := fun R Q => wpI Γ R it env fun is ds e => Q (is, ds) e) (V := fun o e1 R P => forW (fun d e2 next brk => bindT t d e2 fun e3 => wpS Γ R b e3 { nx := next, rt := P.rt, bk := brk, ct := next }) (staysIo o.1 (frzL o.1 e1)) P.nx o.2 (frzL o.1 e1)) ((sem_det hΓ it).I env)
      fun o e1 => for_ds (fun e => hb e) o.2 (frzL o.1 e1)
  | lend i b hb =>
    intro env
    show DS fun R P => (match env[i]? with
      | some (.ow d) => wpS Γ (fun x => lendE i (R x)) b (env.set i (.io d)) (lendP i P)
      | _ => False)
    split
    · next d q => exact DS.bind (W := fun R P => wpS Γ R b (env.set i (.io d)) P) (V := fun o R P => lendO i R P o) (hb _) fun o => lendO_ds i o
    · exact DS.no
  | raise c as =>
    intro env
    cases as with
    | nil => exact DS.pt (.ex (c, none) env)
    | cons a b =>
      cases b with
      | nil => exact ((sem_det hΓ a).E env).bindS fun r e1 => fzS fun d e2 => DS.pt (.ex (c, some d) e2)
      | _ => exact DS.no
    | _ => exact DS.no
  | tryx b c i s hb hs =>
    intro env
    cases i with
    | none =>
      exact DS.bind (W := fun R P => wpS Γ R b env P) (V := fun o R P => hdO0 Γ c s R P o) (hb env) fun o => by
        cases o with
        | ex x e => exact (imp_ds (hs e).shutS (DS.pt (.ex x e)) (isaX x.1 c) : DS fun R P => (isaX x.1 c = true → wpS Γ noX s e P) ∧ (isaX x.1 c = false → R x e))
        | nx e => exact DS.nx e
        | rt r e => exact DS.rt r e
        | bk e => exact DS.bk e
        | ct e => exact DS.ct e
    | some i =>
      exact DS.bind (W := fun R P => wpS Γ R b env P) (V := fun o R P => hdOX Γ c i s R P o) (hb env) fun o => by
        cases o with
        | ex x e => exact (imp_ds (DS.and (goneS i (hs (e.set i (.xc x.1 x.2))).shutS)) (DS.pt (.ex x e)) (isaX x.1 c) : DS fun R P => (isaX x.1 c = true → slX e i ∧ wpS Γ noX s (e.set i (.xc x.1 x.2)) (goneP i P)) ∧ (isaX x.1 c = false → R x e))
        | nx e => exact DS.nx e
        | rt r e => exact DS.rt r e
        | bk e => exact DS.bk e
        | ct e => exact DS.ct e
end
/-- a def's promise, as its body says -/
def canon (Γ : Ga) (n : Nat) (sm : Sm) (io : List Bool) : FI where
  io := io
  sp := fun ds Q E => ds.length = io.length ∧ io.length ≤ n ∧ wpS Γ (XF io E) sm (env0 io ds ++ List.replicate (n - io.length) .un) (PostF io Q)
theorem canon_keeps (Γ : Ga) (n : Nat) (sm : Sm) (io : List Bool) : Keeps Γ n sm (canon Γ n sm io) := fun _ _ _ h => h
theorem canon_det {Γ : Ga} (hΓ : GDet Γ) (n : Nat) (sm : Sm) (io : List Bool) : FDet (canon Γ n sm io) := by
  intro ds
  refine DT.and (DT.and ?_)
  refine DT.bind (ω := Oc) (U := fun K => wpS Γ (excK K) sm (env0 io ds ++ List.replicate (n - io.length) .un) (postK K)) (V := fun (o : Oc) (K : (XD × List D) ⊕ (Rv × List D) → Prop) => match o with
    | .ex x e => ∃ fs, finsE io e = some fs ∧ K (.inl (x, fs))
    | .nx e => ∃ fs, finsE io e = some fs ∧ K (.inr (.im .non, fs))
    | .rt r e => ∃ fs, finsE io e = some fs ∧ K (.inr (r, fs))
    | .bk _ => False
    | .ct _ => False) (wpS_ds hΓ sm _) fun o => ?_
  cases o with
  | ex x e => exact DT.ex fun fs => DT.pt _
  | nx e => exact DT.ex fun fs => DT.pt _
  | rt r e => exact DT.ex fun fs => DT.pt _
  | bk e => exact DT.no
  | ct e => exact DT.no
end TG
end
section
namespace TG
open PySem

def FLe (fi fi' : FI) : Prop := fi'.io = fi.io ∧ ∀ (ds : List D) (Q Q' : Rv → List D → Prop) (E E' : XD → List D → Prop), (∀ r fs, Q r fs → Q' r fs) → (∀ x fs, E x fs → E' x fs) → fi.sp ds Q E → fi'.sp ds Q' E'
structure GLe (Γ Γ' : Ga) : Prop where
  cs : ∀ x d, Γ.cs x = some d → Γ'.cs x = some d
  fn : ∀ f fi, Γ.fn f = some fi → ∃ fi', Γ'.fn f = some fi' ∧ FLe fi fi'
  fx : ∀ x h, Γ.fx x = some h → Γ'.fx x = some h
abbrev Le2 {α : Type} (Q Q' : α → Env → Prop) : Prop := ∀ a e, Q a e → Q' a e
structure SeLe (s s' : Se) : Prop where
  E : ∀ {env R R' Q Q'}, Le2 R R' → Le2 Q Q' → s.E R env Q → s'.E R' env Q'
  T : ∀ {env R R' Q Q'}, Le2 R R' → Le2 Q Q' → s.T R env Q → s'.T R' env Q'
  A : ∀ {env R R' Q Q'}, Le2 R R' → Le2 Q Q' → s.A R env Q → s'.A R' env Q'
  B : ∀ {env R R' Q Q'}, Le2 R R' → Le2 Q Q' → s.B R env Q → s'.B R' env Q'
  C : ∀ {ms env R R' Q Q'}, Le2 R R' → Le2 Q Q' → s.C R ms env Q → s'.C R' ms env Q'
  O : ∀ {env R R' Q Q'}, Le2 R R' → Le2 Q Q' → s.O R env Q → s'.O R' env Q'
  I : ∀ {env R R'} {Q Q' : List Nat → List D → Env → Prop}, Le2 R R' → (∀ is ds e, Q is ds e → Q' is ds e) → s.I R env Q → s'.I R' env Q'
theorem srcM {r : Rv} {env : Env} {K K' : List Nat → D → Prop} (k : ∀ is d, K is d → K' is d) (u : srcR r env K) : srcR r env K' :=
  DT.mono (srcR_dt r env) (K := fun o => K o.1 o.2) (K' := fun o => K' o.1 o.2) (fun o => k o.1 o.2) u
theorem fzM {r : Rv} {env : Env} {K K' : D → Env → Prop} (k : ∀ d e, K d e → K' d e) (u : fz r env K) : fz r env K' :=
  DT.mono (fz_dt r env) (K := fun o => K o.1 o.2) (K' := fun o => K' o.1 o.2) (fun o => k o.1 o.2) u
theorem SeLe.ofE {E E' : XP → Env → (Rv → Env → Prop) → Prop} (h : ∀ {env R R' Q Q'}, Le2 R R' → Le2 Q Q' → E R env Q → E' R' env Q') : SeLe (ofE E) (ofE E') where
  E := h
  T := fun hR hQ => h hR fun r e1 => (rd_dt r e1).mono fun d ⟨k, e, w⟩ => ⟨k, e, hQ _ _ w⟩
  A := fun _ _ h => h.elim
  B := fun _ _ h => h.elim
  C := fun _ _ h => h.elim
  O := fun hR hQ => h hR fun r e1 => (rd_dt r e1).mono fun d ⟨k, e, w⟩ => ⟨k, e, hQ _ _ w⟩
  I := fun hR hQ => h hR fun r e1 => srcM fun is d ⟨xs, e, w⟩ => ⟨xs, e, hQ _ _ _ w⟩
theorem SeLe.ofI {I I' : XP → Env → (List Nat → List D → Env → Prop) → Prop} (h : ∀ {env R R'} {Q Q' : List Nat → List D → Env → Prop}, Le2 R R' → (∀ is ds e, Q is ds e → Q' is ds e) → I R env Q → I' R' env Q') : SeLe (ofI I) (ofI I') :=
  { SeLe.ofE (fun _ _ h => h) with I := h }
theorem compW_le {turn turn' : D → Env → (Option D → Env → Prop) → Prop} {ok : Env → Prop} (h : ∀ d e (k k' : Option D → Env → Prop), Le2 k k' → turn d e k → turn' d e k') : ∀ {ds acc : List D} {env : Env} {K K' : List D → Env → Prop}, Le2 K K' → compW turn ok ds acc env K → compW turn' ok ds acc env K'
  | [], acc, env, K, K', k, ⟨o, u⟩ => ⟨o, k _ _ u⟩
  | d :: ds, acc, env, K, K', k, ⟨o, u⟩ => ⟨o, h _ _ _ _ (fun o e => compW_le h k) u⟩
theorem turn_le {vs : List Nat} {tg : Tg} {sc se sc' se' : Se} (hc : SeLe sc sc') (he : SeLe se se') (d : D) (e2 : Env) (k k' : Option D → Env → Prop) (hk : Le2 k k') :
    (bindT tg d (wipeE e2 vs) fun e3 => sc.T noX e3 fun b e4 => if b = true then se.E noX e4 fun r e5 => fz r e5 fun y e6 => k (some y) e6 else k none e4) → bindT tg d (wipeE e2 vs) fun e3 => sc'.T noX e3 fun b e4 => if b = true then se'.E noX e4 fun r e5 => fz r e5 fun y e6 => k' (some y) e6 else k' none e4 :=
  (bindT_dt tg d _).mono fun e3 => hc.T (fun _ _ h => h) fun b e4 => by
    cases b with
    | true => simp only [if_true]; exact he.E (fun _ _ h => h) fun r e5 => fzM fun y e6 => hk _ _
    | false => simp only [Bool.false_eq_true, if_false]; exact hk _ _
section
variable {Γ Γ' : Ga}
theorem ite_le {c : Prop} [Decidable c] {p p' q q' : Prop} (h : p → p') (g : q → q') : (if c then p else q) → if c then p' else q' := by
  split
  · exact h
  · exact g
theorem sem_le (g : GLe Γ Γ') : ∀ ex : Ex, SeLe (sem Γ ex) (sem Γ' ex) := by
  intro ex
  induction ex with
  | var i =>
    refine SeLe.ofE fun {env R R' Q Q'} hR hQ h => ?_
    have h : (match env[i]? with
      | some (.im d) => Q (.im d) env
      | some .un => False
      | some _ => Q (.bo i) env
      | none => False) := h
    show (match env[i]? with
      | some (.im d) => Q' (.im d) env
      | some .un => False
      | some _ => Q' (.bo i) env
      | none => False)
    split at h <;> first | exact hQ _ _ h | exact h.elim
  | cint i => exact SeLe.ofE fun hR hQ => hQ _ _
  | cstr x => exact SeLe.ofE fun hR hQ => hQ _ _
  | cbl b => exact SeLe.ofE fun hR hQ => hQ _ _
  | cnon => exact SeLe.ofE fun hR hQ => hQ _ _
  | glob x => exact SeLe.ofE fun hR hQ ⟨d, e, w⟩ => ⟨d, g.cs x d e, hQ _ _ w⟩
  | bin op a b ha hb => exact SeLe.ofE fun hR hQ => ha.E hR fun r e1 => hb.E hR fun r2 e2 => (rd_dt r e2).mono fun x => (rd_dt r2 e2).mono fun y => (dBin_dt op x y).mono fun z => hQ _ _
  | neg a ha => exact SeLe.ofE fun hR hQ => ha.E hR fun r e1 => (rd_dt r e1).mono fun x ⟨i, e, w⟩ => ⟨i, e, hQ _ _ w⟩
  | cmp op a b ha hb => exact SeLe.ofE fun hR hQ => ha.E hR fun r e1 => hb.E hR fun r2 e2 => (rd_dt r e2).mono fun x => (rd_dt r2 e2).mono fun y => (dCmp_dt op x y).mono fun z => hQ _ _
  | chain op op' a b c ha hb hc =>
    exact SeLe.ofE fun hR hQ => ha.E hR fun r e1 => hb.E hR fun r2 e2 => (rd_dt r e2).mono fun x => (rd_dt r2 e2).mono fun y => (dCmp_dt op x y).mono fun k =>
      ite_le (hc.E hR fun r3 e3 => (rd_dt r2 e3).mono fun y => (rd_dt r3 e3).mono fun z => (dCmp_dt op' y z).mono fun k => hQ _ _) (hQ _ _)
  | andn a b ha hb =>
    exact { SeLe.ofE (E := fun R env Q => (sem Γ a).E R env fun r e1 => rd r e1 fun d => ∃ k, dTru d = some k ∧ if k = true then (sem Γ b).E R e1 Q else Q r e1) (E' := fun R env Q => (sem Γ' a).E R env fun r e1 => rd r e1 fun d => ∃ k, dTru d = some k ∧ if k = true then (sem Γ' b).E R e1 Q else Q r e1)
        (fun hR hQ => ha.E hR fun r e1 => (rd_dt r e1).mono fun d ⟨k, e, w⟩ => ⟨k, e, ite_le (hb.E hR hQ) (hQ _ _) w⟩) with
      T := fun hR hQ => ha.T hR fun k e1 => ite_le (hb.T hR hQ) (hQ _ _) }
  | orn a b ha hb =>
    exact { SeLe.ofE (E := fun R env Q => (sem Γ a).E R env fun r e1 => rd r e1 fun d => ∃ k, dTru d = some k ∧ if k = true then Q r e1 else (sem Γ b).E R e1 Q) (E' := fun R env Q => (sem Γ' a).E R env fun r e1 => rd r e1 fun d => ∃ k, dTru d = some k ∧ if k = true then Q r e1 else (sem Γ' b).E R e1 Q)
        (fun hR hQ => ha.E hR fun r e1 => (rd_dt r e1).mono fun d ⟨k, e, w⟩ => ⟨k, e, ite_le (hQ _ _) (hb.E hR hQ) w⟩) with
      T := fun hR hQ => ha.T hR fun k e1 => ite_le (hQ _ _) (hb.T hR hQ) }
  | notn a ha =>
    exact { SeLe.ofE (E := fun R env Q => (sem Γ a).E R env fun r e1 => rd r e1 fun d => ∃ k, dTru d = some k ∧ Q (.im (.bl (!k))) e1) (E' := fun R env Q => (sem Γ' a).E R env fun r e1 => rd r e1 fun d => ∃ k, dTru d = some k ∧ Q (.im (.bl (!k))) e1)
        (fun hR hQ => ha.E hR fun r e1 => (rd_dt r e1).mono fun d ⟨k, e, w⟩ => ⟨k, e, hQ _ _ w⟩) with
      T := fun hR hQ => ha.T hR fun k e1 => hQ _ _ }
  | ife c a b hc ha hb =>
    exact { SeLe.ofE (E := fun R env Q => (sem Γ c).T R env fun k e1 => if k = true then (sem Γ a).E R e1 Q else (sem Γ b).E R e1 Q) (E' := fun R env Q => (sem Γ' c).T R env fun k e1 => if k = true then (sem Γ' a).E R e1 Q else (sem Γ' b).E R e1 Q)
        (fun hR hQ => hc.T hR fun k e1 => ite_le (ha.E hR hQ) (hb.E hR hQ)) with
      T := fun hR hQ => hc.T hR fun k e1 => ite_le (ha.T hR hQ) (hb.T hR hQ) }
  | tupn as h => exact SeLe.ofE fun hR hQ => h.A hR fun ds e1 ⟨l, w⟩ => ⟨l, hQ _ _ w⟩
  | lstn as h => exact SeLe.ofE fun hR hQ => h.A hR fun ds e1 ⟨l, w⟩ => ⟨l, hQ _ _ w⟩
  | dnew t => exact SeLe.ofE fun hR hQ => hQ _ _
  | dctn k v hk hv => exact SeLe.ofE fun hR hQ => hk.E hR fun r e1 => fzM fun x e2 => hv.E hR fun r2 e3 => fzM fun y e4 ⟨kk, e, w⟩ => ⟨kk, e, hQ _ _ w⟩
  | dctw k v k' v' hk hv hk' hv' =>
    exact SeLe.ofE fun hR hQ => hk.E hR fun r e1 => fzM fun x e2 => hv.E hR fun r2 e3 => fzM fun y e4 => hk'.E hR fun r e1 => fzM fun x' e2 => hv'.E hR fun r2 e3 => fzM fun y' e4 ⟨kk, kk', e, e', w⟩ => ⟨kk, kk', e, e', hQ _ _ w⟩
  | lrg a b ha hb => exact SeLe.ofE fun hR hQ => ha.E hR fun r e1 => hb.E hR fun r2 e2 => (rd_dt r e2).mono fun x => (rd_dt r2 e2).mono fun y ⟨m, n, h1, h2, h3, w⟩ => ⟨m, n, h1, h2, h3, hQ _ _ w⟩
  | srs a ha => exact SeLe.ofE fun hR hQ => ha.E hR fun r e1 => (rd_dt r e1).mono fun x ⟨ds, h1, xs, h2, h3, w⟩ => ⟨ds, h1, xs, h2, h3, fun ys a b => hQ _ _ (w ys a b)⟩
  | ptn as h => exact SeLe.ofE fun hR hQ => h.A hR fun ds e1 ⟨l, w⟩ => ⟨l, hQ _ _ w⟩
  | fgt a ha => exact SeLe.ofE fun hR hQ => ha.E hR fun r e1 => (rd_dt r e1).mono fun x ⟨ds, e, w⟩ => ⟨ds, e, hQ _ _ w⟩
  | kept i a ha => exact SeLe.ofE fun hR hQ ⟨d, e, w⟩ => ⟨d, e, ha.E hR (fun r e1 ⟨h, x, e, w⟩ => ⟨h, x, e, hQ _ _ w⟩) w⟩
  | nil =>
    exact ⟨fun _ _ h => h.elim, fun hR hQ => hQ _ _, fun hR hQ => hQ _ _, fun hR hQ => hQ _ _, fun {ms env R R' Q Q'} hR hQ => by
      cases ms with
      | nil => exact hQ _ _
      | cons _ _ => exact fun h => h.elim, fun hR hQ => hQ _ _, fun _ _ h => h.elim⟩
  | cons a as ha has =>
    exact ⟨fun _ _ h => h.elim, fun _ _ h => h.elim, fun hR hQ => ha.E hR fun r e1 => fzM fun d e2 => has.A hR fun ds e3 => hQ _ _, fun hR hQ => ha.E hR fun r e1 => has.B hR fun rs e2 => hQ _ _, fun {ms env R R' Q Q'} hR hQ => by
      rcases ms with _ | ⟨_ | _, ms⟩
      · exact fun h => h.elim
      · exact ha.E hR fun r e1 => fzM fun d e2 => has.C hR fun rs e3 => hQ _ _
      · exact ha.E hR fun r e1 ⟨o, w⟩ => ⟨o, has.C hR (fun rs e2 => hQ _ _) w⟩, fun _ _ h => h.elim, fun _ _ h => h.elim⟩
  | call f as h =>
    refine SeLe.ofE fun hR hQ ⟨fi, e, w⟩ => ?_
    obtain ⟨fi', e', io, le⟩ := g.fn f fi e
    refine ⟨fi', e', ?_⟩
    rw [io]
    exact h.C hR (fun rs e1 ⟨n, w⟩ => ⟨n, (rdC_dt fi.io rs e1).mono (fun ds => le ds _ _ _ _ (fun r fs => hQ _ _) fun x fs => hR _ _) w⟩) w
  | blt b as h => exact SeLe.ofE fun hR hQ => h.B hR fun rs e1 => (rds_dt rs e1).mono fun ds => (dBlt_dt b ds).mono fun r => hQ _ _
  | meth m o as ho h => exact SeLe.ofE fun hR hQ => ho.E hR fun r e1 => (rd_dt r e1).mono fun x0 ⟨t, w⟩ => ⟨t, h.B hR (fun rs e2 => (rd_dt r e2).mono fun x => (rds_dt rs e2).mono fun ds => (dMt_dt m x ds).mono fun r => hQ _ _) w⟩
  | «mut» m i as h =>
    refine SeLe.ofE fun {env R R' Q Q'} hR hQ ⟨t, w⟩ => ⟨t, h.A hR (fun ds e1 w => ?_) w⟩
    have mm : ∀ {d : D} {K K' : D → D → Prop}, (∀ a b, K a b → K' a b) → dMm m d ds K → dMm m d ds K' := fun {d K K'} k u => DT.mono (dMm_dt m d ds) (K := fun o => K o.1 o.2) (K' := fun o => K' o.1 o.2) (fun o => k o.1 o.2) u
    split at w
    · exact mm (fun a b => hQ _ _) w
    · exact mm (fun a b => hQ _ _) w
    · exact w.elim
  | idx a i ha hi => exact SeLe.ofE fun hR hQ => ha.E hR fun r e1 => hi.E hR fun r2 e2 => (rd_dt r e2).mono fun x => (rd_dt r2 e2).mono fun y => (dIdx_dt x y).mono fun z => hQ _ _
  | sls a lo hi st ha hl hh hs => exact SeLe.ofE fun hR hQ => ha.E hR fun r e1 => hl.O hR fun l e2 => hh.O hR fun h e3 => hs.O hR fun c e4 ⟨c', ec, w⟩ => ⟨c', ec, (rd_dt r e4).mono (fun x => (dSls_dt x l h c').mono fun z => hQ _ _) w⟩
  | slc a lo hi ha hl hh => exact SeLe.ofE fun hR hQ => ha.E hR fun r e1 => hl.O hR fun l e2 => hh.O hR fun h e3 => (rd_dt r e3).mono fun x => (dSlc_dt x l h).mono fun z => hQ _ _
  | isi a t ha => exact SeLe.ofE fun hR hQ => ha.E hR fun r e1 => (rd_dt r e1).mono fun x => hQ _ _
  | comp vs tg it c e hit hc he => exact SeLe.ofE fun hR hQ => hit.I hR fun is its e1 ⟨l, w⟩ => ⟨l, compW_le (fun d e k k' hk => turn_le hc he d e k k' hk) (fun acc e7 => hQ _ _) w⟩
  | isx i cs => exact SeLe.ofE fun hR hQ ⟨n, f, e, w⟩ => ⟨n, f, e, hQ _ _ w⟩
  | fld i x => exact SeLe.ofE fun hR hQ ⟨n, d, e, e2, w⟩ => ⟨n, d, e, e2, hQ _ _ w⟩
  | callx x i => exact SeLe.ofE fun hR hQ ⟨h, n, f, r, e, e2, e3, w⟩ => ⟨h, n, f, r, g.fx _ _ e, e2, e3, hQ _ _ w⟩
  | zip2 a b ha hb => exact SeLe.ofI fun hR hQ => ha.E hR fun r e1 => hb.E hR fun r2 e2 => srcM fun is x => srcM fun js y ⟨xs, ys, h1, h2, w⟩ => ⟨xs, ys, h1, h2, hQ _ _ _ w⟩
  | zip3 a b c ha hb hc => exact SeLe.ofI fun hR hQ => ha.E hR fun r e1 => hb.E hR fun r2 e2 => hc.E hR fun r3 e3 => srcM fun is x => srcM fun js y => srcM fun ks z ⟨xs, ys, zs, h1, h2, h3, w⟩ => ⟨xs, ys, zs, h1, h2, h3, hQ _ _ _ w⟩
  | enum a ha => exact SeLe.ofI fun hR hQ => ha.E hR fun r e1 => srcM fun is x ⟨xs, h1, w⟩ => ⟨xs, h1, hQ _ _ _ w⟩
  | rng1 a ha => exact SeLe.ofI fun hR hQ => ha.E hR fun r e1 => (rd_dt r e1).mono fun x ⟨n, h1, h2, w⟩ => ⟨n, h1, h2, hQ _ _ _ w⟩
  | rng3 a b c ha hb hc => exact SeLe.ofI fun hR hQ => ha.E hR fun r e1 => hb.E hR fun r2 e2 => hc.E hR fun r3 e3 => (rd_dt r e3).mono fun x => (rd_dt r2 e3).mono fun y => (rd_dt r3 e3).mono fun z ⟨m, n, h1, h2, h3, h4, w⟩ => ⟨m, n, h1, h2, h3, h4, hQ _ _ _ w⟩
  | vals a ha => exact SeLe.ofI fun hR hQ => ha.E hR fun r e1 ⟨kvs, h1, w⟩ => ⟨kvs, h1, hQ _ _ _ w⟩
  | rng2 a b ha hb => exact SeLe.ofI fun hR hQ => ha.E hR fun r e1 => hb.E hR fun r2 e2 => (rd_dt r e2).mono fun x => (rd_dt r2 e2).mono fun y ⟨m, n, h1, h2, h3, w⟩ => ⟨m, n, h1, h2, h3, hQ _ _ _ w⟩
  | compd k vs tg i c e hc he => exact SeLe.ofE fun hR hQ ⟨s, kvs, h1, h2, h3, h4, w⟩ => ⟨s, kvs, h1, h2, h3, h4, compW_le (fun d e k k' hk => turn_le hc he d e k k' hk) (fun acc e7 => hQ _ _) w⟩
structure PLe (P P' : Post) : Prop where
  nx : ∀ e, P.nx e → P'.nx e
  rt : ∀ r e, P.rt r e → P'.rt r e
  bk : ∀ e, P.bk e → P'.bk e
  ct : ∀ e, P.ct e → P'.ct e
theorem forW_le {turn turn' : D → Env → (Env → Prop) → (Env → Prop) → Prop} {ok K K' : Env → Prop} (k : ∀ e, K e → K' e) (h : ∀ d e (n n' : Env → Prop), (∀ e, n e → n' e) → turn d e n K → turn' d e n' K') : ∀ {ds : List D} {env : Env}, forW turn ok K ds env → forW turn' ok K' ds env
  | [], env, ⟨o, u⟩ => ⟨o, k _ u⟩
  | d :: ds, env, ⟨o, u⟩ => ⟨o, h _ _ _ _ (fun e => forW_le k h) u⟩
theorem wpS_le (g : GLe Γ Γ') : ∀ (sm : Sm) {env : Env} {R R' : XP} {P P' : Post}, Le2 R R' → PLe P P' → wpS Γ R sm env P → wpS Γ' R' sm env P' := by
  intro sm
  induction sm with
  | nil => exact fun hR hP => hP.nx _
  | cons a b ha hb => exact fun hR hP => ha hR ⟨fun e => hb hR hP, hP.rt, hP.bk, hP.ct⟩
  | pass => exact fun hR hP => hP.nx _
  | brk => exact fun hR hP => hP.bk _
  | cont => exact fun hR hP => hP.ct _
  | asg t e =>
    intro env R R' P P' hR hP
    cases t with
    | nm j => exact (sem_le g e).E hR fun r e1 => (stS_dt j r e1).mono hP.nx
    | tp ts => exact (sem_le g e).E hR fun r e1 => (rd_dt r e1).mono fun d => (bindT_dt (.tp ts) d e1).mono hP.nx
    | sub i k => exact (sem_le g e).E hR fun r e1 => (rd_dt r e1).mono fun d => (bindT_dt (.sub i k) d e1).mono hP.nx
    | nil => exact (sem_le g e).E hR fun r e1 => (rd_dt r e1).mono fun d => (bindT_dt .nil d e1).mono hP.nx
    | cons a b => exact (sem_le g e).E hR fun r e1 => (rd_dt r e1).mono fun d => (bindT_dt (.cons a b) d e1).mono hP.nx
  | par2 i j a b =>
    intro env R R' P P' hR hP
    refine (sem_le g (.cons a (.cons b .nil))).A hR fun ds e1 w => ?_
    rcases ds with _ | ⟨x, _ | ⟨y, _ | ⟨z, r⟩⟩⟩ <;> first
      | exact False.elim w
      | exact (stS_dt i (.im x) e1).mono (fun e2 => (stS_dt j (.im y) e2).mono hP.nx) w
  | pak2 i j a b =>
    intro env R R' P P' hR hP
    refine (sem_le g a).E hR fun r e1 => (sem_le g b).E hR fun r2 e2 w => ?_
    cases r <;> cases r2 <;> first
      | exact False.elim w
      | exact (stS_dt i _ e2).mono (fun e3 => (stS_dt j _ e3).mono hP.nx) w
  | pak3 i j k a b c =>
    intro env R R' P P' hR hP
    refine (sem_le g a).E hR fun r e1 => (sem_le g b).E hR fun r2 e2 => (sem_le g c).E hR fun r3 e3 w => ?_
    cases r <;> cases r2 <;> cases r3 <;> first
      | exact False.elim w
      | exact (stS_dt i _ e3).mono (fun e4 => (stS_dt j _ e4).mono fun e5 => (stS_dt k _ e5).mono hP.nx) w
  | new2 i j => exact fun hR hP => (stS_dt i _ _).mono fun e2 => (stS_dt j _ e2).mono hP.nx
  | new3 i j k => exact fun hR hP => (stS_dt i _ _).mono fun e2 => (stS_dt j _ e2).mono fun e3 => (stS_dt k _ e3).mono hP.nx
  | par3 i j k a b c =>
    intro env R R' P P' hR hP
    refine (sem_le g (.cons a (.cons b (.cons c .nil)))).A hR fun ds e1 w => ?_
    rcases ds with _ | ⟨x, _ | ⟨y, _ | ⟨z, _ | ⟨u, r⟩⟩⟩⟩ <;> first
      | exact False.elim w
      | exact (stS_dt i (.im x) e1).mono (fun e2 => (stS_dt j (.im y) e2).mono fun e3 => (stS_dt k (.im z) e3).mono hP.nx) w
  | sub i k e =>
    intro env R R' P P' hR hP
    have gen : ∀ (k : Ex) {e2 : Env} {v : D}, (wpE Γ R k e2 fun r2 e3 => rd r2 e3 fun y => wrS i e3 (fun x f => x.isDtt = false ∧ dSet x y v f) P.nx) → wpE Γ' R' k e2 fun r2 e3 => rd r2 e3 fun y => wrS i e3 (fun x f => x.isDtt = false ∧ dSet x y v f) P'.nx := fun k {e2 v} =>
      (sem_le g k).E hR fun r2 e3 => (rd_dt r2 e3).mono fun y => (wrS_dt i e3 _ fun x => DT.and (dSet_dt x y v)).mono hP.nx
    cases k
    case tupn as => exact (sem_le g e).E hR fun r e1 => fzM fun v e2 ⟨o, w⟩ => ⟨o, (sem_le g as).A hR (fun ds e3 ⟨l, w⟩ => ⟨l, (wrS_dt i e3 _ fun x => DT.and (dSet_dt x (.tup ds) v)).mono hP.nx w⟩) w⟩
    all_goals exact (sem_le g e).E hR fun r e1 => fzM fun v e2 ⟨o, w⟩ => ⟨o, gen _ w⟩
  | expr e => exact fun hR hP => (sem_le g e).E hR fun _ e1 => hP.nx _
  | ret e =>
    intro env R R' P P' hR hP
    refine (sem_le g e).E hR fun r e1 w => ?_
    cases r with
    | im d => exact hP.rt _ _ w
    | fr d => exact hP.rt _ _ w
    | bo i =>
      simp only at w ⊢
      split at w
      · exact hP.rt _ _ w
      · exact hP.rt _ _ w
      · exact w.elim
  | retN => exact fun hR hP => hP.rt _ _
  | ifs c a b ha hb => exact fun hR hP => (sem_le g c).T hR fun k e1 => ite_le (ha hR hP) (hb hR hP)
  | whl c b hb =>
    intro env R R' P P' hR hP
    rintro ⟨I, h1, h2⟩
    refine ⟨I, h1, fun m e hm => (sem_le g c).T hR (fun k e1 => ?_) (h2 m e hm)⟩
    refine ite_le (fun w => ?_) (hP.nx _)
    exact hb (P := { nx := fun e2 => ∃ m', m' < m ∧ I m' e2, rt := P.rt, bk := P.nx, ct := fun e2 => ∃ m', m' < m ∧ I m' e2 }) (P' := { nx := fun e2 => ∃ m', m' < m ∧ I m' e2, rt := P'.rt, bk := P'.nx, ct := fun e2 => ∃ m', m' < m ∧ I m' e2 }) hR ⟨fun _ h => h, hP.rt, hP.nx, fun _ h => h⟩ w
  | forr t it b hb =>
    intro env R R' P P' hR hP
    refine (sem_le g it).I hR fun is its e1 => ?_
    refine forW_le (turn := fun d e2 next brk => bindT t d e2 fun e3 => wpS Γ R b e3 { nx := next, rt := P.rt, bk := brk, ct := next }) (turn' := fun d e2 next brk => bindT t d e2 fun e3 => wpS Γ' R' b e3 { nx := next, rt := P'.rt, bk := brk, ct := next }) hP.nx fun d e n n' hn => (bindT_dt t d e).mono fun e3 w => ?_
    exact hb (P := { nx := n, rt := P.rt, bk := P.nx, ct := n }) (P' := { nx := n', rt := P'.rt, bk := P'.nx, ct := n' }) hR ⟨hn, hP.rt, hP.nx, hn⟩ w
  | lend i b hb =>
    intro env R R' P P' hR hP w
    have ln : ∀ {K K' : Env → Prop}, (∀ e, K e → K' e) → ∀ e, lendE i K e → lendE i K' e := fun {K K'} k e u => by
      unfold lendE at u ⊢
      split at u
      · exact k _ u
      · exact u.elim
    have w : (match env[i]? with
      | some (.ow d) => wpS Γ (fun x => lendE i (R x)) b (env.set i (.io d)) (lendP i P)
      | _ => False) := w
    show (match env[i]? with
      | some (.ow d) => wpS Γ' (fun x => lendE i (R' x)) b (env.set i (.io d)) (lendP i P')
      | _ => False)
    split at w
    · exact hb (fun x e => ln (hR x) e) ⟨ln hP.nx, fun r => ln (hP.rt r), ln hP.bk, ln hP.ct⟩ w
    · exact w.elim
  | raise c as =>
    intro env R R' P P' hR hP w
    cases as with
    | nil => exact hR _ _ w
    | cons a b =>
      cases b with
      | nil => exact (sem_le g a).E hR (fun r e1 => fzM fun d e2 => hR _ _) w
      | _ => exact w.elim
    | _ => exact w.elim
  | tryx b c i s hb hs =>
    intro env R R' P P' hR hP w
    have n0 : Le2 noX noX := fun _ _ h => h
    cases i with
    | none => exact hb (R := fun x e => (isaX x.1 c = true → wpS Γ noX s e P) ∧ (isaX x.1 c = false → R x e)) (R' := fun x e => (isaX x.1 c = true → wpS Γ' noX s e P') ∧ (isaX x.1 c = false → R' x e)) (fun x e q => ⟨fun z => hs n0 hP (q.1 z), fun z => hR _ _ (q.2 z)⟩) hP w
    | some i => exact hb (R := fun x e => (isaX x.1 c = true → slX e i ∧ wpS Γ noX s (e.set i (.xc x.1 x.2)) (goneP i P)) ∧ (isaX x.1 c = false → R x e)) (R' := fun x e => (isaX x.1 c = true → slX e i ∧ wpS Γ' noX s (e.set i (.xc x.1 x.2)) (goneP i P')) ∧ (isaX x.1 c = false → R' x e)) (fun x e q => ⟨fun z => ⟨(q.1 z).1, hs n0 ⟨fun _ => hP.nx _, fun _ _ => hP.rt _ _, fun _ => hP.bk _, fun _ => hP.ct _⟩ (q.1 z).2⟩, fun z => hR _ _ (q.2 z)⟩) hP w
/-- what is kept with promises is kept by the body itself -/
theorem canon_of {n : Nat} {sm : Sm} {fi : FI} (g : GLe Γ Γ') (k : Keeps Γ n sm fi) : FLe fi (canon Γ' n sm fi.io) := by
  refine ⟨rfl, fun ds Q Q' E E' hQ hE h => ?_⟩
  obtain ⟨h1, h2, h3⟩ := k ds Q E h
  exact ⟨h1, h2, wpS_le (R := XF fi.io E) (R' := XF fi.io E') (P := PostF fi.io Q) (P' := PostF fi.io Q') g sm (fun x e ⟨fs, q1, q2⟩ => ⟨fs, q1, hE _ _ q2⟩) ⟨fun e ⟨fs, q1, q2⟩ => ⟨fs, q1, hQ _ _ q2⟩, fun r e ⟨fs, q1, q2⟩ => ⟨fs, q1, hQ _ _ q2⟩, fun _ h => h, fun _ h => h⟩ h3⟩
theorem FLe.trans {a b c : FI} (h : FLe a b) (g : FLe b c) : FLe a c := ⟨g.1.trans h.1, fun ds Q Q' E E' hQ hE u => g.2 ds Q' Q' E' E' (fun _ _ h => h) (fun _ _ h => h) (h.2 ds Q Q' E E' hQ hE u)⟩
end
end TG
end
section
namespace TG
open PySem

/-- promises by name -/
def gaT (cs : Cf) (l : List (Str × FI)) : Ga := ⟨fun x => (l.find? fun p => p.1 == x).map (·.2), cs.cs, cs.fx⟩
theorem gaT_fn {cs : Cf} {l : List (Str × FI)} {x : Str} {p : Str × FI} (i : Nat) (h : (l.findIdx? fun p => p.1 == x) = some i) (e : l[i]? = some p) : (gaT cs l).fn x = some p.2 := by
  show (l.find? fun p => p.1 == x).map (·.2) = _
  rw [find_at h e]; rfl
theorem gaT_cs {l : List (Str × D)} {m : List (Str × FI)} {x : Str} {d : Str × D} (i : Nat) (h : (l.findIdx? fun p => p.1 == x) = some i) (e : l[i]? = some d) : (gaT (csOf l) m).cs x = some d.2 := by
  show (l.find? fun p => p.1 == x).map (·.2) = _
  rw [find_at h e]; rfl
theorem gaX_cs {l : List (Str × D)} {hl : List Dh} {m : List (Str × FI)} {x : Str} {d : Str × D} (i : Nat) (h : (l.findIdx? fun p => p.1 == x) = some i) (e : l[i]? = some d) : (gaT (csX l hl) m).cs x = some d.2 := by
  show (l.find? fun p => p.1 == x).map (·.2) = _
  rw [find_at h e]; rfl
theorem gaX_fx {l : List (Str × D)} {hl : List Dh} {m : List (Str × FI)} {x : Str} {d : Dh} (i : Nat) (h : (hl.findIdx? fun p => p.x == x) = some i) (e : hl[i]? = some d) : (gaT (csX l hl) m).fx x = some d.h := by
  show (hl.find? fun p => p.x == x).map (·.h) = _
  rw [find_at h e]; rfl
def AllP (P : Str × FI → Prop) : List (Str × FI) → Prop
  | [] => True
  | p :: l => P p ∧ AllP P l
theorem all_p {P : Str × FI → Prop} : ∀ {l : List (Str × FI)}, AllP P l → ∀ p ∈ l, P p
  | [], _, p, h => nomatch h
  | q :: l, k, p, h => (List.mem_cons.mp h).elim (fun e => by rw [e]; exact k.1) fun e => all_p k.2 p e
theorem gle_mk {cs : Cf} {l : List (Str × FI)} {rest : List Df} (h : AllP (fun p => ∃ fi', (gam cs rest).fn p.1 = some fi' ∧ FLe p.2 fi') l) : GLe (gaT cs l) (gam cs rest) := by
  refine ⟨fun x d e => e, (fun f fi e => ?_), fun x h e => e⟩
  obtain ⟨p, e1, e2⟩ := Option.map_eq_some_iff.mp (show (l.find? fun p => p.1 == f).map (·.2) = some fi from e)
  have hm := List.mem_of_find?_eq_some e1
  have hx := List.find?_some e1
  have hx : p.1 = f := by simpa using hx
  obtain ⟨fi', h1, h2⟩ := all_p h p hm
  rw [← hx, ← e2]
  exact ⟨fi', h1, h2⟩
theorem gdet_mk {cs : Cf} {rest : List Df} (h : AllD (fun e => FDet e.fi) rest) : GDet (gam cs rest) := by
  intro f fi e
  obtain ⟨c, e1, e2⟩ := Option.map_eq_some_iff.mp (show (rest.find? fun d => d.x == f).map (·.fi) = some fi from e)
  rw [← e2]
  exact all_d h c (List.mem_of_find?_eq_some e1)
/-- of a def with one outcome: what it tells of arguments of which something was promised -/
theorem one_out {c : FI} (d : FDet c) {ds : List D} {P : Rv → List D → Prop} (h : c.sp ds P fun _ _ => False) : ∃ r fs, P r fs ∧ ∀ Q E, Q r fs → c.sp ds Q E := by
  rcases d ds with n | ⟨o, h'⟩
  · exact (n (fun o => match o with | .inl _ => False | .inr (r, fs) => P r fs) h).elim
  · have q := (h' (fun o => match o with | .inl _ => False | .inr (r, fs) => P r fs)).mp h
    rcases o with x | ⟨r, fs⟩
    · exact q.elim
    · exact ⟨r, fs, q, fun Q E k => (h' (fun o => match o with | .inl (x, fs) => E x fs | .inr (r, fs) => Q r fs)).mpr k⟩
end TG
end
section
namespace LW
open PySem TG
local macro_rules
  | `(tactic| simp_arith [$xs,*]) => `(tactic| try simp only [↓S_nil, ↓S_cons, ↓S_pass, ↓S_asg, ↓S_asgt, ↓S_par2, ↓S_par3, ↓S_pak2, ↓S_pak3, ↓S_new2, ↓S_new3, ↓S_subT, ↓S_expr, ↓S_ret, ↓S_retN, ↓S_ifs, ↓E_var, ↓E_cint, ↓E_cstr, ↓E_cbl, ↓E_cnon, ↓E_glob, ↓E_bin, ↓E_neg, ↓E_cmp, ↓E_chain, ↓E_andn, ↓E_orn, ↓E_notn, ↓E_ife, ↓E_tupn, ↓E_ptn, ↓E_lrg, ↓E_srs, ↓E_lstn, ↓E_dnew, ↓E_dctn, ↓E_dctw, ↓E_fgt, ↓E_blt, ↓E_meth, ↓E_mut, ↓E_idx, ↓E_slc, ↓E_sls, ↓E_isi, ↓T_var, ↓T_cint, ↓T_cstr, ↓T_cbl, ↓T_glob, ↓T_bin, ↓T_cmp, ↓T_neg, ↓T_chain, ↓T_call, ↓T_blt, ↓T_meth, ↓T_idx, ↓T_slc, ↓T_sls, ↓T_isi, ↓T_comp, ↓T_tupn, ↓T_lstn, ↓T_andn, ↓T_orn, ↓T_notn, ↓T_ife, ↓T_nil, ↓T_fgt, ↓O_nil, ↓O_var, ↓O_cint, ↓O_neg, ↓O_bin, ↓O_blt, ↓O_glob, ↓A_nil, ↓A_cons, ↓B_nil, ↓B_cons, ↓C_nil, ↓C_io, ↓C_im, ↓rd_im, ↓rd_fr, ↓rd_bo, ↓fz_im, ↓fz_fr, ↓fz_bo, ↓rds_nil, ↓rds_cons, ↓ret_im, ↓ret_fr, ↓ret_bo, ↓rdC_nil, ↓rdC_im, ↓rdC_fr, ↓rdC_bo, bos_nil, bos_im, bos_fr, bos_bo, nd_nil, nd_one, ↓putB_nil, ↓putB_im, ↓putB_fr, ↓putB_bo, ↓ex_some, ↓ex_int, ↓ex_ptp, ↓post_nx, ↓post_rt, tru_bl, tru_int, tru_lst, tru_tup, tru_non, cmp_eq_int, cmp_ne_int, cmp_lt_int, cmp_le_int, cmp_gt_int, cmp_ge_int, cmp_lt_str, finsE, env0, List.getElem?_cons_zero, List.getElem?_cons_succ, List.length_cons, List.length_nil, List.replicate, List.cons_append, List.nil_append, List.append_nil, reduceIte, Bool.not_true, Bool.not_false, Bool.false_eq_true, if_true, if_false, true_and, and_true, ite_true, ite_false, Option.map_some, List.set_cons_zero, List.set_cons_succ, dIsi, $xs,*])
def topS (i : Nat) : Stmt := PySem.Challenge.pw_twogoods_k61_fractions_reckoned.main.body.getD i (.Pass ⟨0, 0, 0, 0⟩)
def bl : List Str := (["ValueError", "abs", "all", "bool", "divmod", "enumerate", "int", "isinstance", "len", "max", "min", "range", "tuple", "!NoNumber", "?GoodsError", "?NoWeb", "?NoPlace", "?NoTie", "?NoLot", "?NoWishes"] : List Str) ++ (["?NoFlow", "?NotPaired", "?NoRoom", "?NotEven", "?NoTrade", "?NoNumber", "?NoText", "?NoRow", "?NoName"] : List Str)
def xkL : List Str := ["NoNumber"]
def xtL : List Str := ["GoodsError", "NoWeb", "NoPlace", "NoTie", "NoLot", "NoWishes", "NoFlow", "NotPaired", "NoRoom", "NotEven", "NoTrade", "NoNumber", "NoText", "NoRow", "NoName"]
def csL : List (Str × D) := []
def N_common_divisor : List Str := ["one", "other"]
def ps_common_divisor : List Str := ["one", "other"]
def io_common_divisor : List Bool := [false, false]
def sm_common_divisor : Sm := .cons (.whl (.cmp .NotEq (.var 1) (.cint 0)) (.cons (.par2 0 1 (.var 1) (.bin .Mod (.var 0) (.var 1))) (.nil))) (.cons (.ret (.var 0)) (.nil))
def N_fraction : List Str := ["above", "below", "by"]
def ps_fraction : List Str := ["above", "below"]
def io_fraction : List Bool := [false, false]
def sm_fraction : Sm := .cons (.ifs (.cmp .Eq (.var 1) (.cint 0)) (.cons (.raise "NoNumber" .nil) (.nil)) (.nil)) (.cons (.ifs (.cmp .Lt (.var 1) (.cint 0)) (.cons (.par2 0 1 (.neg (.var 0)) (.neg (.var 1))) (.nil)) (.nil)) (.cons (.asg (.nm 2) (.call "common_divisor" (.cons (.blt .abs (.cons (.var 0) (.nil))) (.cons (.var 1) (.nil))))) (.cons (.ret (.tupn (.cons (.bin .FloorDiv (.var 0) (.var 2)) (.cons (.bin .FloorDiv (.var 1) (.var 2)) (.nil))))) (.nil))))
def N_fraction_sum : List Str := ["one", "other"]
def ps_fraction_sum : List Str := ["one", "other"]
def io_fraction_sum : List Bool := [false, false]
def sm_fraction_sum : Sm := .cons (.ret (.call "fraction" (.cons (.bin .Add (.bin .Mult (.idx (.var 0) (.cint 0)) (.idx (.var 1) (.cint 1))) (.bin .Mult (.idx (.var 1) (.cint 0)) (.idx (.var 0) (.cint 1)))) (.cons (.bin .Mult (.idx (.var 0) (.cint 1)) (.idx (.var 1) (.cint 1))) (.nil))))) (.nil)
def N_fraction_times : List Str := ["one", "other"]
def ps_fraction_times : List Str := ["one", "other"]
def io_fraction_times : List Bool := [false, false]
def sm_fraction_times : Sm := .cons (.ret (.call "fraction" (.cons (.bin .Mult (.idx (.var 0) (.cint 0)) (.idx (.var 1) (.cint 0))) (.cons (.bin .Mult (.idx (.var 0) (.cint 1)) (.idx (.var 1) (.cint 1))) (.nil))))) (.nil)
def N_is_less : List Str := ["one", "other"]
def ps_is_less : List Str := ["one", "other"]
def io_is_less : List Bool := [false, false]
def sm_is_less : Sm := .cons (.ret (.cmp .Lt (.bin .Mult (.idx (.var 0) (.cint 0)) (.idx (.var 1) (.cint 1))) (.bin .Mult (.idx (.var 1) (.cint 0)) (.idx (.var 0) (.cint 1))))) (.nil)
def N__law_pot : List Str := ["_law_script", "_law_k", "_law_cell"]
def ps__law_pot : List Str := ["_law_script", "_law_k"]
def io__law_pot : List Bool := [false, false]
def sm__law_pot : Sm := .cons (.asg (.nm 2) (.bin .Add (.bin .Mult (.cint 7) (.var 1)) (.cint 5))) (.cons (.ifs (.cmp .Lt (.var 1) (.blt .len (.cons (.var 0) (.nil)))) (.cons (.asg (.nm 2) (.idx (.var 0) (.var 1))) (.nil)) (.nil)) (.cons (.ret (.lstn (.cons (.blt .max (.cons (.cint 0) (.cons (.bin .Sub (.blt .abs (.cons (.var 2) (.nil))) (.bin .Pow (.cint 10) (.cint 18))) (.nil)))) (.cons (.bin .Add (.bin .Mod (.blt .abs (.cons (.var 2) (.nil))) (.cint 2147483579)) (.cint 1)) (.nil))))) (.nil)))
def N__law_take : List Str := ["_law_pot_here", "_law_many", "_law_digit"]
def ps__law_take : List Str := ["_law_pot_here", "_law_many"]
def io__law_take : List Bool := [true, false]
def sm__law_take : Sm := .cons (.ifs (.cmp .Gt (.idx (.var 0) (.cint 0)) (.cint 0)) (.cons (.asg (.tp (.cons (.sub 0 0) (.cons (.nm 2) (.nil)))) (.blt .divmod (.cons (.idx (.var 0) (.cint 0)) (.cons (.var 1) (.nil))))) (.cons (.ret (.var 2)) (.nil))) (.nil)) (.cons (.sub 0 (.cint 1) (.bin .Mod (.bin .Add (.bin .Mult (.idx (.var 0) (.cint 1)) (.cint 48271)) (.cint 12345)) (.cint 2147483647))) (.cons (.ret (.bin .Mod (.bin .FloorDiv (.bin .Mod (.bin .Mult (.idx (.var 0) (.cint 1)) (.idx (.var 0) (.cint 1))) (.cint 2147483629)) (.cint 5)) (.var 1))) (.nil)))
def N__law_number : List Str := ["_law_pot_here", "_law_way", "_law_size"]
def ps__law_number : List Str := ["_law_pot_here"]
def io__law_number : List Bool := [true]
def sm__law_number : Sm := .cons (.asg (.nm 1) (.call "_law_take" (.cons (.var 0) (.cons (.cint 4) (.nil))))) (.cons (.asg (.nm 2) (.idx (.lstn (.cons (.cint 4) (.cons (.cint 13) (.cons (.cint 1000) (.cons (.bin .Pow (.cint 10) (.cint 31)) (.nil)))))) (.var 1))) (.cons (.ret (.bin .Add (.bin .Sub (.call "_law_take" (.cons (.var 0) (.cons (.bin .Sub (.bin .Mult (.cint 2) (.var 2)) (.cint 1)) (.nil)))) (.var 2)) (.cint 1))) (.nil)))
def N__law_is_it : List Str := ["_law_found", "_law_above", "_law_below", "_law_one", "_law_other", "_law_part"]
def ps__law_is_it : List Str := ["_law_found", "_law_above", "_law_below"]
def io__law_is_it : List Bool := [false, false, false]
def sm__law_is_it : Sm := .cons (.ifs (.orn (.notn (.isi (.var 0) .tuple)) (.cmp .NotEq (.blt .len (.cons (.var 0) (.nil))) (.cint 2))) (.cons (.ret (.cbl false)) (.nil)) (.nil)) (.cons (.ifs (.orn (.notn (.blt .all (.cons (.comp [5] (.nm 5) (.var 0) (.nil) (.andn (.isi (.var 5) .int) (.notn (.isi (.var 5) .bool)))) (.nil)))) (.cmp .Lt (.idx (.var 0) (.cint 1)) (.cint 1))) (.cons (.ret (.cbl false)) (.nil)) (.nil)) (.cons (.par2 3 4 (.blt .abs (.cons (.idx (.var 0) (.cint 0)) (.nil))) (.idx (.var 0) (.cint 1))) (.cons (.whl (.cmp .NotEq (.var 4) (.cint 0)) (.cons (.par2 3 4 (.var 4) (.bin .Mod (.var 3) (.var 4))) (.nil))) (.cons (.ret (.andn (.cmp .Eq (.var 3) (.cint 1)) (.cmp .Eq (.bin .Mult (.idx (.var 0) (.cint 0)) (.var 2)) (.bin .Mult (.var 1) (.idx (.var 0) (.cint 1)))))) (.nil)))))
def N__law_kinds : List Str := ["_law_e", "_law_found", "_law_k", "_law_so"]
def ps__law_kinds : List Str := ["_law_e"]
def io__law_kinds : List Bool := [false]
def sm__law_kinds : Sm := .cons (.asg (.nm 1) (.lstn (.cons (.isx 0 ["NoWeb"]) (.cons (.isx 0 ["NoPlace"]) (.cons (.isx 0 ["NoTie"]) (.cons (.isx 0 ["NoLot"]) (.nil))))))) (.cons (.asg (.nm 1) (.bin .Add (.var 1) (.lstn (.cons (.isx 0 ["NoWishes"]) (.cons (.isx 0 ["NoFlow"]) (.cons (.isx 0 ["NotPaired"]) (.cons (.isx 0 ["NoRoom"]) (.nil)))))))) (.cons (.asg (.nm 1) (.bin .Add (.var 1) (.lstn (.cons (.isx 0 ["NotEven"]) (.cons (.isx 0 ["NoTrade"]) (.cons (.isx 0 ["NoNumber"]) (.cons (.isx 0 ["NoText"]) (.nil)))))))) (.cons (.asg (.nm 1) (.bin .Add (.var 1) (.lstn (.cons (.isx 0 ["NoRow"]) (.cons (.isx 0 ["NoName"]) (.cons (.notn (.isx 0 ["ValueError"])) (.nil))))))) (.cons (.ret (.comp [2, 3] (.tp (.cons (.nm 2) (.cons (.nm 3) (.nil)))) (.enum (.var 1)) (.var 3) (.var 2))) (.nil)))))
def N__law_by_nought : List Str := ["_law_above", "_law_told", "_law_e"]
def ps__law_by_nought : List Str := ["_law_above"]
def io__law_by_nought : List Bool := [false]
def sm__law_by_nought : Sm := .cons (.asg (.nm 1) (.lstn (.nil))) (.cons (.tryx (.cons (.expr (.call "fraction" (.cons (.var 0) (.cons (.cint 0) (.nil))))) (.nil)) "GoodsError" (some 2) (.cons (.asg (.nm 1) (.callx "_law_kinds" 2)) (.nil))) (.cons (.ret (.cmp .Eq (.var 1) (.lstn (.cons (.cint 10) (.nil))))) (.nil)))
def N__law_right : List Str := ["_law_a", "_law_b", "_law_c", "_law_d", "_law_one", "_law_other", "_law_both", "_law_is_so", "_law_found"]
def ps__law_right : List Str := ["_law_a", "_law_b", "_law_c", "_law_d"]
def io__law_right : List Bool := [false, false, false, false]
def sm__law_right : Sm := .cons (.par2 4 5 (.call "fraction" (.cons (.var 0) (.cons (.var 1) (.nil)))) (.call "fraction" (.cons (.var 2) (.cons (.var 3) (.nil))))) (.cons (.ifs (.orn (.notn (.call "_law_is_it" (.cons (.var 4) (.cons (.var 0) (.cons (.var 1) (.nil)))))) (.notn (.call "_law_is_it" (.cons (.var 5) (.cons (.var 2) (.cons (.var 3) (.nil))))))) (.cons (.ret (.cbl false)) (.nil)) (.nil)) (.cons (.asg (.nm 6) (.call "fraction_sum" (.cons (.var 4) (.cons (.var 5) (.nil))))) (.cons (.ifs (.orn (.notn (.call "_law_is_it" (.cons (.var 6) (.cons (.bin .Add (.bin .Mult (.var 0) (.var 3)) (.bin .Mult (.var 2) (.var 1))) (.cons (.bin .Mult (.var 1) (.var 3)) (.nil)))))) (.cmp .NotEq (.call "fraction_sum" (.cons (.var 5) (.cons (.var 4) (.nil)))) (.var 6))) (.cons (.ret (.cbl false)) (.nil)) (.nil)) (.cons (.ifs (.notn (.call "_law_is_it" (.cons (.call "fraction_times" (.cons (.var 4) (.cons (.var 5) (.nil)))) (.cons (.bin .Mult (.var 0) (.var 2)) (.cons (.bin .Mult (.var 1) (.var 3)) (.nil)))))) (.cons (.ret (.cbl false)) (.nil)) (.nil)) (.cons (.asg (.nm 7) (.cmp .Lt (.bin .Mult (.idx (.var 4) (.cint 0)) (.idx (.var 5) (.cint 1))) (.bin .Mult (.idx (.var 5) (.cint 0)) (.idx (.var 4) (.cint 1))))) (.cons (.asg (.nm 8) (.call "is_less" (.cons (.var 4) (.cons (.var 5) (.nil))))) (.cons (.ret (.andn (.isi (.var 8) .bool) (.andn (.cmp .Eq (.var 8) (.var 7)) (.andn (.cmp .Is (.call "is_less" (.cons (.var 4) (.cons (.var 4) (.nil)))) (.cbl false)) (.cmp .Is (.call "is_less" (.cons (.var 6) (.cons (.var 6) (.nil)))) (.cbl false)))))) (.nil))))))))
def N_law : List Str := ["_law_script", "_law_k", "_law_pot_here", "_law_a", "_law_b", "_law_c", "_law_d", "_law_m", "_law_n", "_law_x", "_law_y", "_law_j", "_law_number_here"]
def ps_law : List Str := ["_law_script"]
def io_law : List Bool := [false]
def sm_law : Sm := .cons (.forr (.nm 1) (.rng1 (.blt .max (.cons (.cint 2) (.cons (.blt .min (.cons (.cint 12) (.cons (.blt .len (.cons (.var 0) (.nil))) (.nil)))) (.nil))))) (.cons (.asg (.nm 2) (.call "_law_pot" (.cons (.var 0) (.cons (.var 1) (.nil))))) (.cons (.asg (.tp (.cons (.nm 3) (.cons (.nm 4) (.cons (.nm 5) (.cons (.nm 6) (.nil)))))) (.comp [11] (.nm 11) (.rng1 (.cint 4)) (.nil) (.call "_law_number" (.cons (.var 2) (.nil))))) (.cons (.ifs (.notn (.call "_law_by_nought" (.cons (.var 3) (.nil)))) (.cons (.ret (.cbl false)) (.nil)) (.nil)) (.cons (.ifs (.orn (.cmp .Eq (.var 4) (.cint 0)) (.cmp .Eq (.var 6) (.cint 0))) (.cons (.par2 4 6 (.orn (.var 4) (.cint 7)) (.orn (.var 6) (.neg (.cint 5)))) (.nil)) (.nil)) (.cons (.ifs (.orn (.notn (.call "_law_right" (.cons (.var 3) (.cons (.var 4) (.cons (.var 5) (.cons (.var 6) (.nil))))))) (.notn (.call "_law_right" (.cons (.var 3) (.cons (.var 4) (.cons (.neg (.var 3)) (.cons (.var 4) (.nil)))))))) (.cons (.ret (.cbl false)) (.nil)) (.nil)) (.cons (.asg (.tp (.cons (.nm 7) (.cons (.nm 8) (.cons (.nm 9) (.cons (.nm 10) (.nil)))))) (.comp [12] (.nm 12) (.tupn (.cons (.var 3) (.cons (.var 4) (.cons (.var 5) (.cons (.var 6) (.nil)))))) (.nil) (.bin .Sub (.bin .Mod (.var 12) (.bin .Pow (.cint 10) (.cint 15))) (.bin .Pow (.cint 10) (.cint 14))))) (.cons (.ifs (.notn (.call "_law_right" (.cons (.bin .Mult (.var 7) (.var 9)) (.cons (.bin .Add (.bin .Mult (.bin .Mult (.cint 7) (.var 8)) (.var 8)) (.cint 1)) (.cons (.var 9) (.cons (.bin .Sub (.neg (.cint 1)) (.bin .Mult (.var 10) (.var 10))) (.nil))))))) (.cons (.ret (.cbl false)) (.nil)) (.nil)) (.nil))))))))) (.cons (.ret (.cbl true)) (.nil))
theorem at0 {α : Type} {a : α} {l : List α} : L2.atI (a :: l) 0 = some a := L2.atI_nat (j := 0) rfl
theorem at1 {α : Type} {a b : α} {l : List α} : L2.atI (a :: b :: l) 1 = some b := L2.atI_nat (j := 1) rfl
theorem at2 {α : Type} {a b c : α} {l : List α} : L2.atI (a :: b :: c :: l) 2 = some c := L2.atI_nat (j := 2) rfl
theorem at3 {α : Type} {a b c d : α} {l : List α} : L2.atI (a :: b :: c :: d :: l) 3 = some d := L2.atI_nat (j := 3) rfl
theorem idx_t0 {a : D} {l : List D} {K : D → Prop} : dIdx (.tup (a :: l)) (.int 0) K = K a := propext ⟨fun ⟨d, e, q⟩ => by rw [at0] at e; cases e; exact q, fun q => ⟨a, at0, q⟩⟩
theorem idx_t1 {a b : D} {l : List D} {K : D → Prop} : dIdx (.tup (a :: b :: l)) (.int 1) K = K b := propext ⟨fun ⟨d, e, q⟩ => by rw [at1] at e; cases e; exact q, fun q => ⟨b, at1, q⟩⟩
theorem bI_add {i j : Int} {K : Rv → Prop} : dBin .Add (.int i) (.int j) K = K (.im (.int (i + j))) := rfl
theorem bI_sub {i j : Int} {K : Rv → Prop} : dBin .Sub (.int i) (.int j) K = K (.im (.int (i - j))) := rfl
theorem bI_mul {i j : Int} {K : Rv → Prop} : dBin .Mult (.int i) (.int j) K = (IntMulOk i j ∧ K (.im (.int (i * j)))) := rfl
theorem bI_mod {i j : Int} {K : Rv → Prop} : dBin .Mod (.int i) (.int j) K = (0 < j ∧ K (.im (.int (i % j)))) := rfl
theorem bI_pow {i j : Int} {K : Rv → Prop} : dBin .Pow (.int i) (.int j) K = (L2.CPow i j ∧ K (.im (.int (i ^ j.toNat)))) := rfl
theorem bI_div {i j : Int} {K : Rv → Prop} : dBin .FloorDiv (.int i) (.int j) K = ((0 < j ∧ Builtin.divisionGoesByPylong i j = false) ∧ K (.im (.int (i / j)))) := rfl
theorem mulok3 {x y : Int} (hx : x.natAbs < 2 ^ 300) (hy : y.natAbs < 2 ^ 300) : IntMulOk x y := IntMulOk.of_le (PySem.intBits_le_iff.mpr hx) (PySem.intBits_le_iff.mpr hy) (by omega)
theorem log_le {n k : Nat} (h : n < 2 ^ (k + 1)) : n.log2 ≤ k := by
  by_cases z : n = 0
  · subst z; simp
  · have := (Nat.log2_lt z).mpr h
    omega
theorem div_plain {a m : Int} (h1 : 1 ≤ m) (h2 : m.natAbs < 2 ^ 300) : Builtin.divisionGoesByPylong a m = false := by
  unfold Builtin.divisionGoesByPylong
  have : m.natAbs.log2 ≤ 299 := log_le h2
  have h0 : (m == 0) = false := by simp; omega
  simp only [h0, Bool.false_eq_true, if_false]
  rw [show decide (m.natAbs.log2 / 30 + 1 > 300) = false from decide_eq_false (by omega)]
  rfl
theorem bls_fm (f : D → Bool) : ∀ ds : List D, blsD (ds.filterMap fun d => some (.bl (f d))) = some (ds.map f)
  | [] => rfl
  | d :: ds => by
    show blsD (.bl (f d) :: ds.filterMap fun d => some (.bl (f d))) = _
    rw [blsD, bls_fm f ds]; rfl
structure PotOk (p q : Int) : Prop where
  p0 : 0 ≤ p
  q0 : 0 ≤ q
  q1 : q < 2147483648
def potD (p q : Int) : D := .lst [.int p, .int q]
def fi__law_pot : FI := { io := [false, false], sp := fun ds Q _ => ∃ (ns : List Int) (k : Nat), ds = [.scr (ns.map .int), .int k] ∧ k ≤ 1000 ∧ ∀ p q, PotOk p q → Q (.fr (potD p q)) [] }
theorem ioF__law_pot : fi__law_pot.io = [false, false] := rfl
theorem pot_end {Γ : Ga} {R : XP} {ns : List Int} {k : Nat} {c : Int} {P : Post} (h : ∀ p q, PotOk p q → P.rt (.fr (potD p q)) [.im (.scr (ns.map .int)), .im (.int k), .im (.int c)]) : wpS Γ R (.cons (.ret (.lstn (.cons (.blt .max (.cons (.cint 0) (.cons (.bin .Sub (.blt .abs (.cons (.var 2) (.nil))) (.bin .Pow (.cint 10) (.cint 18))) (.nil)))) (.cons (.bin .Add (.bin .Mod (.blt .abs (.cons (.var 2) (.nil))) (.cint 2147483579)) (.cint 1)) (.nil))))) (.nil)) [.im (.scr (ns.map .int)), .im (.int k), .im (.int c)] P := by
  simp_arith [dBlt, dd_max, ub, b_max, dd_abs, un, u_abs, bI_sub, bI_pow, bI_mod, bI_add, sl_0, sl_1, sl_2, sl_3, sl_4, sl_5, sl_6, sl_7, sl_8, sl_9, sl_10, sl_11, sl_12, sl_13, sl_14, sl_15, sl_16, sl_17, sl_18, sl_19, sl_20, sl_21, sl_22, sl_23, sl_24, sl_25, sl_26, sl_27, sl_28, sl_29, sl_30]
  generalize hc : (if c < 0 then -c else c) = a
  have a0 : 0 ≤ a := by rw [← hc]; split <;> omega
  generalize hb : a % 2147483579 = b
  have h1 : 0 ≤ b := by rw [← hb]; exact Int.emod_nonneg _ (by decide)
  have h2 : b < 2147483579 := by rw [← hb]; exact Int.emod_lt_of_pos _ (by decide)
  refine ⟨⟨by decide, by decide, by decide⟩, by decide, ?_⟩
  refine h _ _ ⟨?_, ?_, ?_⟩
  · split <;> omega
  · omega
  · omega
theorem k__law_pot (Γ : Ga) : Keeps Γ 3 sm__law_pot fi__law_pot := by
  rintro ds Q E ⟨ns, k, rfl, hk, q⟩
  refine ⟨rfl, by decide, ?_⟩
  unfold sm__law_pot
  refine S_seq fun nx hnx => ?_
  simp_arith [fi__law_pot, bI_add, bI_mul, stS]
  refine ⟨mulok3 (by decide) (by omega), ?_⟩
  rw [hnx]
  clear hnx
  refine S_seq fun nx hnx => ?_
  simp_arith [dBlt, dd_len, un, u_len, List.length_map]
  have fin : ∀ p q', PotOk p q' → ∀ c : Int, (PostF [false, false] Q).rt (.fr (potD p q')) [.im (.scr (ns.map .int)), .im (.int k), .im (.int c)] := fun p q' ok c => ⟨[], rfl, q p q' ok⟩
  by_cases h : (k : Int) < (ns.length : Int)
  · rw [decide_eq_true h]
    have hk : k < ns.length := by omega
    simp_arith [dIdx]
    refine ⟨.int ns[k], L2.atI_nat (by rw [List.getElem?_map, List.getElem?_eq_getElem hk]; rfl), ?_⟩
    simp_arith [stS]
    rw [hnx]
    clear hnx
    exact pot_end fun p q' ok => fin p q' ok _
  · rw [decide_eq_false h]
    simp_arith []
    rw [hnx]
    clear hnx
    exact pot_end fun p q' ok => fin p q' ok _
def fi__law_take : FI := { io := [true, false], sp := fun ds Q _ => ∃ p q m, ds = [potD p q, .int m] ∧ PotOk p q ∧ 1 ≤ m ∧ m < 2 ^ 200 ∧ ∀ x p' q', 0 ≤ x → x < m → PotOk p' q' → Q (.im (.int x)) [potD p' q'] }
theorem ioF__law_take : fi__law_take.io = [true, false] := rfl
theorem k__law_take (Γ : Ga) : Keeps Γ 3 sm__law_take fi__law_take := by
  rintro ds Q E ⟨p, q, m, rfl, ⟨p0, q0, q1⟩, m1, m2, hq⟩
  refine ⟨rfl, by decide, ?_⟩
  unfold sm__law_take
  refine S_seq fun nx hnx => ?_
  simp_arith [fi__law_take, potD, dIdx, at0, at1]
  by_cases h : 0 < p
  · rw [decide_eq_true h]
    simp_arith [dBlt, dd_divmod, bi, b_divmod, dIdx, at0]
    refine ⟨⟨by omega, div_plain m1 (by omega)⟩, ?_⟩
    simp_arith [bindT, bindTs, Tg.len, wrS, dSet, stS]
    refine ⟨0, rfl, ?_⟩
    simp_arith [stS, potD]
    first | exact (hq (p % m) (p / m) q (Int.emod_nonneg _ (by omega)) (Int.emod_lt_of_pos _ (by omega)) ⟨Int.ediv_nonneg p0 (by omega), q0, q1⟩) | exact ⟨[], rfl, (hq (p % m) (p / m) q (Int.emod_nonneg _ (by omega)) (Int.emod_lt_of_pos _ (by omega)) ⟨Int.ediv_nonneg p0 (by omega), q0, q1⟩)⟩ | exact ⟨_, rfl, (hq (p % m) (p / m) q (Int.emod_nonneg _ (by omega)) (Int.emod_lt_of_pos _ (by omega)) ⟨Int.ediv_nonneg p0 (by omega), q0, q1⟩)⟩
  · rw [decide_eq_false h]
    simp_arith []
    rw [hnx]
    clear hnx
    refine S_seq fun nx hnx => ?_
    rw [S_sub rfl]
    simp_arith [dIdx, at1, dBin, isOwn, wrS, dSet, D.isDtt]
    refine ⟨mulok3 (by omega) (by decide), by decide, 1, rfl, ?_⟩
    rw [hnx]
    clear hnx
    generalize hq' : (q * 48271 + 12345) % 2147483647 = q2
    have b0 : 0 ≤ q2 := by rw [← hq']; exact Int.emod_nonneg _ (by decide)
    have b1 : q2 < 2147483647 := by rw [← hq']; exact Int.emod_lt_of_pos _ (by decide)
    simp_arith [dIdx, at1, dBin]
    refine ⟨mulok3 (by omega) (by omega), by decide, ⟨by decide, div_plain (by decide) (by decide)⟩, by omega, ?_⟩
    first | exact (hq _ p q2 (Int.emod_nonneg _ (by omega)) (Int.emod_lt_of_pos _ (by omega)) ⟨p0, b0, by omega⟩) | exact ⟨[], rfl, (hq _ p q2 (Int.emod_nonneg _ (by omega)) (Int.emod_lt_of_pos _ (by omega)) ⟨p0, b0, by omega⟩)⟩ | exact ⟨_, rfl, (hq _ p q2 (Int.emod_nonneg _ (by omega)) (Int.emod_lt_of_pos _ (by omega)) ⟨p0, b0, by omega⟩)⟩
def fi__law_number : FI := { io := [true], sp := fun ds Q _ => ∃ p q, ds = [potD p q] ∧ PotOk p q ∧ ∀ (x : Int) p' q', x.natAbs < 2 ^ 103 → PotOk p' q' → Q (.im (.int x)) [potD p' q'] }
theorem ioF__law_number : fi__law_number.io = [true] := rfl
theorem k__law_number (Γ : Ga) (h1 : Γ.fn "_law_take" = some fi__law_take) : Keeps Γ 3 sm__law_number fi__law_number := by
  rintro ds Q E ⟨p, q, rfl, ok, hq⟩
  refine ⟨rfl, by decide, ?_⟩
  unfold sm__law_number
  refine S_seq fun nx hnx => ?_
  simp_arith [fi__law_number, ↓E_call' h1, ioF__law_take, isOwnR, isOwn, potD]
  refine Exists.intro p ?_
  refine ⟨q, 4, rfl, ok, by decide, by decide, fun y p1 q1 y0 y1 ok1 => ?_⟩
  simp_arith [putS, potD, stS]
  rw [hnx]
  clear hnx
  refine S_seq fun nx hnx => ?_
  simp_arith [bI_pow, dIdx, sl_0, sl_1, sl_2, sl_3, sl_4, sl_5, sl_6, sl_7, sl_8, sl_9, sl_10, sl_11, sl_12, sl_13, sl_14, sl_15, sl_16, sl_17, sl_18, sl_19, sl_20, sl_21, sl_22, sl_23, sl_24, sl_25, sl_26, sl_27, sl_28, sl_29, sl_30]
  have key : ∃ s : Int, 1 ≤ s ∧ s ≤ 10 ^ 31 ∧ L2.atI [D.int 4, .int 13, .int 1000, .int (10 ^ (31 : Int).toNat)] y = some (.int s) := by
    obtain ⟨n, rfl⟩ := Int.eq_ofNat_of_zero_le y0
    have : n = 0 ∨ n = 1 ∨ n = 2 ∨ n = 3 := by omega
    rcases this with rfl | rfl | rfl | rfl
    · exact ⟨4, by decide, by decide, at0⟩
    · exact ⟨13, by decide, by decide, at1⟩
    · exact ⟨1000, by decide, by decide, at2⟩
    · exact ⟨_, by decide, by decide, at3⟩
  obtain ⟨s, s1, s2, e⟩ := key
  refine ⟨⟨by decide, by decide, by decide⟩, .int s, e, ?_⟩
  simp_arith [stS]
  rw [hnx]
  clear hnx
  have s3 : (10 : Int) ^ 31 = 10000000000000000000000000000000 := by decide
  rw [s3] at s2
  simp_arith [bI_mul, bI_sub, bI_add, ↓E_call' h1, ioF__law_take, isOwnR, isOwn, potD]
  refine ⟨mulok3 (by decide) (by omega), ?_⟩
  refine Exists.intro p1 ?_
  refine ⟨q1, 2 * s - 1, rfl, ok1, by omega, by omega, fun x p2 q2 x0 x1 ok2 => ?_⟩
  simp_arith [putS, potD, bI_add, bI_sub]
  first | exact (hq (x - s + 1) p2 q2 (by omega) ok2) | exact ⟨[], rfl, (hq (x - s + 1) p2 q2 (by omega) ok2)⟩ | exact ⟨_, rfl, (hq (x - s + 1) p2 q2 (by omega) ok2)⟩
def gcdI (a b : Int) : Int := (Int.gcd a b : Int)
theorem gcdI_step {x y : Int} (hx : 0 ≤ x) (hy : 0 ≤ y) : gcdI y (x % y) = gcdI x y := by
  obtain ⟨X, rfl⟩ := Int.eq_ofNat_of_zero_le hx
  obtain ⟨Y, rfl⟩ := Int.eq_ofNat_of_zero_le hy
  unfold gcdI
  rw [← Int.natCast_emod, Int.gcd_natCast_natCast, Int.gcd_natCast_natCast, Nat.gcd_comm X Y, Nat.gcd_rec Y X, Nat.gcd_comm]
theorem gcdI_zero {x : Int} (hx : 0 ≤ x) : gcdI x 0 = x := by
  obtain ⟨X, rfl⟩ := Int.eq_ofNat_of_zero_le hx
  unfold gcdI
  simp
theorem gcdI_pos {a b : Int} (h : 1 ≤ b) : 1 ≤ gcdI a b := by
  have : 0 < Int.gcd a b := Int.gcd_pos_iff.mpr (.inr (by omega))
  unfold gcdI; omega
theorem gcdI_le {a b : Int} (h : 1 ≤ b) : gcdI a b ≤ b := Int.le_of_dvd (by omega) (Int.gcd_dvd_right ..)
theorem gcdI_abs (a b : Int) : gcdI (if a < 0 then -a else a) b = gcdI a b := by
  unfold gcdI
  split
  · rw [Int.neg_gcd]
  · rfl
def frD (p : Int × Int) : D := .tup [.int p.1, .int p.2]
/-- the fraction p is a / b in its lowest terms -/
structure FrOf (a b : Int) (p : Int × Int) : Prop where
  val : p.1 * b = a * p.2
  pos : 1 ≤ p.2
  cop : gcdI p.1 p.2 = 1
def fr (a b : Int) : Int × Int := (a / gcdI a b, b / gcdI a b)
theorem fr_ok {a b : Int} (h : 1 ≤ b) : FrOf a b (fr a b) ∧ (fr a b).1.natAbs ≤ a.natAbs ∧ (fr a b).2.natAbs ≤ b.natAbs := by
  have g1 := gcdI_pos (a := a) h
  have d1 : gcdI a b * (a / gcdI a b) = a := Int.mul_ediv_cancel' (Int.gcd_dvd_left ..)
  have d2 : gcdI a b * (b / gcdI a b) = b := Int.mul_ediv_cancel' (Int.gcd_dvd_right ..)
  have cop : Int.gcd (a / (Int.gcd a b : Int)) (b / (Int.gcd a b : Int)) = 1 := Int.gcd_ediv_gcd_ediv_gcd (by unfold gcdI at g1; omega)
  generalize hg : gcdI a b = g at g1 d1 d2
  have hg' : ((Int.gcd a b : Nat) : Int) = g := hg
  rw [hg'] at cop
  have e : fr a b = (a / g, b / g) := by unfold fr; rw [hg]
  rw [e]
  generalize a / g = n at d1 cop
  generalize b / g = m at d2 cop
  have mp : 1 ≤ m := by
    refine Classical.byContradiction fun z => ?_
    have : g * m ≤ 0 := Int.mul_nonpos_of_nonneg_of_nonpos (by omega) (by omega)
    omega
  have up : ∀ x : Int, x.natAbs ≤ (g * x).natAbs := fun x => by
    rw [Int.natAbs_mul]
    exact Nat.le_mul_of_pos_left _ (by omega)
  refine ⟨⟨?_, mp, by unfold gcdI; rw [cop]; rfl⟩, ?_, ?_⟩
  · show n * b = a * m
    rw [← d1, ← d2]
    grind
  · show n.natAbs ≤ a.natAbs
    have := up n
    rwa [d1] at this
  · show m.natAbs ≤ b.natAbs
    have := up m
    rwa [d2] at this
/-- of any two whole numbers, the second not 0 -/
def frN (a b : Int) : Int × Int := if b < 0 then fr (-a) (-b) else fr a b
theorem frN_ok {a b : Int} (h : b ≠ 0) : FrOf a b (frN a b) ∧ (frN a b).1.natAbs ≤ a.natAbs ∧ (frN a b).2.natAbs ≤ b.natAbs := by
  unfold frN
  split
  · obtain ⟨⟨v, p, c⟩, x, y⟩ := fr_ok (a := -a) (b := -b) (by omega)
    refine ⟨⟨?_, p, c⟩, by omega, by omega⟩
    have : (fr (-a) (-b)).1 * -b = -a * (fr (-a) (-b)).2 := v
    rw [Int.mul_neg, Int.neg_mul] at this
    omega
  · exact fr_ok (by omega)
theorem sum_of_fr {a b c d : Int} {p r s : Int × Int} (h1 : FrOf a b p) (h2 : FrOf c d r) (h3 : FrOf (p.1 * r.2 + r.1 * p.2) (p.2 * r.2) s) : FrOf (a * d + c * b) (b * d) s := by
  refine ⟨?_, h3.pos, h3.cop⟩
  have p2 := h1.pos
  have r2 := h2.pos
  have e1 := h1.val
  have e2 := h2.val
  have e3 := h3.val
  have pr : 0 < p.2 * r.2 := Int.mul_pos (by omega) (by omega)
  refine Int.eq_of_mul_eq_mul_right (a := p.2 * r.2) (by omega) ?_
  generalize p.1 = p1 at *
  generalize p.2 = q1 at *
  generalize r.1 = p2' at *
  generalize r.2 = q2 at *
  generalize s.1 = s1 at *
  generalize s.2 = s2 at *
  calc s1 * (b * d) * (q1 * q2) = s1 * (q1 * q2) * (b * d) := by grind
    _ = (p1 * q2 + p2' * q1) * s2 * (b * d) := by rw [e3]
    _ = ((p1 * b) * (d * q2) + (p2' * d) * (b * q1)) * s2 := by grind
    _ = ((a * q1) * (d * q2) + (c * q2) * (b * q1)) * s2 := by rw [e1, e2]
    _ = (a * d + c * b) * s2 * (q1 * q2) := by grind
theorem times_of_fr {a b c d : Int} {p r s : Int × Int} (h1 : FrOf a b p) (h2 : FrOf c d r) (h3 : FrOf (p.1 * r.1) (p.2 * r.2) s) : FrOf (a * c) (b * d) s := by
  refine ⟨?_, h3.pos, h3.cop⟩
  have p2 := h1.pos
  have r2 := h2.pos
  have e1 := h1.val
  have e2 := h2.val
  have e3 := h3.val
  have pr : 0 < p.2 * r.2 := Int.mul_pos (by omega) (by omega)
  refine Int.eq_of_mul_eq_mul_right (a := p.2 * r.2) (by omega) ?_
  generalize p.1 = p1 at *
  generalize p.2 = q1 at *
  generalize r.1 = p2' at *
  generalize r.2 = q2 at *
  generalize s.1 = s1 at *
  generalize s.2 = s2 at *
  calc s1 * (b * d) * (q1 * q2) = s1 * (q1 * q2) * (b * d) := by grind
    _ = (p1 * p2') * s2 * (b * d) := by rw [e3]
    _ = ((p1 * b) * (p2' * d)) * s2 := by grind
    _ = ((a * q1) * (c * q2)) * s2 := by rw [e1, e2]
    _ = (a * c) * s2 * (q1 * q2) := by grind
abbrev Bi (x : Int) (k : Nat) : Prop := Builtin.Int.intBits x ≤ k
theorem Bi.mono {x : Int} {k l : Nat} (h : Bi x k) (e : k ≤ l) : Bi x l := Nat.le_trans h e
theorem Bi.le {x y : Int} {k : Nat} (h : Bi y k) (e : x.natAbs ≤ y.natAbs) : Bi x k := PySem.intBits_le_of_natAbs e h
theorem Bi.mul {x y : Int} {k l : Nat} (h : Bi x k) (g : Bi y l) : Bi (x * y) (k + l) := PySem.intBits_mul_le h g
theorem Bi.add {x y : Int} {k l : Nat} (h : Bi x k) (g : Bi y l) : Bi (x + y) (max k l + 1) := PySem.intBits_add_le h g
theorem Bi.of {x : Int} {k : Nat} (h : x.natAbs < 2 ^ k) : Bi x k := PySem.intBits_le_iff.mpr h
theorem Bi.lt {x : Int} {k : Nat} (h : Bi x k) : x.natAbs < 2 ^ k := PySem.intBits_le_iff.mp h
theorem Bi.ok {x y : Int} {k l : Nat} (h : Bi x k) (g : Bi y l) (hk : k ≤ 1000) (hl : l ≤ 1000) : IntMulOk x y := IntMulOk.of_le h g (by omega)
theorem Bi.plain {x y : Int} (h : Bi y 300) (p : 1 ≤ y) : Builtin.divisionGoesByPylong x y = false := div_plain p h.lt
def fi_common_divisor : FI := { io := [false, false], sp := fun ds Q _ => ∃ a b, ds = [.int a, .int b] ∧ 0 ≤ a ∧ 0 ≤ b ∧ Q (.im (.int (gcdI a b))) [] }
theorem ioF_common_divisor : fi_common_divisor.io = [false, false] := rfl
theorem k_common_divisor (Γ : Ga) : Keeps Γ 2 sm_common_divisor fi_common_divisor := by
  rintro ds Q E ⟨a, b, rfl, ha, hb, q⟩
  refine ⟨rfl, by decide, ?_⟩
  unfold sm_common_divisor
  refine S_seq fun nx hnx => ?_
  rw [S_whl]
  let I : Nat → TG.Env → Prop := fun m e => ∃ x y, 0 ≤ x ∧ 0 ≤ y ∧ m = y.toNat ∧ gcdI x y = gcdI a b ∧ e = [.im (.int x), .im (.int y)]
  refine ⟨I, ⟨_, a, b, ha, hb, rfl, rfl, rfl⟩, fun m e hI => ?_⟩
  obtain ⟨x, y, hx, hy, rfl, hg, rfl⟩ := hI
  simp_arith [fi_common_divisor]
  by_cases h : y = 0
  · subst h
    rw [show (!((0 : Int) == 0)) = false from rfl]
    simp_arith []
    rw [hnx]
    clear hnx
    rw [gcdI_zero hx] at hg
    simp_arith []
    rw [hg]
    first | exact q | exact ⟨[], rfl, q⟩ | exact ⟨_, rfl, q⟩
  · rw [show (y == 0) = false from beq_false_of_ne h]
    simp_arith [bI_mod, stS]
    have l := Int.emod_lt_of_pos x (b := y) (by omega)
    have l0 := Int.emod_nonneg x (b := y) h
    exact ⟨by omega, (x % y).toNat, by omega, y, x % y, hy, l0, rfl, by rw [gcdI_step hx hy]; exact hg, rfl⟩
def fi_fraction : FI := { io := [false, false], sp := fun ds Q E => ∃ a b, ds = [.int a, .int b] ∧ Bi b 300 ∧ (b = 0 → E ("NoNumber", none) []) ∧ (b ≠ 0 → Q (.im (frD (frN a b))) []) }
theorem ioF_fraction : fi_fraction.io = [false, false] := rfl
theorem k_fraction (Γ : Ga) (h1 : Γ.fn "common_divisor" = some fi_common_divisor) : Keeps Γ 3 sm_fraction fi_fraction := by
  rintro ds Q E ⟨a, b, rfl, hB, qe, q⟩
  refine ⟨rfl, by decide, ?_⟩
  unfold sm_fraction
  refine S_seq fun nx hnx => ?_
  simp_arith [fi_fraction]
  by_cases hb : b = 0
  · subst hb
    rw [show ((0 : Int) == 0) = true from rfl]
    simp_arith [S_raise0, XF]
    first | exact (qe rfl) | exact ⟨[], rfl, (qe rfl)⟩ | exact ⟨_, rfl, (qe rfl)⟩
  rw [show (b == 0) = false from beq_false_of_ne hb]
  simp_arith []
  rw [hnx]
  clear hnx
  have q := q hb
  have tail : ∀ a b : Int, Bi b 300 → 1 ≤ b → Q (.im (frD (fr a b))) [] → wpS Γ (XF [false, false] E) (.cons (.asg (.nm 2) (.call "common_divisor" (.cons (.blt .abs (.cons (.var 0) (.nil))) (.cons (.var 1) (.nil))))) (.cons (.ret (.tupn (.cons (.bin .FloorDiv (.var 0) (.var 2)) (.cons (.bin .FloorDiv (.var 1) (.var 2)) (.nil))))) (.nil))) [.im (.int a), .im (.int b), .un] (PostF [false, false] Q) := by
    intro a b hB hb q
    have g1 := gcdI_pos (a := a) hb
    have g2 := gcdI_le (a := a) hb
    have gB : Bi (gcdI a b) 300 := hB.le (by omega)
    refine S_seq fun nx hnx => ?_
    simp_arith [dBlt, dd_abs, un, u_abs, ↓E_call' h1, ioF_common_divisor]
    refine Exists.intro (if a < 0 then -a else a) ?_
    refine ⟨b, rfl, by split <;> omega, by omega, ?_⟩
    rw [gcdI_abs]
    simp_arith [stS]
    rw [hnx]
    clear hnx
    simp_arith [bI_div, sl_0, sl_1, sl_2, sl_3, sl_4, sl_5, sl_6, sl_7, sl_8, sl_9, sl_10, sl_11, sl_12, sl_13, sl_14, sl_15, sl_16, sl_17, sl_18, sl_19, sl_20, sl_21, sl_22, sl_23, sl_24, sl_25, sl_26, sl_27, sl_28, sl_29, sl_30]
    refine ⟨⟨by omega, gB.plain g1⟩, ⟨by omega, gB.plain g1⟩, ?_⟩
    exact q
  refine S_seq fun nx hnx => ?_
  simp_arith []
  by_cases hn : b < 0
  · rw [decide_eq_true hn]
    simp_arith [stS]
    rw [hnx]
    clear hnx
    refine tail (-a) (-b) (hB.le (by omega)) (by omega) ?_
    unfold frN at q
    rw [if_pos hn] at q
    exact q
  · rw [decide_eq_false hn]
    simp_arith []
    rw [hnx]
    clear hnx
    refine tail a b hB (by omega) ?_
    unfold frN at q
    rw [if_neg hn] at q
    exact q
def fi_fraction_times : FI := { io := [false, false], sp := fun ds Q _ => ∃ p r, ds = [frD p, frD r] ∧ 1 ≤ p.2 ∧ 1 ≤ r.2 ∧ Bi p.1 120 ∧ Bi p.2 120 ∧ Bi r.1 120 ∧ Bi r.2 120 ∧ Q (.im (frD (frN (p.1 * r.1) (p.2 * r.2)))) [] }
theorem ioF_fraction_times : fi_fraction_times.io = [false, false] := rfl
theorem mul_pos1 {b d : Int} (hb : 1 ≤ b) (hd : 1 ≤ d) : 1 ≤ b * d := by
  have := Int.mul_pos (a := b) (b := d) (by omega) (by omega)
  omega
theorem k_fraction_times (Γ : Ga) (h1 : Γ.fn "fraction" = some fi_fraction) : Keeps Γ 2 sm_fraction_times fi_fraction_times := by
  rintro ds Q E ⟨⟨a, b⟩, ⟨c, d⟩, rfl, hb, hd, ba, bb, bc, bd, q⟩
  refine ⟨rfl, by decide, ?_⟩
  unfold sm_fraction_times
  simp_arith [fi_fraction_times, frD, idx_t0, idx_t1, bI_mul, ↓E_call' h1, ioF_fraction]
  refine ⟨ba.ok bc (by decide) (by decide), bb.ok bd (by decide) (by decide), ?_⟩
  have m1 := mul_pos1 hb hd
  refine Exists.intro (a * c) ?_
  refine ⟨b * d, rfl, (bb.mul bd).mono (by decide), fun e => (by simp only at m1; omega), fun _ => ?_⟩
  simp_arith []
  first | exact q | exact ⟨[], rfl, q⟩ | exact ⟨_, rfl, q⟩
def fi_fraction_sum : FI := { io := [false, false], sp := fun ds Q _ => ∃ p r, ds = [frD p, frD r] ∧ 1 ≤ p.2 ∧ 1 ≤ r.2 ∧ Bi p.1 120 ∧ Bi p.2 120 ∧ Bi r.1 120 ∧ Bi r.2 120 ∧ Q (.im (frD (frN (p.1 * r.2 + r.1 * p.2) (p.2 * r.2)))) [] }
theorem ioF_fraction_sum : fi_fraction_sum.io = [false, false] := rfl
theorem k_fraction_sum (Γ : Ga) (h1 : Γ.fn "fraction" = some fi_fraction) : Keeps Γ 2 sm_fraction_sum fi_fraction_sum := by
  rintro ds Q E ⟨⟨a, b⟩, ⟨c, d⟩, rfl, hb, hd, ba, bb, bc, bd, q⟩
  refine ⟨rfl, by decide, ?_⟩
  unfold sm_fraction_sum
  simp_arith [fi_fraction_sum, frD, idx_t0, idx_t1, bI_mul, bI_add, ↓E_call' h1, ioF_fraction]
  refine ⟨ba.ok bd (by decide) (by decide), bc.ok bb (by decide) (by decide), bb.ok bd (by decide) (by decide), ?_⟩
  have m1 := mul_pos1 hb hd
  refine Exists.intro (a * d + c * b) ?_
  refine ⟨b * d, rfl, (bb.mul bd).mono (by decide), fun e => (by simp only at m1; omega), fun _ => ?_⟩
  simp_arith []
  first | exact q | exact ⟨[], rfl, q⟩ | exact ⟨_, rfl, q⟩
def fi_is_less : FI := { io := [false, false], sp := fun ds Q _ => ∃ p r, ds = [frD p, frD r] ∧ Bi p.1 300 ∧ Bi p.2 300 ∧ Bi r.1 300 ∧ Bi r.2 300 ∧ Q (.im (.bl (decide (p.1 * r.2 < r.1 * p.2)))) [] }
theorem ioF_is_less : fi_is_less.io = [false, false] := rfl
theorem k_is_less (Γ : Ga) : Keeps Γ 2 sm_is_less fi_is_less := by
  rintro ds Q E ⟨⟨a, b⟩, ⟨c, d⟩, rfl, ba, bb, bc, bd, q⟩
  refine ⟨rfl, by decide, ?_⟩
  unfold sm_is_less
  simp_arith [fi_is_less, frD, idx_t0, idx_t1, bI_mul]
  refine ⟨ba.ok bd (by decide) (by decide), bc.ok bb (by decide) (by decide), ?_⟩
  first | exact q | exact ⟨[], rfl, q⟩ | exact ⟨_, rfl, q⟩
end LW
end
section
namespace LW
open PySem TG
local macro_rules
  | `(tactic| simp_arith [$xs,*]) => `(tactic| try simp only [↓S_nil, ↓S_cons, ↓S_pass, ↓S_asg, ↓S_asgt, ↓S_par2, ↓S_par3, ↓S_pak2, ↓S_pak3, ↓S_new2, ↓S_new3, ↓S_subT, ↓S_expr, ↓S_ret, ↓S_retN, ↓S_ifs, ↓E_var, ↓E_cint, ↓E_cstr, ↓E_cbl, ↓E_cnon, ↓E_glob, ↓E_bin, ↓E_neg, ↓E_cmp, ↓E_chain, ↓E_andn, ↓E_orn, ↓E_notn, ↓E_ife, ↓E_tupn, ↓E_ptn, ↓E_lrg, ↓E_srs, ↓E_lstn, ↓E_dnew, ↓E_dctn, ↓E_dctw, ↓E_fgt, ↓E_blt, ↓E_meth, ↓E_mut, ↓E_idx, ↓E_slc, ↓E_sls, ↓E_isi, ↓T_var, ↓T_cint, ↓T_cstr, ↓T_cbl, ↓T_glob, ↓T_bin, ↓T_cmp, ↓T_neg, ↓T_chain, ↓T_call, ↓T_blt, ↓T_meth, ↓T_idx, ↓T_slc, ↓T_sls, ↓T_isi, ↓T_comp, ↓T_tupn, ↓T_lstn, ↓T_andn, ↓T_orn, ↓T_notn, ↓T_ife, ↓T_nil, ↓T_fgt, ↓O_nil, ↓O_var, ↓O_cint, ↓O_neg, ↓O_bin, ↓O_blt, ↓O_glob, ↓A_nil, ↓A_cons, ↓B_nil, ↓B_cons, ↓C_nil, ↓C_io, ↓C_im, ↓rd_im, ↓rd_fr, ↓rd_bo, ↓fz_im, ↓fz_fr, ↓fz_bo, ↓rds_nil, ↓rds_cons, ↓ret_im, ↓ret_fr, ↓ret_bo, ↓rdC_nil, ↓rdC_im, ↓rdC_fr, ↓rdC_bo, bos_nil, bos_im, bos_fr, bos_bo, nd_nil, nd_one, ↓putB_nil, ↓putB_im, ↓putB_fr, ↓putB_bo, ↓ex_some, ↓ex_int, ↓ex_ptp, ↓post_nx, ↓post_rt, tru_bl, tru_int, tru_lst, tru_tup, tru_non, cmp_eq_int, cmp_ne_int, cmp_lt_int, cmp_le_int, cmp_gt_int, cmp_ge_int, cmp_lt_str, finsE, env0, List.getElem?_cons_zero, List.getElem?_cons_succ, List.length_cons, List.length_nil, List.replicate, List.cons_append, List.nil_append, List.append_nil, reduceIte, Bool.not_true, Bool.not_false, Bool.false_eq_true, if_true, if_false, true_and, and_true, ite_true, ite_false, Option.map_some, List.set_cons_zero, List.set_cons_succ, dIsi, $xs,*])
theorem S_frN {Γ : Ga} {R : XP} {t : Tg} {it : Ex} {b : Sm} {env : TG.Env} {P : Post} (h : ∀ B : Sm, B = b → wpS Γ R (.forr t it B) env P) : wpS Γ R (.forr t it b) env P := h b rfl
theorem cmp_eq_bl {a b : Bool} {K : Bool → Prop} : dCmp .Eq (.bl a) (.bl b) K = K (a == b) := by
  have e : D.eqb (.bl a) (.bl b) = (a == b) := by cases a <;> cases b <;> rfl
  exact propext ⟨fun h => by have := h.2; rwa [e] at this, fun h => ⟨⟨rfl, rfl, .inl (Nat.zero_le _)⟩, by rwa [e]⟩⟩
theorem cmp_is_bl {a b : Bool} {K : Bool → Prop} : dCmp .Is (.bl a) (.bl b) K = K (a == b) := rfl
theorem cmp_ne_fr {p : Int × Int} {K : Bool → Prop} : dCmp .NotEq (frD p) (frD p) K = K false := by
  have e : D.eqb (frD p) (frD p) = true := by
    show ((p.1 == p.1) && ((p.2 == p.2) && true)) = true
    simp
  have sh : D.shp2 (frD p) (frD p) := ⟨rfl, rfl, .inl (by show max _ _ + 1 ≤ 60; simp [D.dep, D.deps])⟩
  exact propext ⟨fun h => by
    have h2 : K (!D.eqb (frD p) (frD p)) := h.2
    rwa [e] at h2, fun h => ⟨sh, by show K (!D.eqb (frD p) (frD p)); rwa [e]⟩⟩
def fi__law_is_it : FI := { io := [false, false, false], sp := fun ds Q _ => ∃ p a b, ds = [frD p, .int a, .int b] ∧ FrOf a b p ∧ Bi p.1 300 ∧ Bi p.2 300 ∧ Bi a 300 ∧ Bi b 300 ∧ Q (.im (.bl true)) [] }
theorem ioF__law_is_it : fi__law_is_it.io = [false, false, false] := rfl
theorem k__law_is_it (Γ : Ga) : Keeps Γ 6 sm__law_is_it fi__law_is_it := by
  rintro ds Q E ⟨⟨u, v⟩, a, b, rfl, ⟨val, pos, cop⟩, bu, bv, ba, bb, q⟩
  refine ⟨rfl, by decide, ?_⟩
  have sz : 16777216 ≤ sizeLine := by rw [PySem.sizeLine_eq]; omega
  simp only at val pos cop bu bv
  unfold sm__law_is_it
  refine S_seq fun nx hnx => ?_
  simp_arith [fi__law_is_it, frD, dBlt, dd_len, un, u_len]
  rw [show (((0 + 1 + 1 : Nat) : Int) == 2) = true from rfl]
  simp_arith []
  rw [hnx]
  clear hnx
  refine S_seq fun nx hnx => ?_
  simp_arith [dBlt, ↓E_comp, ↓I_var, ↓srcR_im, itD]
  refine ⟨by omega, compW_map (fun d => some (.bl ((fun _ => true) d))) (fun e => ∃ s, e = [.im (.tup [.int u, .int v]), .im (.int a), .im (.int b), .un, .un, s]) (fun e ⟨s, e'⟩ => ?ok) (fun d hd e k ⟨s, e'⟩ hk => ?tn) ⟨_, rfl⟩ fun e' ⟨s, ee⟩ => ?fn⟩
  case ok => intro i h; cases h
  case tn =>
    subst e'
    simp only [List.mem_cons, List.not_mem_nil, or_false] at hd
    rcases hd with rfl | rfl
    all_goals
      simp_arith [cturn, bindT, wipeE, stS]
      exact hk _ ⟨_, rfl⟩
  subst ee
  rw [List.nil_append]
  simp_arith [dd_all, un, u_all, wipeE]
  refine ⟨_, bls_fm _ _, ?_⟩
  rw [show ([D.int u, .int v].map (fun _ => true)).all id = true from rfl]
  simp_arith [idx_t1]
  rw [decide_eq_false (show ¬ v < 1 by omega)]
  simp_arith []
  rw [hnx]
  clear hnx
  refine S_seq fun nx hnx => ?_
  simp_arith [idx_t0, idx_t1, dBlt, dd_abs, un, u_abs, stS]
  rw [hnx]
  clear hnx
  refine S_seq fun nx hnx => ?_
  rw [S_whl]
  have h0 : 0 ≤ (if u < 0 then -u else u) := by split <;> omega
  let I : Nat → TG.Env → Prop := fun m e => ∃ x y, 0 ≤ x ∧ 0 ≤ y ∧ m = y.toNat ∧ gcdI x y = 1 ∧ e = [.im (.tup [.int u, .int v]), .im (.int a), .im (.int b), .im (.int x), .im (.int y), .un]
  refine ⟨I, ⟨_, _, v, h0, by omega, rfl, by rw [gcdI_abs]; exact cop, rfl⟩, fun m e hI => ?_⟩
  obtain ⟨x, y, hx, hy, rfl, hg, rfl⟩ := hI
  simp_arith []
  by_cases h : y = 0
  · subst h
    rw [show (!((0 : Int) == 0)) = false from rfl]
    simp_arith []
    rw [hnx]
    clear hnx
    rw [gcdI_zero hx] at hg
    subst hg
    simp_arith [idx_t0, idx_t1, bI_mul]
    rw [show ((1 : Int) == 1) = true from rfl]
    simp_arith [idx_t0, idx_t1, bI_mul]
    refine ⟨bu.ok bb (by decide) (by decide), ba.ok bv (by decide) (by decide), ?_⟩
    rw [val, show (a * v == a * v) = true from beq_self_eq_true _]
    first | exact q | exact ⟨[], rfl, q⟩ | exact ⟨_, rfl, q⟩
  · rw [show (y == 0) = false from beq_false_of_ne h]
    simp_arith [bI_mod, stS]
    have l := Int.emod_lt_of_pos x (b := y) (by omega)
    have l0 := Int.emod_nonneg x (b := y) h
    exact ⟨by omega, (x % y).toNat, by omega, y, x % y, hy, l0, rfl, by rw [gcdI_step hx hy]; exact hg, rfl⟩
def hx__law_kinds : FX := fun n _ => if n = "NoNumber" then some (.fr (.lst [.int 10])) else none
theorem no_others : ∀ c ∈ (["NoWeb", "NoPlace", "NoTie", "NoLot", "NoWishes", "NoFlow", "NotPaired", "NoRoom", "NotEven", "NoTrade", "NoText", "NoRow", "NoName"] : List Str), [c].any (isaX "NoNumber") = false := by decide +kernel
theorem is_number : ([("NoNumber" : Str)].any (isaX "NoNumber")) = true ∧ ([("ValueError" : Str)].any (isaX "NoNumber")) = true := by decide +kernel
def pkK : D → Option D
  | .tup [.int k, .bl true] => some (.int k)
  | _ => none
def blS (l : List Bool) : List D := l.map .bl
theorem kh__law_kinds : KeepsH 4 sm__law_kinds hx__law_kinds := by
  intro nm f r h
  unfold hx__law_kinds at h
  split at h
  case isFalse => cases h
  next e =>
  cases h
  subst e
  refine ⟨by decide, ?_⟩
  have sz : 16777216 ≤ sizeLine := by rw [PySem.sizeLine_eq]; omega
  have o := no_others
  simp only [List.forall_mem_cons] at o
  obtain ⟨o1, o2, o3, o4, o5, o6, o7, o8, o9, o10, o11, o12, o13, _⟩ := o
  unfold sm__law_kinds
  refine S_seq fun nx hnx => ?_
  simp_arith [E_isx, o1, o2, o3, o4, stS, show (4 : Nat) - 1 = 3 from rfl, sl_0, sl_1, sl_2, sl_3, sl_4, sl_5, sl_6, sl_7, sl_8, sl_9, sl_10, sl_11, sl_12, sl_13, sl_14, sl_15, sl_16, sl_17, sl_18, sl_19, sl_20, sl_21, sl_22, sl_23, sl_24, sl_25, sl_26, sl_27, sl_28, sl_29, sl_30]
  rw [hnx]
  clear hnx
  refine S_seq fun nx hnx => ?_
  simp_arith [E_isx, o5, o6, o7, o8, dBin, stS, sl_0, sl_1, sl_2, sl_3, sl_4, sl_5, sl_6, sl_7, sl_8, sl_9, sl_10, sl_11, sl_12, sl_13, sl_14, sl_15, sl_16, sl_17, sl_18, sl_19, sl_20, sl_21, sl_22, sl_23, sl_24, sl_25, sl_26, sl_27, sl_28, sl_29, sl_30]
  rw [hnx]
  clear hnx
  refine S_seq fun nx hnx => ?_
  simp_arith [E_isx, o9, o10, is_number.1, o11, dBin, stS, sl_0, sl_1, sl_2, sl_3, sl_4, sl_5, sl_6, sl_7, sl_8, sl_9, sl_10, sl_11, sl_12, sl_13, sl_14, sl_15, sl_16, sl_17, sl_18, sl_19, sl_20, sl_21, sl_22, sl_23, sl_24, sl_25, sl_26, sl_27, sl_28, sl_29, sl_30]
  rw [hnx]
  clear hnx
  refine S_seq fun nx hnx => ?_
  simp_arith [E_isx, T_isx, o12, o13, is_number.2, dBin, stS, sl_0, sl_1, sl_2, sl_3, sl_4, sl_5, sl_6, sl_7, sl_8, sl_9, sl_10, sl_11, sl_12, sl_13, sl_14, sl_15, sl_16, sl_17, sl_18, sl_19, sl_20, sl_21, sl_22, sl_23, sl_24, sl_25, sl_26, sl_27, sl_28, sl_29, sl_30]
  rw [hnx]
  clear hnx
  simp_arith [↓E_comp, ↓I_enum, ↓srcR_bo, seqD]
  have hd1 : ∀ d ∈ enumD 0 (blS [false, false, false, false, false, false, false, false, false, false, true, false, false, false, false]), ∃ (k : Int) (b : Bool), d = .tup [.int k, .bl b] := by
    intro d hd
    simp only [blS, List.map, enumD, List.mem_cons, List.not_mem_nil, or_false] at hd
    rcases hd with h | h | h | h | h | h | h | h | h | h | h | h | h | h | h <;> exact ⟨_, _, h⟩
  refine ⟨by simp [enumD]; omega, ?_⟩
  refine compW_map pkK (fun e => ∃ s2 s3, e = [.xc "NoNumber" f, .ow (.lst (blS [false, false, false, false, false, false, false, false, false, false, true, false, false, false, false])), s2, s3] ∧ Jn s2 ∧ Jn s3) (fun e he => ?ok) (fun d hd e k he hk => ?tn) ⟨_, _, rfl, ju, ju⟩ fun e' he => ?fn
  case ok =>
    obtain ⟨s2, s3, rfl, _⟩ := he
    intro i h
    rw [List.mem_singleton.mp h]
    rfl
  case tn =>
    obtain ⟨s2, s3, rfl, j2, j3⟩ := he
    obtain ⟨k', b, rfl⟩ := hd1 d hd
    simp_arith [cturn, bindT, bindTs, Tg.len, wipeE, stS]
    cases b
    · simp_arith []
      exact hk _ ⟨_, _, rfl, ji, ji⟩
    · simp_arith []
      exact hk _ ⟨_, _, rfl, ji, ji⟩
  obtain ⟨s2, s3, rfl, _⟩ := he
  simp_arith [wipeE]
  rfl
end LW
end
section
namespace LW
open PySem TG
local macro_rules
  | `(tactic| simp_arith [$xs,*]) => `(tactic| try simp only [↓S_nil, ↓S_cons, ↓S_pass, ↓S_asg, ↓S_asgt, ↓S_par2, ↓S_par3, ↓S_pak2, ↓S_pak3, ↓S_new2, ↓S_new3, ↓S_subT, ↓S_expr, ↓S_ret, ↓S_retN, ↓S_ifs, ↓E_var, ↓E_cint, ↓E_cstr, ↓E_cbl, ↓E_cnon, ↓E_glob, ↓E_bin, ↓E_neg, ↓E_cmp, ↓E_chain, ↓E_andn, ↓E_orn, ↓E_notn, ↓E_ife, ↓E_tupn, ↓E_ptn, ↓E_lrg, ↓E_srs, ↓E_lstn, ↓E_dnew, ↓E_dctn, ↓E_dctw, ↓E_fgt, ↓E_blt, ↓E_meth, ↓E_mut, ↓E_idx, ↓E_slc, ↓E_sls, ↓E_isi, ↓T_var, ↓T_cint, ↓T_cstr, ↓T_cbl, ↓T_glob, ↓T_bin, ↓T_cmp, ↓T_neg, ↓T_chain, ↓T_call, ↓T_blt, ↓T_meth, ↓T_idx, ↓T_slc, ↓T_sls, ↓T_isi, ↓T_comp, ↓T_tupn, ↓T_lstn, ↓T_andn, ↓T_orn, ↓T_notn, ↓T_ife, ↓T_nil, ↓T_fgt, ↓O_nil, ↓O_var, ↓O_cint, ↓O_neg, ↓O_bin, ↓O_blt, ↓O_glob, ↓A_nil, ↓A_cons, ↓B_nil, ↓B_cons, ↓C_nil, ↓C_io, ↓C_im, ↓rd_im, ↓rd_fr, ↓rd_bo, ↓fz_im, ↓fz_fr, ↓fz_bo, ↓rds_nil, ↓rds_cons, ↓ret_im, ↓ret_fr, ↓ret_bo, ↓rdC_nil, ↓rdC_im, ↓rdC_fr, ↓rdC_bo, bos_nil, bos_im, bos_fr, bos_bo, nd_nil, nd_one, ↓putB_nil, ↓putB_im, ↓putB_fr, ↓putB_bo, ↓ex_some, ↓ex_int, ↓ex_ptp, ↓post_nx, ↓post_rt, tru_bl, tru_int, tru_lst, tru_tup, tru_non, cmp_eq_int, cmp_ne_int, cmp_lt_int, cmp_le_int, cmp_gt_int, cmp_ge_int, cmp_lt_str, finsE, env0, List.getElem?_cons_zero, List.getElem?_cons_succ, List.length_cons, List.length_nil, List.replicate, List.cons_append, List.nil_append, List.append_nil, reduceIte, Bool.not_true, Bool.not_false, Bool.false_eq_true, if_true, if_false, true_and, and_true, ite_true, ite_false, Option.map_some, List.set_cons_zero, List.set_cons_succ, dIsi, $xs,*])
def fi__law_by_nought : FI := { io := [false], sp := fun ds Q _ => ∃ a : Int, ds = [.int a] ∧ Q (.im (.bl true)) [] }
theorem ioF__law_by_nought : fi__law_by_nought.io = [false] := rfl
theorem k__law_by_nought (Γ : Ga) (h1 : Γ.fn "fraction" = some fi_fraction) (h2 : Γ.fx "_law_kinds" = some hx__law_kinds) : Keeps Γ 3 sm__law_by_nought fi__law_by_nought := by
  rintro ds Q E ⟨a, rfl, q⟩
  refine ⟨rfl, by decide, ?_⟩
  unfold sm__law_by_nought
  refine S_seq fun nx hnx => ?_
  simp_arith [fi__law_by_nought, stS, sl_0, sl_1, sl_2, sl_3, sl_4, sl_5, sl_6, sl_7, sl_8, sl_9, sl_10, sl_11, sl_12, sl_13, sl_14, sl_15, sl_16, sl_17, sl_18, sl_19, sl_20, sl_21, sl_22, sl_23, sl_24, sl_25, sl_26, sl_27, sl_28, sl_29, sl_30]
  rw [hnx]
  clear hnx
  refine S_seq fun nx0 hnx0 => ?_
  rw [S_tryn]
  refine S_seq fun nx hnx => ?_
  simp_arith [↓E_call' h1, ioF_fraction]
  refine Exists.intro a ?_
  refine ⟨0, rfl, by decide, fun _ => ?_, fun h => (h rfl).elim⟩
  have e1 : isaX "NoNumber" "GoodsError" = true := by decide +kernel
  simp only [hdlX]
  refine ⟨fun _ => ⟨trivial, ?_⟩, fun h => (by rw [e1] at h; cases h)⟩
  have e2 : hx__law_kinds "NoNumber" none = some (.fr (.lst [.int 10])) := by unfold hx__law_kinds; rw [if_pos rfl]
  simp_arith [E_callx]
  refine ⟨_, _, h2, e2, ?_⟩
  simp_arith [stS, goneP]
  rw [hnx0]
  simp_arith []
  have sh : D.shp2 (.lst [.int 10]) (.lst [.int 10]) := ⟨rfl, rfl, .inl (by decide)⟩
  refine ⟨by rw [PySem.sizeLine_eq]; omega, sh, ?_⟩
  rw [show D.eqb (.lst [.int 10]) (.lst [.int 10]) = true from by decide]
  simp_arith []
  first | exact q | exact ⟨[], rfl, q⟩ | exact ⟨_, rfl, q⟩
def fi__law_right : FI := { io := [false, false, false, false], sp := fun ds Q _ => ∃ a b c d : Int, ds = [.int a, .int b, .int c, .int d] ∧ b ≠ 0 ∧ d ≠ 0 ∧ Bi a 110 ∧ Bi b 112 ∧ Bi c 110 ∧ Bi d 110 ∧ Q (.im (.bl true)) [] }
theorem ioF__law_right : fi__law_right.io = [false, false, false, false] := rfl
theorem k__law_right (Γ : Ga) (h1 : Γ.fn "fraction" = some fi_fraction) (h2 : Γ.fn "_law_is_it" = some fi__law_is_it) (h3 : Γ.fn "fraction_sum" = some fi_fraction_sum) (h4 : Γ.fn "fraction_times" = some fi_fraction_times) (h5 : Γ.fn "is_less" = some fi_is_less) : Keeps Γ 9 sm__law_right fi__law_right := by
  rintro ds Q E ⟨a, b, c, d, rfl, nb, nd, ba, bb, bc, bd, q⟩
  refine ⟨rfl, by decide, ?_⟩
  obtain ⟨f1, l1, m1⟩ := frN_ok (a := a) nb
  obtain ⟨f2, l2, m2⟩ := frN_ok (a := c) nd
  have p1 := f1.pos
  have p2 := f2.pos
  generalize hp : frN a b = p at f1 l1 m1 p1
  generalize hr : frN c d = r at f2 l2 m2 p2
  have b1 : Bi p.1 110 := ba.le l1
  have b2 : Bi p.2 112 := bb.le m1
  have b3 : Bi r.1 110 := bc.le l2
  have b4 : Bi r.2 110 := bd.le m2
  have pp := mul_pos1 p1 p2
  obtain ⟨f3, l3, m3⟩ := frN_ok (a := p.1 * r.2 + r.1 * p.2) (b := p.2 * r.2) (by omega)
  obtain ⟨f4, l4, m4⟩ := frN_ok (a := p.1 * r.1) (b := p.2 * r.2) (by omega)
  have s3 := sum_of_fr f1 f2 f3
  have s4 := times_of_fr f1 f2 f4
  have ec : frN (r.1 * p.2 + p.1 * r.2) (r.2 * p.2) = frN (p.1 * r.2 + r.1 * p.2) (p.2 * r.2) := by rw [Int.add_comm, Int.mul_comm r.2]
  have B3 : Bi (p.1 * r.2 + r.1 * p.2) 223 := (((b1.mul b4).add (b3.mul b2)).mono (by decide))
  have B4 : Bi (p.2 * r.2) 222 := b2.mul b4
  have B5 : Bi (p.1 * r.1) 220 := b1.mul b3
  generalize hs : frN (p.1 * r.2 + r.1 * p.2) (p.2 * r.2) = s at f3 l3 m3 s3 ec
  generalize ht : frN (p.1 * r.1) (p.2 * r.2) = t at f4 l4 m4 s4
  have c1 : Bi s.1 300 := (B3.le l3).mono (by decide)
  have c2 : Bi s.2 300 := (B4.le m3).mono (by decide)
  have c3 : Bi t.1 300 := (B5.le l4).mono (by decide)
  have c4 : Bi t.2 300 := (B4.le m4).mono (by decide)
  unfold sm__law_right
  refine S_seq fun nx hnx => ?_
  simp_arith [fi__law_right, ↓E_call' h1, ioF_fraction]
  refine Exists.intro a ?_
  refine ⟨b, rfl, bb.mono (by decide), fun h => (nb h).elim, fun _ => ?_⟩
  simp_arith [↓E_call' h1, ioF_fraction]
  refine Exists.intro c ?_
  refine ⟨d, rfl, bd.mono (by decide), fun h => (nd h).elim, fun _ => ?_⟩
  rw [hp, hr]
  simp_arith [stS]
  rw [hnx]
  clear hnx
  refine S_seq fun nx hnx => ?_
  simp_arith [↓E_call' h2, ioF__law_is_it]
  refine Exists.intro p ?_
  refine ⟨a, b, rfl, f1, b1.mono (by decide), b2.mono (by decide), ba.mono (by decide), bb.mono (by decide), ?_⟩
  simp_arith [↓E_call' h2, ioF__law_is_it]
  refine Exists.intro r ?_
  refine ⟨c, d, rfl, f2, b3.mono (by decide), b4.mono (by decide), bc.mono (by decide), bd.mono (by decide), ?_⟩
  simp_arith []
  rw [hnx]
  clear hnx
  refine S_seq fun nx hnx => ?_
  simp_arith [↓E_call' h3, ioF_fraction_sum]
  refine Exists.intro p ?_
  refine ⟨r, rfl, p1, p2, b1.mono (by decide), b2.mono (by decide), b3.mono (by decide), b4.mono (by decide), ?_⟩
  rw [hs]
  simp_arith [stS]
  rw [hnx]
  clear hnx
  refine S_seq fun nx hnx => ?_
  simp_arith [bI_mul, bI_add, ↓E_call' h2, ioF__law_is_it]
  refine ⟨ba.ok bd (by decide) (by decide), bc.ok bb (by decide) (by decide), bb.ok bd (by decide) (by decide), ?_⟩
  refine Exists.intro s ?_
  refine ⟨_, _, rfl, s3, c1, c2, (((ba.mul bd).add (bc.mul bb)).mono (by decide)), (bb.mul bd).mono (by decide), ?_⟩
  simp_arith [↓E_call' h3, ioF_fraction_sum]
  refine Exists.intro r ?_
  refine ⟨p, rfl, p2, p1, b3.mono (by decide), b4.mono (by decide), b1.mono (by decide), b2.mono (by decide), ?_⟩
  rw [ec]
  simp_arith [cmp_ne_fr]
  rw [hnx]
  clear hnx
  refine S_seq fun nx hnx => ?_
  simp_arith [bI_mul, ↓E_call' h2, ioF__law_is_it, ↓E_call' h4, ioF_fraction_times]
  refine Exists.intro p ?_
  refine ⟨r, rfl, p1, p2, b1.mono (by decide), b2.mono (by decide), b3.mono (by decide), b4.mono (by decide), ?_⟩
  rw [ht]
  simp_arith [bI_mul, ↓E_call' h2, ioF__law_is_it]
  refine ⟨ba.ok bc (by decide) (by decide), bb.ok bd (by decide) (by decide), ?_⟩
  refine Exists.intro t ?_
  refine ⟨_, _, rfl, s4, c3, c4, (ba.mul bc).mono (by decide), (bb.mul bd).mono (by decide), ?_⟩
  simp_arith []
  rw [hnx]
  clear hnx
  refine S_seq fun nx hnx => ?_
  simp_arith [frD, idx_t0, idx_t1, bI_mul, stS]
  refine ⟨b1.ok b4 (by decide) (by decide), b3.ok b2 (by decide) (by decide), ?_⟩
  rw [hnx]
  clear hnx
  refine S_seq fun nx hnx => ?_
  rw [show D.tup [.int p.1, .int p.2] = frD p from rfl, show D.tup [.int r.1, .int r.2] = frD r from rfl, show D.tup [.int s.1, .int s.2] = frD s from rfl]
  simp_arith [↓E_call' h5, ioF_is_less]
  refine Exists.intro p ?_
  refine ⟨r, rfl, b1.mono (by decide), b2.mono (by decide), b3.mono (by decide), b4.mono (by decide), ?_⟩
  simp_arith [stS]
  rw [hnx]
  clear hnx
  simp_arith [cmp_eq_bl]
  rw [show (decide (p.1 * r.2 < r.1 * p.2) == decide (p.1 * r.2 < r.1 * p.2)) = true from beq_self_eq_true _]
  simp_arith [↓E_call' h5, ioF_is_less]
  refine Exists.intro p ?_
  refine ⟨p, rfl, b1.mono (by decide), b2.mono (by decide), b1.mono (by decide), b2.mono (by decide), ?_⟩
  rw [decide_eq_false (Int.lt_irrefl _)]
  simp_arith [cmp_is_bl, show ((false : Bool) == false) = true from rfl, ↓E_call' h5, ioF_is_less]
  refine Exists.intro s ?_
  refine ⟨s, rfl, c1, c2, c1, c2, ?_⟩
  rw [decide_eq_false (Int.lt_irrefl _)]
  simp_arith [cmp_is_bl, show ((false : Bool) == false) = true from rfl]
  first | exact q | exact ⟨[], rfl, q⟩ | exact ⟨_, rfl, q⟩
def fi_law : FI := { io := [false], sp := fun ds Q _ => ∃ ns : List Int, ns.length ≤ 63 ∧ ds = [.scr (ns.map .int)] ∧ Q (.im (.bl true)) [] }
theorem ioF_law : fi_law.io = [false] := rfl
def mk15 (x : Int) : Int := x % 1000000000000000 - 100000000000000
theorem mk15_b (x : Int) : (mk15 x).natAbs < 2 ^ 50 := by
  unfold mk15
  have := Int.emod_nonneg x (b := 1000000000000000) (by decide)
  have := Int.emod_lt_of_pos x (b := 1000000000000000) (by decide)
  omega
def mkF : D → Option D
  | .int x => some (.int (mk15 x))
  | _ => none
theorem p14 : (10 : Int) ^ (14 : Int).toNat = 100000000000000 := by decide
theorem p15 : (10 : Int) ^ (15 : Int).toNat = 1000000000000000 := by decide
theorem k_law (Γ : Ga) (h1 : Γ.fn "_law_pot" = some fi__law_pot) (h2 : Γ.fn "_law_number" = some fi__law_number) (h3 : Γ.fn "_law_by_nought" = some fi__law_by_nought) (h4 : Γ.fn "_law_right" = some fi__law_right) : Keeps Γ 13 sm_law fi_law := by
  rintro ds Q E ⟨ns, hns, rfl, q⟩
  refine ⟨rfl, by decide, ?_⟩
  have sz : 16777216 ≤ sizeLine := by rw [PySem.sizeLine_eq]; omega
  unfold sm_law
  refine S_seq fun nx hnx => ?_
  refine S_frN fun B hB => ?_
  simp_arith [fi_law, ↓S_for, ↓I_rng1, dBlt, dd_max, dd_min, ub, b_max, b_min, dd_len, un, u_len, List.length_map]
  generalize hm : (if (2 : Int) < (if (ns.length : Int) < 12 then (ns.length : Int) else 12) then (if (ns.length : Int) < 12 then (ns.length : Int) else 12) else 2) = m
  have m12 : 0 ≤ m ∧ m ≤ 12 := by rw [← hm]; split <;> (try split) <;> omega
  refine ⟨by omega, ?_⟩
  simp only [frzL]
  let S : List D → TG.Env → Prop := fun r e => (∀ d ∈ r, ∃ k : Nat, d = .int k ∧ k ≤ 1000) ∧ ∃ (s1 s2 s3 s4 s5 s6 s7 s8 s9 s10 : Sl), e = [.im (.scr (ns.map .int)), s1, s2, s3, s4, s5, s6, s7, s8, s9, s10, .un, .un] ∧ Jn s1 ∧ Jn s2 ∧ Jn s3 ∧ Jn s4 ∧ Jn s5 ∧ Jn s6 ∧ Jn s7 ∧ Jn s8 ∧ Jn s9 ∧ Jn s10
  refine forW_state S (fun r e _ i h => nomatch h) (fun d r e nx2 hS hk => ?_) ⟨fun d hd => ?_, .un, .un, .un, .un, .un, .un, .un, .un, .un, .un, rfl, ju, ju, ju, ju, ju, ju, ju, ju, ju, ju⟩ fun e hS => ?_
  · obtain ⟨hr, s1, s2, s3, s4, s5, s6, s7, s8, s9, s10, rfl, j1, j2, j3, j4, j5, j6, j7, j8, j9, j10⟩ := hS
    obtain ⟨k, rfl, k1⟩ := hr d List.mem_cons_self
    have hr := fun d h => hr d (List.mem_cons_of_mem _ h)
    simp only [fturn, bindT]
    rw [st_j (s := s1) rfl j1]
    subst hB
    refine S_seq fun nx hnx => ?_
    simp_arith [↓E_call' h1, ioF__law_pot]
    refine Exists.intro ns ?_
    refine ⟨k, rfl, k1, fun p0 q0 ok0 => ?_⟩
    simp_arith []
    rw [st_jf (s := s2) rfl j2]
    rw [hnx]
    clear hnx
    refine S_seq fun nx hnx => ?_
    simp_arith [↓E_comp, ↓I_rng1]
    refine ⟨by omega, by simp; omega, ?_⟩
    let T : List D → List D → TG.Env → Prop := fun r acc e => ∃ (xs : List Int) (p1 q1 : Int) (s11 : Sl), acc = xs.map .int ∧ xs.length + r.length = 4 ∧ (∀ x ∈ xs, x.natAbs < 2 ^ 103) ∧ PotOk p1 q1 ∧ e = [.im (.scr (ns.map .int)), .im (.int k), .ow (potD p1 q1), s3, s4, s5, s6, s7, s8, s9, s10, s11, .un] ∧ Jn s11
    refine compW_state T (fun r acc e _ i h => nomatch h) (fun d r acc e k2 hT hk2 => ?tn) ⟨[], p0, q0, .un, rfl, by simp, (fun _ h => nomatch h), ok0, rfl, ju⟩ fun acc e hT => ?fn
    case tn =>
      obtain ⟨xs, p1, q1, s11, rfl, xl, xb, ok1, rfl, j11⟩ := hT
      simp only [cturn, bindT, wipeE]
      rw [show [Sl.im (D.scr (ns.map .int)), .im (.int k), .ow (potD p1 q1), s3, s4, s5, s6, s7, s8, s9, s10, s11, .un].set 11 .un = [Sl.im (D.scr (ns.map .int)), .im (.int k), .ow (potD p1 q1), s3, s4, s5, s6, s7, s8, s9, s10, .un, .un] from rfl]
      rw [st_j (s := Sl.un) rfl ju]
      simp_arith [↓E_call' h2, ioF__law_number, isOwnR, isOwn, potD]
      refine Exists.intro p1 ?_
      refine ⟨q1, rfl, ok1, fun x p2 q2 xb2 ok2 => ?_⟩
      simp_arith [putS]
      refine hk2 _ _ ⟨xs ++ [x], p2, q2, _, by simp, by simp at xl ⊢; omega, fun y hy => (List.mem_append.mp hy).elim (xb y) fun h => by rw [List.mem_singleton.mp h]; exact xb2, ok2, rfl, ji⟩
    obtain ⟨xs, p1, q1, s11, rfl, xl, xb, ok1, rfl, j11⟩ := hT
    obtain ⟨a, b, c, f, rfl⟩ : ∃ a b c f, xs = [a, b, c, f] := by
      rcases xs with _ | ⟨a, _ | ⟨b, _ | ⟨c, _ | ⟨f, _ | ⟨g, l⟩⟩⟩⟩⟩ <;> simp at xl
      exact ⟨_, _, _, _, rfl⟩
    have ba := xb a (by simp)
    have bb := xb b (by simp)
    have bc := xb c (by simp)
    have bf := xb f (by simp)
    rw [show wipeE [Sl.im (D.scr (ns.map .int)), .im (.int k), .ow (potD p1 q1), s3, s4, s5, s6, s7, s8, s9, s10, s11, .un] [11] = [Sl.im (D.scr (ns.map .int)), .im (.int k), .ow (potD p1 q1), s3, s4, s5, s6, s7, s8, s9, s10, .un, .un] from rfl]
    simp only [bindT, bindTs, Tg.len, List.map]
    refine ⟨rfl, ?_⟩
    rw [st_j (s := s3) rfl j3]
    simp only [bindT, bindTs, List.set_cons_zero, List.set_cons_succ]
    rw [st_j (s := s4) rfl j4]
    simp only [bindT, bindTs, List.set_cons_zero, List.set_cons_succ]
    rw [st_j (s := s5) rfl j5]
    simp only [bindT, bindTs, List.set_cons_zero, List.set_cons_succ]
    rw [st_j (s := s6) rfl j6]
    simp only [bindT, bindTs, List.set_cons_zero, List.set_cons_succ]
    rw [hnx]
    clear hnx
    refine S_seq fun nx hnx => ?_
    simp_arith [↓E_call' h3, ioF__law_by_nought]
    refine Exists.intro a ?_
    refine ⟨rfl, ?_⟩
    simp_arith []
    rw [hnx]
    clear hnx
    refine S_seq fun nx hnx => ?_
    have tail : ∀ b' f' : Int, b' ≠ 0 → f' ≠ 0 → b'.natAbs < 2 ^ 103 → f'.natAbs < 2 ^ 103 → nx [.im (.scr (ns.map .int)), .im (.int k), .ow (potD p1 q1), .im (.int a), .im (.int b'), .im (.int c), .im (.int f'), s7, s8, s9, s10, .un, .un] := by
      intro b' f' nb nf bb bf
      rw [hnx]
      clear hnx
      refine S_seq fun nx hnx => ?_
      simp_arith [↓E_call' h4, ioF__law_right]
      refine Exists.intro a ?_
      refine ⟨b', c, f', rfl, nb, nf, Bi.of (by omega), Bi.of (by omega), Bi.of (by omega), Bi.of (by omega), ?_⟩
      simp_arith [↓E_call' h4, ioF__law_right]
      refine Exists.intro a ?_
      refine ⟨b', -a, b', rfl, nb, nb, Bi.of (by omega), Bi.of (by omega), Bi.of (by omega), Bi.of (by omega), ?_⟩
      simp_arith []
      rw [hnx]
      clear hnx
      refine S_seq fun nx hnx => ?_
      simp_arith [↓E_comp, ↓I_tupn, ↓srcR_im, itD, sl_0, sl_1, sl_2, sl_3, sl_4, sl_5, sl_6, sl_7, sl_8, sl_9, sl_10, sl_11, sl_12, sl_13, sl_14, sl_15, sl_16, sl_17, sl_18, sl_19, sl_20, sl_21, sl_22, sl_23, sl_24, sl_25, sl_26, sl_27, sl_28, sl_29, sl_30]
      refine compW_map mkF (fun e => ∃ s12, e = [.im (.scr (ns.map .int)), .im (.int k), .ow (potD p1 q1), .im (.int a), .im (.int b'), .im (.int c), .im (.int f'), s7, s8, s9, s10, .un, s12] ∧ Jn s12) (fun e he i h => nomatch h) (fun d hd e k he hk => ?tn2) ⟨_, rfl, ju⟩ fun e' he => ?fn2
      case tn2 =>
        obtain ⟨s12, rfl, j12⟩ := he
        obtain ⟨x, rfl⟩ : ∃ x : Int, d = .int x := by
          simp only [List.mem_cons, List.not_mem_nil, or_false] at hd
          rcases hd with h | h | h | h <;> exact ⟨_, h⟩
        simp only [cturn, bindT, wipeE]
        rw [show [Sl.im (D.scr (ns.map .int)), .im (.int _), .ow (potD p1 q1), .im (.int a), .im (.int b'), .im (.int c), .im (.int f'), s7, s8, s9, s10, .un, s12].set 12 .un = [Sl.im (D.scr (ns.map .int)), .im (.int _), .ow (potD p1 q1), .im (.int a), .im (.int b'), .im (.int c), .im (.int f'), s7, s8, s9, s10, .un, .un] from rfl]
        rw [st_j (s := Sl.un) rfl ju]
        simp_arith [bI_mod, bI_sub, bI_pow, p14, p15]
        refine ⟨⟨by decide, by decide, by decide⟩, by decide, ⟨by decide, by decide, by decide⟩, ?_⟩
        exact hk _ ⟨_, rfl, ji⟩
      obtain ⟨s12, rfl, j12⟩ := he
      rw [show wipeE [Sl.im (D.scr (ns.map .int)), .im (.int k), .ow (potD p1 q1), .im (.int a), .im (.int b'), .im (.int c), .im (.int f'), s7, s8, s9, s10, .un, s12] [12] = [Sl.im (D.scr (ns.map .int)), .im (.int k), .ow (potD p1 q1), .im (.int a), .im (.int b'), .im (.int c), .im (.int f'), s7, s8, s9, s10, .un, .un] from rfl]
      rw [List.nil_append, show [D.int a, .int b', .int c, .int f'].filterMap mkF = [D.int (mk15 a), .int (mk15 b'), .int (mk15 c), .int (mk15 f')] from rfl]
      have ka := mk15_b a
      have kb := mk15_b b'
      have kc := mk15_b c
      have kf := mk15_b f'
      generalize mk15 a = a' at ka
      generalize mk15 b' = x at kb
      generalize mk15 c = y at kc
      generalize mk15 f' = z at kf
      simp only [bindT, bindTs, Tg.len]
      refine ⟨rfl, ?_⟩
      rw [st_j (s := s7) rfl j7]
      simp only [bindT, bindTs, List.set_cons_zero, List.set_cons_succ]
      rw [st_j (s := s8) rfl j8]
      simp only [bindT, bindTs, List.set_cons_zero, List.set_cons_succ]
      rw [st_j (s := s9) rfl j9]
      simp only [bindT, bindTs, List.set_cons_zero, List.set_cons_succ]
      rw [st_j (s := s10) rfl j10]
      simp only [bindT, bindTs, List.set_cons_zero, List.set_cons_succ]
      rw [hnx]
      clear hnx
      simp_arith [bI_mul, bI_add, bI_sub, ↓E_call' h4, ioF__law_right]
      have Ba : Bi a' 50 := Bi.of ka
      have Bb : Bi x 50 := Bi.of kb
      have Bc : Bi y 50 := Bi.of kc
      have Bf : Bi z 50 := Bi.of kf
      have B7 : Bi (7 * x) 60 := Bi.of (by omega)
      have n1 : 0 ≤ x * x := by rcases Int.le_total 0 x with h | h; exact Int.mul_nonneg h h; exact Int.mul_nonneg_of_nonpos_of_nonpos h h
      have n2 : 0 ≤ z * z := by rcases Int.le_total 0 z with h | h; exact Int.mul_nonneg h h; exact Int.mul_nonneg_of_nonpos_of_nonpos h h
      have e7 : 7 * x * x = 7 * (x * x) := by rw [Int.mul_assoc]
      have b1 : Bi (7 * x * x + 1) 111 := ((B7.mul Bb).add (Bi.of (by decide : (1 : Int).natAbs < 2 ^ 1))).mono (by decide)
      have b2 : Bi (-1 - z * z) 102 := by
        have := ((Bf.mul Bf).add (Bi.of (by decide : (1 : Int).natAbs < 2 ^ 1)))
        exact (this.le (by omega)).mono (by decide)
      refine ⟨Ba.ok Bc (by decide) (by decide), mulok3 (by decide) (by omega), B7.ok Bb (by decide) (by decide), Bf.ok Bf (by decide) (by decide), ?_⟩
      refine Exists.intro (a' * y) ?_
      refine ⟨7 * x * x + 1, y, -1 - z * z, rfl, by omega, by omega, (Ba.mul Bc).mono (by decide), b1.mono (by decide), Bc.mono (by decide), b2.mono (by decide), ?_⟩
      simp_arith []
      exact hk _ ⟨hr, _, _, _, _, _, _, _, _, _, _, rfl, ji, jo, ji, ji, ji, ji, ji, ji, ji, ji⟩
    simp_arith []
    by_cases hb : b = 0
    · subst hb
      rw [show ((0 : Int) == 0) = true from rfl]
      by_cases hf : f = 0
      · subst hf
        simp_arith [show ((0 : Int) != 0) = false from rfl, stS]
        exact tail 7 (-5) (by decide) (by decide) (by decide) (by decide)
      · simp_arith [show ((0 : Int) != 0) = false from rfl, show (f != 0) = true from bne_iff_ne.mpr hf, stS]
        exact tail 7 f (by decide) hf (by decide) bf
    · rw [show (b == 0) = false from beq_false_of_ne hb]
      by_cases hf : f = 0
      · subst hf
        simp_arith [show ((0 : Int) == 0) = true from rfl, show ((0 : Int) != 0) = false from rfl, show (b != 0) = true from bne_iff_ne.mpr hb, stS]
        exact tail b (-5) hb (by decide) bb (by decide)
      · simp_arith [show (f == 0) = false from beq_false_of_ne hf]
        exact tail b f hb hf bb bf
  · obtain ⟨k, hk, rfl⟩ := List.mem_map.mp hd
    have := List.mem_range.mp hk
    exact ⟨k, rfl, by omega⟩
  · obtain ⟨_, s1, s2, s3, s4, s5, s6, s7, s8, s9, s10, rfl, _⟩ := hS
    rw [hnx]
    clear hnx
    simp_arith []
    first | exact q | exact ⟨[], rfl, q⟩ | exact ⟨_, rfl, q⟩
end LW
end
namespace LW
open PySem TG
def dH__law_kinds : Dh := { x := "_law_kinds", qual := "_law_kinds", st := topS 27, N := N__law_kinds, q := "_law_e", sm := sm__law_kinds, h := hx__law_kinds }
def hlL : List Dh := [dH__law_kinds]
def dC__law_pot : Df := { x := "_law_pot", qual := "_law_pot", st := topS 23, N := N__law_pot, ps := ps__law_pot, sm := sm__law_pot, fi := canon (gam (csX csL hlL) []) N__law_pot.length sm__law_pot io__law_pot }
theorem re__law_pot : FLe fi__law_pot dC__law_pot.fi := canon_of (gle_mk (l := []) (rest := []) trivial) (k__law_pot (gaT (csX csL hlL) []) )
theorem dt__law_pot : FDet dC__law_pot.fi := canon_det (gdet_mk (rest := []) trivial) _ _ _
def dC__law_take : Df := { x := "_law_take", qual := "_law_take", st := topS 24, N := N__law_take, ps := ps__law_take, sm := sm__law_take, fi := canon (gam (csX csL hlL) [dC__law_pot]) N__law_take.length sm__law_take io__law_take }
theorem re__law_take : FLe fi__law_take dC__law_take.fi := canon_of (gle_mk (l := []) (rest := [dC__law_pot]) trivial) (k__law_take (gaT (csX csL hlL) []) )
theorem dt__law_take : FDet dC__law_take.fi := canon_det (gdet_mk (rest := [dC__law_pot]) ⟨dt__law_pot, trivial⟩) _ _ _
def dC__law_number : Df := { x := "_law_number", qual := "_law_number", st := topS 25, N := N__law_number, ps := ps__law_number, sm := sm__law_number, fi := canon (gam (csX csL hlL) [dC__law_take, dC__law_pot]) N__law_number.length sm__law_number io__law_number }
theorem re__law_number : FLe fi__law_number dC__law_number.fi := canon_of (gle_mk (l := [("_law_take", fi__law_take)]) (rest := [dC__law_take, dC__law_pot]) ⟨⟨_, gam_fn (d := dC__law_take) 0 (by decide +kernel) rfl, re__law_take⟩, trivial⟩) (k__law_number (gaT (csX csL hlL) [("_law_take", fi__law_take)]) (gaT_fn (p := ("_law_take", fi__law_take)) 0 (by decide +kernel) rfl))
theorem dt__law_number : FDet dC__law_number.fi := canon_det (gdet_mk (rest := [dC__law_take, dC__law_pot]) ⟨dt__law_take, dt__law_pot, trivial⟩) _ _ _
def dC_common_divisor : Df := { x := "common_divisor", qual := "common_divisor", st := topS 17, N := N_common_divisor, ps := ps_common_divisor, sm := sm_common_divisor, fi := canon (gam (csX csL hlL) [dC__law_number, dC__law_take, dC__law_pot]) N_common_divisor.length sm_common_divisor io_common_divisor }
theorem re_common_divisor : FLe fi_common_divisor dC_common_divisor.fi := canon_of (gle_mk (l := []) (rest := [dC__law_number, dC__law_take, dC__law_pot]) trivial) (k_common_divisor (gaT (csX csL hlL) []) )
theorem dt_common_divisor : FDet dC_common_divisor.fi := canon_det (gdet_mk (rest := [dC__law_number, dC__law_take, dC__law_pot]) ⟨dt__law_number, dt__law_take, dt__law_pot, trivial⟩) _ _ _
def dC_fraction : Df := { x := "fraction", qual := "fraction", st := topS 18, N := N_fraction, ps := ps_fraction, sm := sm_fraction, fi := canon (gam (csX csL hlL) [dC_common_divisor, dC__law_number, dC__law_take, dC__law_pot]) N_fraction.length sm_fraction io_fraction }
theorem re_fraction : FLe fi_fraction dC_fraction.fi := canon_of (gle_mk (l := [("common_divisor", fi_common_divisor)]) (rest := [dC_common_divisor, dC__law_number, dC__law_take, dC__law_pot]) ⟨⟨_, gam_fn (d := dC_common_divisor) 0 (by decide +kernel) rfl, re_common_divisor⟩, trivial⟩) (k_fraction (gaT (csX csL hlL) [("common_divisor", fi_common_divisor)]) (gaT_fn (p := ("common_divisor", fi_common_divisor)) 0 (by decide +kernel) rfl))
theorem dt_fraction : FDet dC_fraction.fi := canon_det (gdet_mk (rest := [dC_common_divisor, dC__law_number, dC__law_take, dC__law_pot]) ⟨dt_common_divisor, dt__law_number, dt__law_take, dt__law_pot, trivial⟩) _ _ _
def dC__law_by_nought : Df := { x := "_law_by_nought", qual := "_law_by_nought", st := topS 28, N := N__law_by_nought, ps := ps__law_by_nought, sm := sm__law_by_nought, fi := canon (gam (csX csL hlL) [dC_fraction, dC_common_divisor, dC__law_number, dC__law_take, dC__law_pot]) N__law_by_nought.length sm__law_by_nought io__law_by_nought }
theorem re__law_by_nought : FLe fi__law_by_nought dC__law_by_nought.fi := canon_of (gle_mk (l := [("fraction", fi_fraction)]) (rest := [dC_fraction, dC_common_divisor, dC__law_number, dC__law_take, dC__law_pot]) ⟨⟨_, gam_fn (d := dC_fraction) 0 (by decide +kernel) rfl, re_fraction⟩, trivial⟩) (k__law_by_nought (gaT (csX csL hlL) [("fraction", fi_fraction)]) (gaT_fn (p := ("fraction", fi_fraction)) 0 (by decide +kernel) rfl) (gaX_fx (d := dH__law_kinds) 0 (by decide +kernel) rfl))
theorem dt__law_by_nought : FDet dC__law_by_nought.fi := canon_det (gdet_mk (rest := [dC_fraction, dC_common_divisor, dC__law_number, dC__law_take, dC__law_pot]) ⟨dt_fraction, dt_common_divisor, dt__law_number, dt__law_take, dt__law_pot, trivial⟩) _ _ _
def dC_fraction_sum : Df := { x := "fraction_sum", qual := "fraction_sum", st := topS 19, N := N_fraction_sum, ps := ps_fraction_sum, sm := sm_fraction_sum, fi := canon (gam (csX csL hlL) [dC__law_by_nought, dC_fraction, dC_common_divisor, dC__law_number, dC__law_take, dC__law_pot]) N_fraction_sum.length sm_fraction_sum io_fraction_sum }
theorem re_fraction_sum : FLe fi_fraction_sum dC_fraction_sum.fi := canon_of (gle_mk (l := [("fraction", fi_fraction)]) (rest := [dC__law_by_nought, dC_fraction, dC_common_divisor, dC__law_number, dC__law_take, dC__law_pot]) ⟨⟨_, gam_fn (d := dC_fraction) 1 (by decide +kernel) rfl, re_fraction⟩, trivial⟩) (k_fraction_sum (gaT (csX csL hlL) [("fraction", fi_fraction)]) (gaT_fn (p := ("fraction", fi_fraction)) 0 (by decide +kernel) rfl))
theorem dt_fraction_sum : FDet dC_fraction_sum.fi := canon_det (gdet_mk (rest := [dC__law_by_nought, dC_fraction, dC_common_divisor, dC__law_number, dC__law_take, dC__law_pot]) ⟨dt__law_by_nought, dt_fraction, dt_common_divisor, dt__law_number, dt__law_take, dt__law_pot, trivial⟩) _ _ _
def dC_is_less : Df := { x := "is_less", qual := "is_less", st := topS 21, N := N_is_less, ps := ps_is_less, sm := sm_is_less, fi := canon (gam (csX csL hlL) [dC_fraction_sum, dC__law_by_nought, dC_fraction, dC_common_divisor, dC__law_number, dC__law_take, dC__law_pot]) N_is_less.length sm_is_less io_is_less }
theorem re_is_less : FLe fi_is_less dC_is_less.fi := canon_of (gle_mk (l := []) (rest := [dC_fraction_sum, dC__law_by_nought, dC_fraction, dC_common_divisor, dC__law_number, dC__law_take, dC__law_pot]) trivial) (k_is_less (gaT (csX csL hlL) []) )
theorem dt_is_less : FDet dC_is_less.fi := canon_det (gdet_mk (rest := [dC_fraction_sum, dC__law_by_nought, dC_fraction, dC_common_divisor, dC__law_number, dC__law_take, dC__law_pot]) ⟨dt_fraction_sum, dt__law_by_nought, dt_fraction, dt_common_divisor, dt__law_number, dt__law_take, dt__law_pot, trivial⟩) _ _ _
def dC__law_is_it : Df := { x := "_law_is_it", qual := "_law_is_it", st := topS 26, N := N__law_is_it, ps := ps__law_is_it, sm := sm__law_is_it, fi := canon (gam (csX csL hlL) [dC_is_less, dC_fraction_sum, dC__law_by_nought, dC_fraction, dC_common_divisor, dC__law_number, dC__law_take, dC__law_pot]) N__law_is_it.length sm__law_is_it io__law_is_it }
theorem re__law_is_it : FLe fi__law_is_it dC__law_is_it.fi := canon_of (gle_mk (l := []) (rest := [dC_is_less, dC_fraction_sum, dC__law_by_nought, dC_fraction, dC_common_divisor, dC__law_number, dC__law_take, dC__law_pot]) trivial) (k__law_is_it (gaT (csX csL hlL) []) )
theorem dt__law_is_it : FDet dC__law_is_it.fi := canon_det (gdet_mk (rest := [dC_is_less, dC_fraction_sum, dC__law_by_nought, dC_fraction, dC_common_divisor, dC__law_number, dC__law_take, dC__law_pot]) ⟨dt_is_less, dt_fraction_sum, dt__law_by_nought, dt_fraction, dt_common_divisor, dt__law_number, dt__law_take, dt__law_pot, trivial⟩) _ _ _
def dC_fraction_times : Df := { x := "fraction_times", qual := "fraction_times", st := topS 20, N := N_fraction_times, ps := ps_fraction_times, sm := sm_fraction_times, fi := canon (gam (csX csL hlL) [dC__law_is_it, dC_is_less, dC_fraction_sum, dC__law_by_nought, dC_fraction, dC_common_divisor, dC__law_number, dC__law_take, dC__law_pot]) N_fraction_times.length sm_fraction_times io_fraction_times }
theorem re_fraction_times : FLe fi_fraction_times dC_fraction_times.fi := canon_of (gle_mk (l := [("fraction", fi_fraction)]) (rest := [dC__law_is_it, dC_is_less, dC_fraction_sum, dC__law_by_nought, dC_fraction, dC_common_divisor, dC__law_number, dC__law_take, dC__law_pot]) ⟨⟨_, gam_fn (d := dC_fraction) 4 (by decide +kernel) rfl, re_fraction⟩, trivial⟩) (k_fraction_times (gaT (csX csL hlL) [("fraction", fi_fraction)]) (gaT_fn (p := ("fraction", fi_fraction)) 0 (by decide +kernel) rfl))
theorem dt_fraction_times : FDet dC_fraction_times.fi := canon_det (gdet_mk (rest := [dC__law_is_it, dC_is_less, dC_fraction_sum, dC__law_by_nought, dC_fraction, dC_common_divisor, dC__law_number, dC__law_take, dC__law_pot]) ⟨dt__law_is_it, dt_is_less, dt_fraction_sum, dt__law_by_nought, dt_fraction, dt_common_divisor, dt__law_number, dt__law_take, dt__law_pot, trivial⟩) _ _ _
def dC__law_right : Df := { x := "_law_right", qual := "_law_right", st := topS 29, N := N__law_right, ps := ps__law_right, sm := sm__law_right, fi := canon (gam (csX csL hlL) [dC_fraction_times, dC__law_is_it, dC_is_less, dC_fraction_sum, dC__law_by_nought, dC_fraction, dC_common_divisor, dC__law_number, dC__law_take, dC__law_pot]) N__law_right.length sm__law_right io__law_right }
theorem re__law_right : FLe fi__law_right dC__law_right.fi := canon_of (gle_mk (l := [("fraction", fi_fraction), ("_law_is_it", fi__law_is_it), ("fraction_sum", fi_fraction_sum), ("fraction_times", fi_fraction_times), ("is_less", fi_is_less)]) (rest := [dC_fraction_times, dC__law_is_it, dC_is_less, dC_fraction_sum, dC__law_by_nought, dC_fraction, dC_common_divisor, dC__law_number, dC__law_take, dC__law_pot]) ⟨⟨_, gam_fn (d := dC_fraction) 5 (by decide +kernel) rfl, re_fraction⟩, ⟨_, gam_fn (d := dC__law_is_it) 1 (by decide +kernel) rfl, re__law_is_it⟩, ⟨_, gam_fn (d := dC_fraction_sum) 3 (by decide +kernel) rfl, re_fraction_sum⟩, ⟨_, gam_fn (d := dC_fraction_times) 0 (by decide +kernel) rfl, re_fraction_times⟩, ⟨_, gam_fn (d := dC_is_less) 2 (by decide +kernel) rfl, re_is_less⟩, trivial⟩) (k__law_right (gaT (csX csL hlL) [("fraction", fi_fraction), ("_law_is_it", fi__law_is_it), ("fraction_sum", fi_fraction_sum), ("fraction_times", fi_fraction_times), ("is_less", fi_is_less)]) (gaT_fn (p := ("fraction", fi_fraction)) 0 (by decide +kernel) rfl) (gaT_fn (p := ("_law_is_it", fi__law_is_it)) 1 (by decide +kernel) rfl) (gaT_fn (p := ("fraction_sum", fi_fraction_sum)) 2 (by decide +kernel) rfl) (gaT_fn (p := ("fraction_times", fi_fraction_times)) 3 (by decide +kernel) rfl) (gaT_fn (p := ("is_less", fi_is_less)) 4 (by decide +kernel) rfl))
theorem dt__law_right : FDet dC__law_right.fi := canon_det (gdet_mk (rest := [dC_fraction_times, dC__law_is_it, dC_is_less, dC_fraction_sum, dC__law_by_nought, dC_fraction, dC_common_divisor, dC__law_number, dC__law_take, dC__law_pot]) ⟨dt_fraction_times, dt__law_is_it, dt_is_less, dt_fraction_sum, dt__law_by_nought, dt_fraction, dt_common_divisor, dt__law_number, dt__law_take, dt__law_pot, trivial⟩) _ _ _
def dC_law : Df := { x := "law", qual := "law", st := topS 30, N := N_law, ps := ps_law, sm := sm_law, fi := canon (gam (csX csL hlL) [dC__law_right, dC_fraction_times, dC__law_is_it, dC_is_less, dC_fraction_sum, dC__law_by_nought, dC_fraction, dC_common_divisor, dC__law_number, dC__law_take, dC__law_pot]) N_law.length sm_law io_law }
theorem re_law : FLe fi_law dC_law.fi := canon_of (gle_mk (l := [("_law_pot", fi__law_pot), ("_law_number", fi__law_number), ("_law_by_nought", fi__law_by_nought), ("_law_right", fi__law_right)]) (rest := [dC__law_right, dC_fraction_times, dC__law_is_it, dC_is_less, dC_fraction_sum, dC__law_by_nought, dC_fraction, dC_common_divisor, dC__law_number, dC__law_take, dC__law_pot]) ⟨⟨_, gam_fn (d := dC__law_pot) 10 (by decide +kernel) rfl, re__law_pot⟩, ⟨_, gam_fn (d := dC__law_number) 8 (by decide +kernel) rfl, re__law_number⟩, ⟨_, gam_fn (d := dC__law_by_nought) 5 (by decide +kernel) rfl, re__law_by_nought⟩, ⟨_, gam_fn (d := dC__law_right) 0 (by decide +kernel) rfl, re__law_right⟩, trivial⟩) (k_law (gaT (csX csL hlL) [("_law_pot", fi__law_pot), ("_law_number", fi__law_number), ("_law_by_nought", fi__law_by_nought), ("_law_right", fi__law_right)]) (gaT_fn (p := ("_law_pot", fi__law_pot)) 0 (by decide +kernel) rfl) (gaT_fn (p := ("_law_number", fi__law_number)) 1 (by decide +kernel) rfl) (gaT_fn (p := ("_law_by_nought", fi__law_by_nought)) 2 (by decide +kernel) rfl) (gaT_fn (p := ("_law_right", fi__law_right)) 3 (by decide +kernel) rfl))
theorem dt_law : FDet dC_law.fi := canon_det (gdet_mk (rest := [dC__law_right, dC_fraction_times, dC__law_is_it, dC_is_less, dC_fraction_sum, dC__law_by_nought, dC_fraction, dC_common_divisor, dC__law_number, dC__law_take, dC__law_pot]) ⟨dt__law_right, dt_fraction_times, dt__law_is_it, dt_is_less, dt_fraction_sum, dt__law_by_nought, dt_fraction, dt_common_divisor, dt__law_number, dt__law_take, dt__law_pot, trivial⟩) _ _ _
theorem tx_common_divisor : DfTxt bl dC_common_divisor := ⟨⟨rfl, rfl, rfl, by decide +kernel, rfl, by decide +kernel, by decide +kernel⟩, rfl, by decide +kernel⟩
theorem ba_common_divisor : BindsA "common_divisor" (topS 17) ps_common_divisor := fun _ _ _ _ _ _ us hl => match us, hl with | [_, _], _ => rfl
theorem tx_fraction : DfTxt bl dC_fraction := ⟨⟨rfl, rfl, rfl, by decide +kernel, rfl, by decide +kernel, by decide +kernel⟩, rfl, by decide +kernel⟩
theorem ba_fraction : BindsA "fraction" (topS 18) ps_fraction := fun _ _ _ _ _ _ us hl => match us, hl with | [_, _], _ => rfl
theorem tx_fraction_sum : DfTxt bl dC_fraction_sum := ⟨⟨rfl, rfl, rfl, by decide +kernel, rfl, by decide +kernel, by decide +kernel⟩, rfl, by decide +kernel⟩
theorem ba_fraction_sum : BindsA "fraction_sum" (topS 19) ps_fraction_sum := fun _ _ _ _ _ _ us hl => match us, hl with | [_, _], _ => rfl
theorem tx_fraction_times : DfTxt bl dC_fraction_times := ⟨⟨rfl, rfl, rfl, by decide +kernel, rfl, by decide +kernel, by decide +kernel⟩, rfl, by decide +kernel⟩
theorem ba_fraction_times : BindsA "fraction_times" (topS 20) ps_fraction_times := fun _ _ _ _ _ _ us hl => match us, hl with | [_, _], _ => rfl
theorem tx_is_less : DfTxt bl dC_is_less := ⟨⟨rfl, rfl, rfl, by decide +kernel, rfl, by decide +kernel, by decide +kernel⟩, rfl, by decide +kernel⟩
theorem ba_is_less : BindsA "is_less" (topS 21) ps_is_less := fun _ _ _ _ _ _ us hl => match us, hl with | [_, _], _ => rfl
theorem tx__law_pot : DfTxt bl dC__law_pot := ⟨⟨rfl, rfl, rfl, by decide +kernel, rfl, by decide +kernel, by decide +kernel⟩, rfl, by decide +kernel⟩
theorem ba__law_pot : BindsA "_law_pot" (topS 23) ps__law_pot := fun _ _ _ _ _ _ us hl => match us, hl with | [_, _], _ => rfl
theorem tx__law_take : DfTxt bl dC__law_take := ⟨⟨rfl, rfl, rfl, by decide +kernel, rfl, by decide +kernel, by decide +kernel⟩, rfl, by decide +kernel⟩
theorem ba__law_take : BindsA "_law_take" (topS 24) ps__law_take := fun _ _ _ _ _ _ us hl => match us, hl with | [_, _], _ => rfl
theorem tx__law_number : DfTxt bl dC__law_number := ⟨⟨rfl, rfl, rfl, by decide +kernel, rfl, by decide +kernel, by decide +kernel⟩, rfl, by decide +kernel⟩
theorem ba__law_number : BindsA "_law_number" (topS 25) ps__law_number := fun _ _ _ _ _ _ us hl => match us, hl with | [_], _ => rfl
theorem tx__law_is_it : DfTxt bl dC__law_is_it := ⟨⟨rfl, rfl, rfl, by decide +kernel, rfl, by decide +kernel, by decide +kernel⟩, rfl, by decide +kernel⟩
theorem ba__law_is_it : BindsA "_law_is_it" (topS 26) ps__law_is_it := fun _ _ _ _ _ _ us hl => match us, hl with | [_, _, _], _ => rfl
theorem tx__law_by_nought : DfTxt bl dC__law_by_nought := ⟨⟨rfl, rfl, rfl, by decide +kernel, rfl, by decide +kernel, by decide +kernel⟩, rfl, by decide +kernel⟩
theorem ba__law_by_nought : BindsA "_law_by_nought" (topS 28) ps__law_by_nought := fun _ _ _ _ _ _ us hl => match us, hl with | [_], _ => rfl
theorem tx__law_right : DfTxt bl dC__law_right := ⟨⟨rfl, rfl, rfl, by decide +kernel, rfl, by decide +kernel, by decide +kernel⟩, rfl, by decide +kernel⟩
theorem ba__law_right : BindsA "_law_right" (topS 29) ps__law_right := fun _ _ _ _ _ _ us hl => match us, hl with | [_, _, _, _], _ => rfl
theorem tx_law : DfTxt bl dC_law := ⟨⟨rfl, rfl, rfl, by decide +kernel, rfl, by decide +kernel, by decide +kernel⟩, rfl, by decide +kernel⟩
theorem ba_law : BindsA "law" (topS 30) ps_law := fun _ _ _ _ _ _ us hl => match us, hl with | [_], _ => rfl
theorem tx__law_kinds : DhTxt bl dH__law_kinds := ⟨⟨rfl, rfl, rfl, by decide +kernel, rfl, by decide +kernel, by decide +kernel⟩, by decide +kernel, kh__law_kinds⟩
theorem ba__law_kinds : BindsA "_law_kinds" (topS 27) ps__law_kinds := fun _ _ _ _ _ _ us hl => match us, hl with | [_], _ => rfl
theorem txh_all : AllH (DhTxt bl) hlL := ⟨tx__law_kinds, trivial⟩
theorem bah_all : AllH (fun e => BindsA e.x e.st [e.q]) hlL := ⟨ba__law_kinds, trivial⟩
theorem quh_all : AllH (fun e => e.qual = e.x) hlL := ⟨rfl, trivial⟩
theorem mk_all : bl.all (okM xkL xtL) = true := by decide +kernel
def rest : List Df := [dC__law_right, dC_fraction_times, dC__law_is_it, dC_is_less, dC_fraction_sum, dC__law_by_nought, dC_fraction, dC_common_divisor, dC__law_number, dC__law_take, dC__law_pot]
theorem tx_all : AllD (DfTxt bl) (dC_law :: rest) := ⟨tx_law, tx__law_right, tx_fraction_times, tx__law_is_it, tx_is_less, tx_fraction_sum, tx__law_by_nought, tx_fraction, tx_common_divisor, tx__law_number, tx__law_take, tx__law_pot, trivial⟩
theorem ba_all : AllD (fun e => BindsA e.x e.st e.ps) (dC_law :: rest) := ⟨ba_law, ba__law_right, ba_fraction_times, ba__law_is_it, ba_is_less, ba_fraction_sum, ba__law_by_nought, ba_fraction, ba_common_divisor, ba__law_number, ba__law_take, ba__law_pot, trivial⟩
theorem qu_all : AllD (fun e => e.qual = e.x) (dC_law :: rest) := ⟨rfl, rfl, rfl, rfl, rfl, rfl, rfl, rfl, rfl, rfl, rfl, rfl, trivial⟩
theorem ke_all : KeepsAll (csX csL hlL) (dC_law :: rest) := ⟨canon_keeps _ _ _ _, canon_keeps _ _ _ _, canon_keeps _ _ _ _, canon_keeps _ _ _ _, canon_keeps _ _ _ _, canon_keeps _ _ _ _, canon_keeps _ _ _ _, canon_keeps _ _ _ _, canon_keeps _ _ _ _, canon_keeps _ _ _ _, canon_keeps _ _ _ _, canon_keeps _ _ _ _, trivial⟩
theorem law_true : ∀ ns : List Int, ns.length ≤ 63 → dC_law.fi.sp [.scr (ns.map .int)] (fun r _ => r = .im (.bl true)) (fun _ _ => False) := fun ns h => re_law.2 _ _ _ _ _ (fun _ _ h => h) (fun _ _ h => h) ⟨ns, h, rfl, rfl⟩
end LW
open PySem PySem.W PyProof.Rows
set_option maxHeartbeats 0 in
theorem PySem.Challenge.cw_twogoods_k61_fractions_reckoned_holds : PySem.Challenge.rw_twogoods_k61_fractions_reckoned.Holds := by
  w_on; o_law; k_head; (case hw => w_witness2)
  k_fill
  refine TG.walk_ofG (l := PySem.Challenge.rw_twogoods_k61_fractions_reckoned) (n := 63) (k := 13) (x := "_law_script") (sp := fun w => TG.spL 63 _) rfl (by decide) rfl ⟨⟨rfl, by decide, by decide⟩, rfl⟩ (fun w h Y => PySem.W.kIn_of Y) ?F (fun _ H a ns hl ho hS => ⟨a, ns, rfl, ho, hS, hl, fun _ => rfl⟩) (fun {_ _ _ _ _} h => TG.no_exc h)
  case F =>
    intro w mg fa h KX G hmg
    refine' TG.law_F (n := 63) (rest := LW.rest) (d := LW.dC_law) KX G hmg "_law_script" rfl rfl LW.qu_all ?hF LW.ba_all LW.tx_all ?hbl ?hcs LW.ke_all LW.mk_all ?hxk ?hxt LW.quh_all ?hhF LW.bah_all LW.txh_all LW.law_true
    case hF =>
      refine' ⟨TG.dff_mk (x := "law") (st := LW.topS 30) ?a0 ?l0 ?c0 ?k0, TG.dff_mk (x := "_law_right") (st := LW.topS 29) ?a1 ?l1 ?c1 ?k1, TG.dff_mk (x := "fraction_times") (st := LW.topS 20) ?a2 ?l2 ?c2 ?k2, TG.dff_mk (x := "_law_is_it") (st := LW.topS 26) ?a3 ?l3 ?c3 ?k3, TG.dff_mk (x := "is_less") (st := LW.topS 21) ?a4 ?l4 ?c4 ?k4, TG.dff_mk (x := "fraction_sum") (st := LW.topS 19) ?a5 ?l5 ?c5 ?k5, TG.dff_mk (x := "_law_by_nought") (st := LW.topS 28) ?a6 ?l6 ?c6 ?k6, TG.dff_mk (x := "fraction") (st := LW.topS 18) ?a7 ?l7 ?c7 ?k7, TG.dff_mk (x := "common_divisor") (st := LW.topS 17) ?a8 ?l8 ?c8 ?k8, TG.dff_mk (x := "_law_number") (st := LW.topS 25) ?a9 ?l9 ?c9 ?k9, TG.dff_mk (x := "_law_take") (st := LW.topS 24) ?a10 ?l10 ?c10 ?k10, TG.dff_mk (x := "_law_pot") (st := LW.topS 23) ?a11 ?l11 ?c11 ?k11, trivial⟩
      (case a0 => k_is); (case l0 => k_is); (case c0 => k_is); (case k0 => k_is)
      (case a1 => k_is); (case l1 => k_is); (case c1 => k_is); (case k1 => k_is)
      (case a2 => k_is); (case l2 => k_is); (case c2 => k_is); (case k2 => k_is)
      (case a3 => k_is); (case l3 => k_is); (case c3 => k_is); (case k3 => k_is)
      (case a4 => k_is); (case l4 => k_is); (case c4 => k_is); (case k4 => k_is)
      (case a5 => k_is); (case l5 => k_is); (case c5 => k_is); (case k5 => k_is)
      (case a6 => k_is); (case l6 => k_is); (case c6 => k_is); (case k6 => k_is)
      (case a7 => k_is); (case l7 => k_is); (case c7 => k_is); (case k7 => k_is)
      (case a8 => k_is); (case l8 => k_is); (case c8 => k_is); (case k8 => k_is)
      (case a9 => k_is); (case l9 => k_is); (case c9 => k_is); (case k9 => k_is)
      (case a10 => k_is); (case l10 => k_is); (case c10 => k_is); (case k10 => k_is)
      (case a11 => k_is); (case l11 => k_is); (case c11 => k_is); (case k11 => k_is)
    case hhF =>
      refine' ⟨TG.dff_mk (x := "_law_kinds") (st := LW.topS 27) ?ha0 ?hl0 ?hc0 ?hk0, trivial⟩
      (case ha0 => k_is); (case hl0 => k_is); (case hc0 => k_is); (case hk0 => k_is)
    case hxk =>
      refine' ⟨?xk0, trivial⟩
      (case xk0 => kernel_rfl)
    case hxt =>
      refine' ⟨?xt0, ?xt1, ?xt2, ?xt3, ?xt4, ?xt5, ?xt6, ?xt7, ?xt8, ?xt9, ?xt10, ?xt11, ?xt12, ?xt13, ?xt14, trivial⟩
      (case xt0 => kernel_rfl)
      (case xt1 => kernel_rfl)
      (case xt2 => kernel_rfl)
      (case xt3 => kernel_rfl)
      (case xt4 => kernel_rfl)
      (case xt5 => kernel_rfl)
      (case xt6 => kernel_rfl)
      (case xt7 => kernel_rfl)
      (case xt8 => kernel_rfl)
      (case xt9 => kernel_rfl)
      (case xt10 => kernel_rfl)
      (case xt11 => kernel_rfl)
      (case xt12 => kernel_rfl)
      (case xt13 => kernel_rfl)
      (case xt14 => kernel_rfl)
    case hbl =>
      refine' ⟨TG.bl_mk (y := "ValueError") ?b0, TG.bl_mk (y := "abs") ?b1, TG.bl_mk (y := "all") ?b2, TG.bl_mk (y := "bool") ?b3, TG.bl_mk (y := "divmod") ?b4, TG.bl_mk (y := "enumerate") ?b5, TG.bl_mk (y := "int") ?b6, TG.bl_mk (y := "isinstance") ?b7, TG.bl_mk (y := "len") ?b8, TG.bl_mk (y := "max") ?b9, TG.bl_mk (y := "min") ?b10, TG.bl_mk (y := "range") ?b11, TG.bl_mk (y := "tuple") ?b12, TG.bl_mk (y := "!NoNumber") ?b13, TG.bl_mk (y := "?GoodsError") ?b14, TG.bl_mk (y := "?NoWeb") ?b15, TG.bl_mk (y := "?NoPlace") ?b16, TG.bl_mk (y := "?NoTie") ?b17, TG.bl_mk (y := "?NoLot") ?b18, TG.bl_mk (y := "?NoWishes") ?b19, TG.bl_mk (y := "?NoFlow") ?b20, TG.bl_mk (y := "?NotPaired") ?b21, TG.bl_mk (y := "?NoRoom") ?b22, TG.bl_mk (y := "?NotEven") ?b23, TG.bl_mk (y := "?NoTrade") ?b24, TG.bl_mk (y := "?NoNumber") ?b25, TG.bl_mk (y := "?NoText") ?b26, TG.bl_mk (y := "?NoRow") ?b27, TG.bl_mk (y := "?NoName") ?b28, trivial⟩
      (case b0 => k_is)
      (case b1 => k_is)
      (case b2 => k_is)
      (case b3 => k_is)
      (case b4 => k_is)
      (case b5 => k_is)
      (case b6 => k_is)
      (case b7 => k_is)
      (case b8 => k_is)
      (case b9 => k_is)
      (case b10 => k_is)
      (case b11 => k_is)
      (case b12 => k_is)
      (case b13 => k_is)
      (case b14 => k_is)
      (case b15 => k_is)
      (case b16 => k_is)
      (case b17 => k_is)
      (case b18 => k_is)
      (case b19 => k_is)
      (case b20 => k_is)
      (case b21 => k_is)
      (case b22 => k_is)
      (case b23 => k_is)
      (case b24 => k_is)
      (case b25 => k_is)
      (case b26 => k_is)
      (case b27 => k_is)
      (case b28 => k_is)
    case hcs =>
      exact trivial
